import PyProof.Rows.All
import Wide.All
import OpenK.AllK
import Wide.FinOn
import HandS.ForMost
import HandS.Exc
import HandS.ExcOwn
import HandS.WordsExc
import HandS.CallSlots
import HandS.Defaults
import HandS.Property
import HandS.ClsMeth
import HandS.Star
import HandS.Wide
import HandS.WideBits
import HandS.FStr
import HandS.IsInst
import HandS.Style
import HandS.Flow
import HandS.OwnEq
import KE.KCallOwn
import KE.KFmtOwn
import PyProof.ReprHeads
import HandS.Ends
import HandS.Text
import HandS.DictComp
import HandS.Conv
import PyProof.EqKinds
import PyProof.InstNe
import PyProof.EqAt
import PyProof.CallFns
import HandS.Deep
import KE.KxText
import KE.RegKIsAll
import PySem.Challenge.RW_calledmidway_k12_ratios_compared
set_option Elab.async false
set_option linter.all false
set_option maxRecDepth 100000
set_option maxHeartbeats 4000000
namespace DL
open PySem PySem.Spec PyProof.Rows L2

/-! ### data -/
/-- the classes by number -/
def cns : List Str := (["Ratio", "Form", "Book", "Draft", "Run", "Player", "Plane", "ShareRun", "Desk", "Heights", "DraftTrial", "MidwayError", "InvalidNumber", "InvalidName", "InvalidWeights", "InvalidForm", "InvalidPlace", "InvalidThings", "InvalidScenes", "InvalidArrows"] : List Str) ++ (["InvalidArrow", "InvalidResting", "InvalidEntry", "InvalidMotion", "InvalidBook", "InvalidCalls", "InvalidRun", "InvalidTime", "InvalidPlane", "InvalidPoint", "InvalidKind", "InvalidShares", "InvalidWishes", "InvalidMends", "InvalidText", "InvalidClaim", "InvalidCommand", "MissingError", "UnknownThing", "UnknownScene"] : List Str) ++ (["UnknownArrow", "UnknownName", "StateError", "DividedByZero", "ArrowTaken", "NameTaken", "NoFirst", "NotAllowed", "NoArrow", "TooEarly", "NothingToUndo", "CommandFailed", "LimitError", "TooMany", "PlayerTrial", "TableReader", "BookReading", "RunReading", "WayHeights"] : List Str)
def cn (i : Nat) : Str := cns.getD i ""
/-- an instance's attributes: none twice, none of them the class's -/
structure FsOk (K : PySem.W.Frag) (C : Addr) (fs : List (Str × V)) : Prop where
  nd : (fs.map (·.1)).Nodup
  no : ∀ k ∈ fs.map (·.1), NoAttr K C k
/-- data that does not change -/
inductive P where
  | non | bl (b : Bool) | int (i : Int) | str (x : Str)
  | lst (xs : List P) | tup (xs : List P) | dic (kvs : List (Key × P)) | obj (c : Nat) (fs : List (Str × P)) | cls (c : Nat) | bty (n : String)
/-- a value: data, or a place of the store -/
inductive Val where
  | dat (p : P) | loc (n : Nat)
/-- what stands at a place of the store -/
inductive Cont where
  | dead | lst (xs : List P) | dic (kvs : List (Key × P)) | obj (c : Nat) (fs : List (Str × P))
abbrev Store := List Cont
/-- how a reckoning ends -/
inductive Rs (α : Type) where
  | ok (a : α) (S : Store) | exc (c : Nat) (fs : List (Str × P)) (S : Store) | bad
abbrev Slots := List (Option Val)
abbrev Ex := Slots → Store → Rs Val
abbrev Ar := Slots → Store → Rs (List Val)
inductive Out where
  | nx (ρ : Slots) (S : Store) | rt (v : Val) (S : Store) | bk (ρ : Slots) (S : Store) | ct (ρ : Slots) (S : Store) | exc (c : Nat) (fs : List (Str × P)) (ρ : Slots) (S : Store) | bad
abbrev Sm := Slots → Store → Out
abbrev Fm := List Val → Store → Rs Val
def Rs.bind {α β : Type} (r : Rs α) (k : α → Store → Rs β) : Rs β := match r with
  | .ok a S => k a S
  | .exc c fs S => .exc c fs S
  | .bad => .bad
def Rs.out {α : Type} (r : Rs α) (ρ : Slots) (k : α → Store → Out) : Out := match r with
  | .ok a S => k a S
  | .exc c fs S => .exc c fs ρ S
  | .bad => .bad

/-! ### how data stands in the heap -/
section
variable (K : PySem.W.Frag) (mg : Str → Option Value)
mutual
inductive Rep : Hp → V → P → Prop where
  | non {F} : Rep F .non .non
  | bl {F} (b) : Rep F (.bl b) (.bl b)
  | int {F} (i) : Rep F (.int i) (.int i)
  | str {F} (x) : Rep F (.str x) (.str x)
  | lst {F a vs xs} : SqL K F a vs → Reps F vs xs → Rep F (.ref a) (.lst xs)
  | tup {F a vs xs} : SqT K F a vs → Reps F vs xs → Rep F (.ref a) (.tup xs)
  | dic {F a kvs kps} : F a = some (.dK kvs) → RepK F kvs kps → Rep F (.ref a) (.dic kps)
  | obj {F a C dx fs fps c} : mg (cn c) = some (.ref C) → F a = some (.ins C dx fs) → FsOk K C fs → RepF F fs fps → Rep F (.ref a) (.obj c fps)
  | cls {F C c} : mg (cn c) = some (.ref C) → Rep F (.ref C) (.cls c)
  | bty {F} (n) : Rep F (.ty n) (.bty n)
inductive Reps : Hp → List V → List P → Prop where
  | nil {F} : Reps F [] []
  | cons {F v p vs ps} : Rep F v p → Reps F vs ps → Reps F (v :: vs) (p :: ps)
inductive RepK : Hp → List (Key × V) → List (Key × P) → Prop where
  | nil {F} : RepK F [] []
  | cons {F k v p vs ps} : Rep F v p → RepK F vs ps → RepK F ((k, v) :: vs) ((k, p) :: ps)
inductive RepF : Hp → List (Str × V) → List (Str × P) → Prop where
  | nil {F} : RepF F [] []
  | cons {F k v p vs ps} : Rep F v p → RepF F vs ps → RepF F ((k, v) :: vs) ((k, p) :: ps)
end
end
section
variable {K : PySem.W.Frag} {mg : Str → Option Value} {F F' : Hp}
theorem same_sqt {a : Addr} {xs : List V} (s : Same F F') (h : SqT K F a xs) : SqT K F' a xs := by
  rcases h with (h | ⟨o, h⟩) | h
  · exact .inl (.inl (s _ _ h))
  · exact .inl (.inr ⟨o, s _ _ h⟩)
  · exact .inr h
mutual
theorem Rep.mono (s : Same F F') : ∀ {v : V} {p : P}, Rep K mg F v p → Rep K mg F' v p
  | _, _, .non => .non
  | _, _, .bl b => .bl b
  | _, _, .int i => .int i
  | _, _, .str x => .str x
  | _, _, .lst h r => .lst (s.seq h) (Reps.mono s r)
  | _, _, .tup h r => .tup (same_sqt s h) (Reps.mono s r)
  | _, _, .dic h r => .dic (s _ _ h) (RepK.mono s r)
  | _, _, .obj c h o r => .obj c (s _ _ h) o (RepF.mono s r)
  | _, _, .cls c => .cls c
  | _, _, .bty n => .bty n
theorem Reps.mono (s : Same F F') : ∀ {v : List V} {p : List P}, Reps K mg F v p → Reps K mg F' v p
  | _, _, .nil => .nil
  | _, _, .cons h r => .cons (Rep.mono s h) (Reps.mono s r)
theorem RepK.mono (s : Same F F') : ∀ {v : List (Key × V)} {p : List (Key × P)}, RepK K mg F v p → RepK K mg F' v p
  | _, _, .nil => .nil
  | _, _, .cons h r => .cons (Rep.mono s h) (RepK.mono s r)
theorem RepF.mono (s : Same F F') : ∀ {v : List (Str × V)} {p : List (Str × P)}, RepF K mg F v p → RepF K mg F' v p
  | _, _, .nil => .nil
  | _, _, .cons h r => .cons (Rep.mono s h) (RepF.mono s r)
end
theorem Reps.length : ∀ {v : List V} {p : List P}, Reps K mg F v p → v.length = p.length
  | _, _, .nil => rfl
  | _, _, .cons _ r => congrArg Nat.succ (Reps.length r)
theorem Reps.get : ∀ {v : List V} {p : List P} {i : Nat} {x : P}, Reps K mg F v p → p[i]? = some x → ∃ u, v[i]? = some u ∧ Rep K mg F u x
  | _, _, _, _, .nil, e => by simp at e
  | _, _, 0, _, .cons h _, e => by
    simp at e
    subst e
    exact ⟨_, rfl, h⟩
  | _, _, i + 1, x, .cons _ r, e => by
    obtain ⟨u, h1, h2⟩ := Reps.get (i := i) (x := x) r (by simpa using e)
    exact ⟨u, by simpa using h1, h2⟩
theorem Reps.getV : ∀ {v : List V} {p : List P} {i : Nat} {u : V}, Reps K mg F v p → v[i]? = some u → ∃ x, p[i]? = some x ∧ Rep K mg F u x
  | _, _, _, _, .nil, e => by simp at e
  | _, _, 0, _, .cons h _, e => by
    simp at e
    subst e
    exact ⟨_, rfl, h⟩
  | _, _, i + 1, x, .cons _ r, e => by
    obtain ⟨u, h1, h2⟩ := Reps.getV (i := i) (u := x) r (by simpa using e)
    exact ⟨u, by simpa using h1, h2⟩
theorem Reps.append : ∀ {v v' : List V} {p p' : List P}, Reps K mg F v p → Reps K mg F v' p' → Reps K mg F (v ++ v') (p ++ p')
  | _, _, _, _, .nil, s => s
  | _, _, _, _, .cons h r, s => .cons h (Reps.append r s)
theorem Reps.set {u : V} {x : P} (h : Rep K mg F u x) : ∀ {v : List V} {p : List P} (i : Nat), Reps K mg F v p → Reps K mg F (v.set i u) (p.set i x)
  | _, _, _, .nil => .nil
  | _, _, 0, .cons _ r => .cons h r
  | _, _, i + 1, .cons q r => .cons q (Reps.set h i r)
theorem RepF.look : ∀ {fs : List (Str × V)} {ps : List (Str × P)} {f : Str} {p : P}, RepF K mg F fs ps → ps.lookup f = some p → ∃ v, fs.lookup f = some v ∧ Rep K mg F v p
  | _, _, _, _, .nil, e => by simp at e
  | _, _, f, p, .cons (k := k) h r, e => by
    rw [List.lookup_cons] at e ⊢
    cases q : f == k with
    | true =>
      rw [q] at e
      cases e
      exact ⟨_, rfl, h⟩
    | false =>
      rw [q] at e
      exact RepF.look r e
theorem RepF.none : ∀ {fs : List (Str × V)} {ps : List (Str × P)} {f : Str}, RepF K mg F fs ps → ps.lookup f = none → fs.lookup f = none
  | _, _, _, .nil, _ => rfl
  | _, _, f, .cons (k := k) h r, e => by
    rw [List.lookup_cons] at e ⊢
    cases q : f == k with
    | true => rw [q] at e; cases e
    | false =>
      rw [q] at e
      exact RepF.none r e
theorem RepF.length : ∀ {v : List (Str × V)} {p : List (Str × P)}, RepF K mg F v p → v.length = p.length
  | _, _, .nil => rfl
  | _, _, .cons _ r => congrArg Nat.succ (RepF.length r)
theorem RepK.length : ∀ {v : List (Key × V)} {p : List (Key × P)}, RepK K mg F v p → v.length = p.length
  | _, _, .nil => rfl
  | _, _, .cons _ r => congrArg Nat.succ (RepK.length r)
def putP (f : Str) (v : P) : List (Str × P) → List (Str × P)
  | [] => [(f, v)]
  | (g, u) :: r => if g = f then (g, v) :: r else (g, u) :: putP f v r
theorem RepF.put {f : Str} {u : V} {x : P} (h : Rep K mg F u x) : ∀ {fs : List (Str × V)} {ps : List (Str × P)}, RepF K mg F fs ps → RepF K mg F (putF f u fs) (putP f x ps)
  | _, _, .nil => .cons h .nil
  | _, _, .cons (k := k) q r => by
    show RepF K mg F (if k = f then _ else _) (if k = f then _ else _)
    by_cases e : k = f
    · rw [if_pos e, if_pos e]
      exact .cons h r
    · rw [if_neg e, if_neg e]
      exact .cons q (RepF.put h r)
end

/-! ### the world: F what does not change any more, L the places of the store -/
inductive CR (K : PySem.W.Frag) (mg : Str → Option Value) (F : Hp) : HO → Cont → Prop where
  | lst {vs xs} : Reps K mg F vs xs → CR K mg F (.lst vs) (.lst xs)
  | dic {kvs kps} : RepK K mg F kvs kps → CR K mg F (.dK kvs) (.dic kps)
  | obj {C dx fs c fps} : mg (cn c) = some (.ref C) → FsOk K C fs → RepF K mg F fs fps → CR K mg F (.ins C dx fs) (.obj c fps)
theorem CR.mono {K : PySem.W.Frag} {mg : Str → Option Value} {F F' : Hp} (s : Same F F') {o : HO} {c : Cont} : CR K mg F o c → CR K mg F' o c
  | .lst r => .lst (r.mono s)
  | .dic r => .dic (r.mono s)
  | .obj c o r => .obj c o (r.mono s)
/-- F stands in H (a dict of F may be locked there) -/
def SubF (F H : Hp) : Prop := ∀ a o, F a = some o → H a = some o ∨ ∃ kvs ob, o = .dK kvs ∧ H a = some (.frz ob o)
section
variable {K : PySem.W.Frag} {F F' H : Hp} {a : Addr} {xs : List V}
theorem SubF.free (s : SubF F H) (h : H a = none) : F a = none := by
  cases e : F a with
  | none => rfl
  | some o =>
    rcases s a o e with q | ⟨_, _, _, q⟩
    · rw [h] at q; cases q
    · rw [h] at q; cases q
theorem SubF.seq (s : SubF F H) (h : SqL K F a xs) : SqL K H a xs := by
  rcases h with (h | ⟨o, h⟩) | h
  · rcases s _ _ h with q | ⟨_, _, q, _⟩
    · exact .inl (.inl q)
    · cases q
  · rcases s _ _ h with q | ⟨_, _, q, _⟩
    · exact .inl (.inr ⟨o, q⟩)
    · cases q
  · exact .inr h
theorem SubF.sqt (s : SubF F H) (h : SqT K F a xs) : SqT K H a xs := by
  rcases h with (h | ⟨o, h⟩) | h
  · rcases s _ _ h with q | ⟨_, _, q, _⟩
    · exact .inl (.inl q)
    · cases q
  · rcases s _ _ h with q | ⟨_, _, q, _⟩
    · exact .inl (.inr ⟨o, q⟩)
    · cases q
  · exact .inr h
theorem SubF.ins {C dx : Addr} {fs : List (Str × V)} (s : SubF F H) (h : F a = some (.ins C dx fs)) : H a = some (.ins C dx fs) := by
  rcases s _ _ h with q | ⟨_, _, q, _⟩
  · exact q
  · cases q
theorem SubF.dic {kvs : List (Key × V)} (s : SubF F H) (h : F a = some (.dK kvs)) : Rd H a (.dK kvs) := by
  rcases s _ _ h with q | ⟨_, ob, _, q⟩
  · exact .inl q
  · exact .inr ⟨ob, q⟩
end
structure WR (K : PySem.W.Frag) (mg : Str → Option Value) (F : Hp) (L : List Addr) (H : Hp) (S : Store) : Prop where
  sub : SubF F H
  al : ∀ a ∈ L, ∃ o, H a = some o
  len : L.length = S.length
  nd : L.Nodup
  own : ∀ (n : Nat) (a : Addr) (c : Cont), L[n]? = some a → S[n]? = some c → c ≠ .dead → F a = none ∧ ∃ o, H a = some o ∧ CR K mg F o c
inductive VR (K : PySem.W.Frag) (mg : Str → Option Value) (F : Hp) (L : List Addr) : V → Val → Prop where
  | dat {v p} : Rep K mg F v p → VR K mg F L v (.dat p)
  | loc {a n} : L[n]? = some a → VR K mg F L (.ref a) (.loc n)
inductive VRs (K : PySem.W.Frag) (mg : Str → Option Value) (F : Hp) (L : List Addr) : List V → List Val → Prop where
  | nil : VRs K mg F L [] []
  | cons {v d vs ds} : VR K mg F L v d → VRs K mg F L vs ds → VRs K mg F L (v :: vs) (d :: ds)
/-- what may have happened: F has grown, L has grown, all but L's objects are kept, and what is new was not there -/
structure Xt (F : Hp) (L : List Addr) (H : Hp) (F' : Hp) (L' : List Addr) (H' : Hp) : Prop where
  fr : Same F F'
  lp : L <+: L'
  kp : ∀ a o, H a = some o → (a ∉ L ∨ F a ≠ none) → H' a = some o ∨ (F a = some o ∧ ∃ kvs ob, o = .dK kvs ∧ H' a = some (.frz ob o))
  nw : ∀ a o, H a = some o → a ∉ L → F' a = F a ∧ a ∉ L'
theorem Xt.refl {F L H} : Xt F L H F L H := ⟨Same.refl _, List.prefix_refl _, fun _ o h _ => .inl h, fun _ _ _ n => ⟨rfl, n⟩⟩
theorem Xt.trans {F L H F1 L1 H1 F2 L2 H2} (a : Xt F L H F1 L1 H1) (b : Xt F1 L1 H1 F2 L2 H2) : Xt F L H F2 L2 H2 := by
  refine ⟨a.fr.trans b.fr, a.lp.trans b.lp, fun c o h n => ?_, fun c o h n => ?_⟩
  · have n1 : c ∉ L1 ∨ F1 c ≠ none := by
      rcases n with n | n
      · exact .inl (a.nw c o h n).2
      · right
        cases e : F c with
        | none => exact absurd e n
        | some u => rw [a.fr c u e]; simp
    rcases a.kp c o h n with h1 | ⟨hF, kvs, ob, e, h1⟩
    · rcases b.kp c o h1 n1 with h2 | ⟨hF, kvs, ob, e, h2⟩
      · exact .inl h2
      · refine .inr ⟨?_, kvs, ob, e, h2⟩
        rcases n with n | n
        · rw [← (a.nw c o h n).1]; exact hF
        · cases e3 : F c with
          | none => exact absurd e3 n
          | some u => rw [a.fr c u e3] at hF; exact hF
    · rcases b.kp c _ h1 n1 with h2 | ⟨_, kvs', ob', e', _⟩
      · exact .inr ⟨hF, kvs, ob, e, h2⟩
      · cases e'
  · obtain ⟨n1, n2⟩ := a.nw c o h n
    rcases a.kp c o h (.inl n) with h1 | ⟨_, _, _, _, h1⟩
    · obtain ⟨m1, m2⟩ := b.nw c _ h1 n2
      exact ⟨m1.trans n1, m2⟩
    · obtain ⟨m1, m2⟩ := b.nw c _ h1 n2
      exact ⟨m1.trans n1, m2⟩
/-- what is neither data nor in the store stays as it is -/
theorem Xt.keep {F L H F1 L1 H1} (x : Xt F L H F1 L1 H1) {a : Addr} {o : HO} (h : H a = some o) (hL : a ∉ L) (hF : F a = none) : H1 a = some o ∧ a ∉ L1 ∧ F1 a = none := by
  obtain ⟨n1, n2⟩ := x.nw a o h hL
  rcases x.kp a o h (.inl hL) with h1 | ⟨q, _⟩
  · exact ⟨h1, n2, n1.trans hF⟩
  · rw [hF] at q; cases q
/-- a locked dict stays locked -/
theorem Xt.locked {F L H F1 L1 H1} (x : Xt F L H F1 L1 H1) {a : Addr} {ob : Obj} {o u : HO} (h : H a = some (.frz ob o)) (hF : F a = some u) : H1 a = some (.frz ob o) := by
  rcases x.kp a _ h (.inr (by rw [hF]; simp)) with h1 | ⟨_, _, _, e, _⟩
  · exact h1
  · cases e
section
variable {K : PySem.W.Frag} {mg : Str → Option Value} {F F' H H' : Hp} {L L' : List Addr} {S : Store}
theorem get_prefix {α : Type} {l l' : List α} (h : l <+: l') {i : Nat} {x : α} (e : l[i]? = some x) : l'[i]? = some x := by
  obtain ⟨r, rfl⟩ := h
  rw [List.getElem?_append_left (List.getElem?_eq_some_iff.mp e).1]
  exact e
theorem VR.mono (s : Same F F') (l : L <+: L') {v : V} {d : Val} : VR K mg F L v d → VR K mg F' L' v d
  | .dat r => .dat (r.mono s)
  | .loc e => .loc (get_prefix l e)
theorem VRs.mono (s : Same F F') (l : L <+: L') : ∀ {v : List V} {d : List Val}, VRs K mg F L v d → VRs K mg F' L' v d
  | _, _, .nil => .nil
  | _, _, .cons h r => .cons (h.mono s l) (VRs.mono s l r)
theorem VRs.length : ∀ {v : List V} {d : List Val}, VRs K mg F L v d → v.length = d.length
  | _, _, .nil => rfl
  | _, _, .cons _ r => congrArg Nat.succ (VRs.length r)
theorem VRs.append : ∀ {v v' : List V} {p p' : List Val}, VRs K mg F L v p → VRs K mg F L v' p' → VRs K mg F L (v ++ v') (p ++ p')
  | _, _, _, _, .nil, s => s
  | _, _, _, _, .cons h r, s => .cons h (VRs.append r s)
theorem VRs.get : ∀ {v : List V} {p : List Val} {i : Nat} {x : Val}, VRs K mg F L v p → p[i]? = some x → ∃ u, v[i]? = some u ∧ VR K mg F L u x
  | _, _, _, _, .nil, e => by simp at e
  | _, _, 0, _, .cons h _, e => by
    simp at e
    subst e
    exact ⟨_, rfl, h⟩
  | _, _, i + 1, x, .cons _ r, e => by
    obtain ⟨u, h1, h2⟩ := VRs.get (i := i) (x := x) r (by simpa using e)
    exact ⟨u, by simpa using h1, h2⟩
end
/-- the slots -/
structure ER (K : PySem.W.Frag) (mg : Str → Option Value) (F : Hp) (L : List Addr) (σ : L2.St) (ρ : Slots) : Prop where
  len : σ.length = ρ.length
  get : ∀ (i : Nat) (d : Val), ρ[i]? = some (some d) → ∃ v, σ[i]? = some (some v) ∧ VR K mg F L v d
section
variable {K : PySem.W.Frag} {mg : Str → Option Value} {F F' H H' : Hp} {L L' : List Addr} {S : Store} {σ : L2.St} {ρ : Slots}
theorem ER.mono (s : Same F F') (l : L <+: L') (e : ER K mg F L σ ρ) : ER K mg F' L' σ ρ := ⟨e.len, fun i d q =>
  let ⟨v, h1, h2⟩ := e.get i d q
  ⟨v, h1, h2.mono s l⟩⟩
theorem ER.set {i : Nat} {v : V} {d : Val} (e : ER K mg F L σ ρ) (h : VR K mg F L v d) : ER K mg F L (σ.set i (some v)) (ρ.set i (some d)) := by
  refine ⟨by simp [e.len], fun j d' q => ?_⟩
  by_cases hj : i = j
  · subst hj
    by_cases hl : i < ρ.length
    · rw [List.getElem?_set_self hl] at q
      cases q
      exact ⟨v, List.getElem?_set_self (by rw [e.len]; exact hl), h⟩
    · rw [List.getElem?_eq_none (by simpa using hl)] at q
      cases q
  · rw [List.getElem?_set_ne hj] at q ⊢
    exact e.get j d' q
theorem ER.unset {i : Nat} (e : ER K mg F L σ ρ) : ER K mg F L (σ.set i none) (ρ.set i none) := by
  refine ⟨by simp [e.len], fun j d' q => ?_⟩
  by_cases hj : i = j
  · subst hj
    by_cases hl : i < ρ.length
    · rw [List.getElem?_set_self hl] at q
      cases q
    · rw [List.getElem?_eq_none (by simpa using hl)] at q
      cases q
  · rw [List.getElem?_set_ne hj] at q ⊢
    exact e.get j d' q
end

/-! ### what is wanted behind a reckoning -/
section
variable (K : PySem.W.Frag) (mg : Str → Option Value)
/-- an exception's own dict, if it has one -/
def XD (F H : Hp) (d : Option Addr) (fs : List (Str × P)) : Prop := (d = none ∧ fs = []) ∨ ∃ x vs, d = some x ∧ H x = some (.xd vs) ∧ RepF K mg F vs fs
/-- an exception of the class c with the fields fs -/
def XQ (F : Hp) (L : List Addr) (H : Hp) (c : Nat) (fs : List (Str × P)) (S' : Store) (E : XK) : Prop :=
  ∀ C d F' L' H', mg (cn c) = some (.ref C) → Xt F L H F' L' H' → WR K mg F' L' H' S' → XD K mg F' H' d fs → E (.ref C) d H'
def Pv (F : Hp) (L : List Addr) (H : Hp) (r : Rs Val) (Q : VK) (E : XK) : Prop := match r with
  | .ok d S' => ∀ v F' L' H', Xt F L H F' L' H' → WR K mg F' L' H' S' → VR K mg F' L' v d → Q v H'
  | .exc c fs S' => XQ K mg F L H c fs S' E
  | .bad => False
def Pa (F : Hp) (L : List Addr) (H : Hp) (r : Rs (List Val)) (Q : List V → Hp → Prop) (E : XK) : Prop := match r with
  | .ok d S' => ∀ v F' L' H', Xt F L H F' L' H' → WR K mg F' L' H' S' → VRs K mg F' L' v d → Q v H'
  | .exc c fs S' => XQ K mg F L H c fs S' E
  | .bad => False
/-- the reading of an expression with this meaning -/
def tE (W : WX) (m : Ex) : TE := fun σ H Q => ∃ F L S ρ, WR K mg F L H S ∧ ER K mg F L σ ρ ∧ Pv K mg F L H (m ρ S) Q fun c d H' => W c d σ H'
def tArg (W : WX) (m : Ar) : TA := fun σ H Q => ∃ F L S ρ, WR K mg F L H S ∧ ER K mg F L σ ρ ∧ Pa K mg F L H (m ρ S) Q fun c d H' => W c d σ H'
def Po (F : Hp) (L : List Addr) (H : Hp) (r : Out) (D : Ends) (W : WX) : Prop := match r with
  | .nx ρ S' => ∀ σ F' L' H', Xt F L H F' L' H' → WR K mg F' L' H' S' → ER K mg F' L' σ ρ → D.nx σ H'
  | .rt d S' => ∀ v F' L' H', Xt F L H F' L' H' → WR K mg F' L' H' S' → VR K mg F' L' v d → D.rt v H'
  | .bk ρ S' => ∀ σ F' L' H', Xt F L H F' L' H' → WR K mg F' L' H' S' → ER K mg F' L' σ ρ → D.bk σ H'
  | .ct ρ S' => ∀ σ F' L' H', Xt F L H F' L' H' → WR K mg F' L' H' S' → ER K mg F' L' σ ρ → D.ct σ H'
  | .exc c fs ρ S' => ∀ σ, (∀ C d F' L' H', mg (cn c) = some (.ref C) → Xt F L H F' L' H' → WR K mg F' L' H' S' → XD K mg F' H' d fs → ER K mg F' L' σ ρ → W (.ref C) d σ H')
  | .bad => False
def tS (W : WX) (m : Sm) : TS := fun D σ H => ∃ F L S ρ, WR K mg F L H S ∧ ER K mg F L σ ρ ∧ Po K mg F L H (m ρ S) D W
/-- a def's promise -/
def spF (n : Nat) (m : Fm) : Sp := fun vs H Q E => ∃ F L S ds, WR K mg F L H S ∧ VRs K mg F L vs ds ∧ ds.length = n ∧ Pv K mg F L H (m ds S) Q E
end
section
variable {K : PySem.W.Frag} {mg : Str → Option Value} {F F' H H' : Hp} {L L' : List Addr} {S S' : Store} {σ : L2.St} {ρ : Slots} {W : WX} {E : XK}
theorem XQ.from {c fs} (x : Xt F L H F' L' H') (h : XQ K mg F L H c fs S E) : XQ K mg F' L' H' c fs S E := fun C d F2 L2 H2 e x2 => h C d F2 L2 H2 e (x.trans x2)
theorem Pv.from {r : Rs Val} {Q : VK} (x : Xt F L H F' L' H') (h : Pv K mg F L H r Q E) : Pv K mg F' L' H' r Q E := by
  cases r with
  | ok d S' => exact fun v F2 L2 H2 x2 => h v F2 L2 H2 (x.trans x2)
  | exc c fs S' => exact XQ.from x h
  | bad => exact h
theorem Pa.from {r : Rs (List Val)} {Q : List V → Hp → Prop} (x : Xt F L H F' L' H') (h : Pa K mg F L H r Q E) : Pa K mg F' L' H' r Q E := by
  cases r with
  | ok d S' => exact fun v F2 L2 H2 x2 => h v F2 L2 H2 (x.trans x2)
  | exc c fs S' => exact XQ.from x h
  | bad => exact h
theorem Po.from {r : Out} {D : Ends} (x : Xt F L H F' L' H') (h : Po K mg F L H r D W) : Po K mg F' L' H' r D W := by
  cases r with
  | nx ρ S' => exact fun v F2 L2 H2 x2 => h v F2 L2 H2 (x.trans x2)
  | rt d S' => exact fun v F2 L2 H2 x2 => h v F2 L2 H2 (x.trans x2)
  | bk ρ S' => exact fun v F2 L2 H2 x2 => h v F2 L2 H2 (x.trans x2)
  | ct ρ S' => exact fun v F2 L2 H2 x2 => h v F2 L2 H2 (x.trans x2)
  | exc c fs ρ S' => exact fun σ C d F2 L2 H2 e x2 => h σ C d F2 L2 H2 e (x.trans x2)
  | bad => exact h
/-- first an expression, then the rest (an expression's) -/
theorem ev_then {m : Ex} {k : Val → Store → Rs Val} {Q Q' : VK} (wr : WR K mg F L H S) (er : ER K mg F L σ ρ) (h : Pv K mg F L H ((m ρ S).bind k) Q fun c d H' => W c d σ H')
    (hk : ∀ d S1 v F1 L1 H1, m ρ S = .ok d S1 → Xt F L H F1 L1 H1 → WR K mg F1 L1 H1 S1 → ER K mg F1 L1 σ ρ → VR K mg F1 L1 v d → Pv K mg F1 L1 H1 (k d S1) Q (fun c d H' => W c d σ H') → Q' v H1) : tE K mg W m σ H Q' := by
  refine ⟨F, L, S, ρ, wr, er, ?_⟩
  cases e : m ρ S with
  | ok d S1 =>
    rw [e] at h
    exact fun v F1 L1 H1 x wr1 vr => hk d S1 v F1 L1 H1 e x wr1 (er.mono x.fr x.lp) vr (Pv.from x h)
  | exc c fs S1 =>
    rw [e] at h
    exact h
  | bad =>
    rw [e] at h
    exact h
theorem ev_thenA {m : Ex} {k : Val → Store → Rs (List Val)} {Q : List V → Hp → Prop} {Q' : VK} (wr : WR K mg F L H S) (er : ER K mg F L σ ρ) (h : Pa K mg F L H ((m ρ S).bind k) Q fun c d H' => W c d σ H')
    (hk : ∀ d S1 v F1 L1 H1, m ρ S = .ok d S1 → Xt F L H F1 L1 H1 → WR K mg F1 L1 H1 S1 → ER K mg F1 L1 σ ρ → VR K mg F1 L1 v d → Pa K mg F1 L1 H1 (k d S1) Q (fun c d H' => W c d σ H') → Q' v H1) : tE K mg W m σ H Q' := by
  refine ⟨F, L, S, ρ, wr, er, ?_⟩
  cases e : m ρ S with
  | ok d S1 =>
    rw [e] at h
    exact fun v F1 L1 H1 x wr1 vr => hk d S1 v F1 L1 H1 e x wr1 (er.mono x.fr x.lp) vr (Pa.from x h)
  | exc c fs S1 =>
    rw [e] at h
    exact h
  | bad =>
    rw [e] at h
    exact h
theorem ar_then {m : Ar} {k : List Val → Store → Rs Val} {Q : VK} {Q' : List V → Hp → Prop} (wr : WR K mg F L H S) (er : ER K mg F L σ ρ) (h : Pv K mg F L H ((m ρ S).bind k) Q fun c d H' => W c d σ H')
    (hk : ∀ d S1 v F1 L1 H1, m ρ S = .ok d S1 → Xt F L H F1 L1 H1 → WR K mg F1 L1 H1 S1 → ER K mg F1 L1 σ ρ → VRs K mg F1 L1 v d → Pv K mg F1 L1 H1 (k d S1) Q (fun c d H' => W c d σ H') → Q' v H1) : tArg K mg W m σ H Q' := by
  refine ⟨F, L, S, ρ, wr, er, ?_⟩
  cases e : m ρ S with
  | ok d S1 =>
    rw [e] at h
    exact fun v F1 L1 H1 x wr1 vr => hk d S1 v F1 L1 H1 e x wr1 (er.mono x.fr x.lp) vr (Pv.from x h)
  | exc c fs S1 =>
    rw [e] at h
    exact h
  | bad =>
    rw [e] at h
    exact h
/-- .. (a statement's) -/
theorem ev_out {m : Ex} {k : Val → Store → Out} {D : Ends} {Q' : VK} (wr : WR K mg F L H S) (er : ER K mg F L σ ρ) (h : Po K mg F L H ((m ρ S).out ρ k) D W)
    (hk : ∀ d S1 v F1 L1 H1, m ρ S = .ok d S1 → Xt F L H F1 L1 H1 → WR K mg F1 L1 H1 S1 → ER K mg F1 L1 σ ρ → VR K mg F1 L1 v d → Po K mg F1 L1 H1 (k d S1) D W → Q' v H1) : tE K mg W m σ H Q' := by
  refine ⟨F, L, S, ρ, wr, er, ?_⟩
  cases e : m ρ S with
  | ok d S1 =>
    rw [e] at h
    exact fun v F1 L1 H1 x wr1 vr => hk d S1 v F1 L1 H1 e x wr1 (er.mono x.fr x.lp) vr (Po.from x h)
  | exc c fs S1 =>
    rw [e] at h
    exact fun C d F2 L2 H2 e2 x2 w2 hd => h σ C d F2 L2 H2 e2 x2 w2 hd (er.mono x2.fr x2.lp)
  | bad =>
    rw [e] at h
    exact h
end
/-- a weaker reading -/
theorem imE {X : Cx} {e : Expr} {t t' : TE} (h : PE X e t) (i : ∀ σ H Q, t' σ H Q → t σ H Q) : PE X e t' := ⟨fun pins s σ H Q I q => h.run pins s σ H Q I (i σ H Q q)⟩
theorem imT {X : Cx} {e : Expr} {t t' : TT} (h : PT X e t) (i : ∀ σ H Q, t' σ H Q → t σ H Q) : PT X e t' := ⟨fun pins s σ H Q I q => h.run pins s σ H Q I (i σ H Q q)⟩
theorem imA {X : Cx} {e : List Expr} {t t' : TA} (h : PA X e t) (i : ∀ σ H Q, t' σ H Q → t σ H Q) : PA X e t' := ⟨fun pos pins s σ H Q I q => h.run pos pins s σ H Q I (i σ H Q q)⟩
theorem imS {X : Cx} {e : Stmt} {t t' : TS} (h : PS X e t) (i : ∀ D σ H, t' D σ H → t D σ H) : PS X e t' := ⟨fun pins s σ H D I q => h.run pins s σ H D I (i D σ H q)⟩
theorem imSs {X : Cx} {e : List Stmt} {t t' : TS} (h : PSs X e t) (i : ∀ D σ H, t' D σ H → t D σ H) : PSs X e t' := ⟨fun pins s σ H D I q => h.run pins s σ H D I (i D σ H q)⟩
end DL
set_option Elab.async false
set_option linter.all false
set_option maxRecDepth 100000
set_option maxHeartbeats 4000000
namespace DL
open PySem PySem.Spec PyProof.Rows L2
abbrev dE (X : Cx) (W : WX) (e : Expr) (m : Ex) : Prop := PE X e (tE X.K X.mg W m)
abbrev dA (X : Cx) (W : WX) (es : List Expr) (m : Ar) : Prop := PA X es (tArg X.K X.mg W m)
abbrev dS (X : Cx) (W : WX) (st : Stmt) (m : Sm) : Prop := PS X st (tS X.K X.mg W m)
abbrev dSs (X : Cx) (W : WX) (st : List Stmt) (m : Sm) : Prop := PSs X st (tS X.K X.mg W m)

/-! ### the world goes on -/
section
variable {K : PySem.W.Frag} {mg : Str → Option Value} {F F' H H' : Hp} {L L' : List Addr} {S S' : Store} {p : Addr} {o : HO}
theorem WR.fnone (wr : WR K mg F L H S) (h : H p = none) : F p = none := wr.sub.free h
theorem WR.notin (wr : WR K mg F L H S) (h : H p = none) : p ∉ L := fun q => by
  obtain ⟨o, e⟩ := wr.al p q
  rw [h] at e
  cases e
theorem same_upd (h : F p = none) : Same F (upd F p o) := fun a u e => by
  rw [upd_ne (ne_of_none e h)]
  exact e
theorem al_upd {x : Addr} (al : ∀ a ∈ L, ∃ o, H a = some o) : ∀ a ∈ L, ∃ u, upd H x o a = some u := fun a ha => by
  by_cases q : a = x
  · exact ⟨o, by rw [q]; exact upd_same⟩
  · rw [upd_ne q]
    exact al a ha
theorem sub_upd (s : SubF F H) (h : F p = none) : SubF F (upd H p o) := fun a u e => by
  have q : a ≠ p := fun q => by rw [q, h] at e; cases e
  rw [upd_ne q]
  exact s a u e
/-- a new object that will not change -/
theorem WR.alloc (wr : WR K mg F L H S) (h : H p = none) : WR K mg (upd F p o) L (upd H p o) S := by
  have hf := wr.fnone h
  refine ⟨fun a u e => ?_, al_upd wr.al, wr.len, wr.nd, fun n a c e1 e2 e3 => ?_⟩
  · by_cases q : a = p
    · subst q
      rw [upd_same] at e ⊢
      exact .inl e
    · rw [upd_ne q] at e ⊢
      exact wr.sub a u e
  · obtain ⟨h1, u, h2, h3⟩ := wr.own n a c e1 e2 e3
    have q : a ≠ p := ne_of_none h2 h
    exact ⟨by rw [upd_ne q]; exact h1, u, by rw [upd_ne q]; exact h2, h3.mono (same_upd hf)⟩
theorem Xt.alloc (wr : WR K mg F L H S) (h : H p = none) : Xt F L H (upd F p o) L (upd H p o) :=
  ⟨same_upd (wr.fnone h), List.prefix_refl _, fun a u e _ => .inl (by rw [upd_ne (ne_of_none e h)]; exact e), fun a u e n => ⟨by rw [upd_ne (ne_of_none e h)], n⟩⟩
/-- a new object that is neither -/
theorem WR.other (wr : WR K mg F L H S) (h : H p = none) : WR K mg F L (upd H p o) S :=
  ⟨sub_upd wr.sub (wr.fnone h), al_upd wr.al, wr.len, wr.nd, fun n a c e1 e2 e3 => by
    obtain ⟨h1, u, h2, h3⟩ := wr.own n a c e1 e2 e3
    exact ⟨h1, u, by rw [upd_ne (ne_of_none h2 h)]; exact h2, h3⟩⟩
theorem Xt.other (h : H p = none) : Xt F L H F L (upd H p o) :=
  ⟨Same.refl _, List.prefix_refl _, fun a u e _ => .inl (by rw [upd_ne (ne_of_none e h)]; exact e), fun a u e n => ⟨rfl, n⟩⟩
/-- a new object in the store -/
theorem WR.push {c : Cont} (wr : WR K mg F L H S) (h : H p = none) (hc : CR K mg F o c) : WR K mg F (L ++ [p]) (upd H p o) (S ++ [c]) := by
  have hL := wr.notin h
  refine ⟨sub_upd wr.sub (wr.fnone h), fun a ha => ?_, by simp [wr.len], ?_, fun n a c' e1 e2 e3 => ?_⟩
  · rcases List.mem_append.mp ha with ha | ha
    · exact al_upd wr.al a ha
    · simp at ha
      subst ha
      exact ⟨o, upd_same⟩
  · rw [List.nodup_append]
    exact ⟨wr.nd, by simp, fun a ha b hb => by
      simp at hb
      subst hb
      exact fun e => hL (e ▸ ha)⟩
  · by_cases hn : n < L.length
    · rw [List.getElem?_append_left hn] at e1
      rw [List.getElem?_append_left (by rw [← wr.len]; exact hn)] at e2
      obtain ⟨h1, u, h2, h3⟩ := wr.own n a c' e1 e2 e3
      exact ⟨h1, u, by rw [upd_ne (ne_of_none h2 h)]; exact h2, h3⟩
    · have hn' : n = L.length := by
        have := (List.getElem?_eq_some_iff.mp e1).1
        simp at this
        omega
      subst hn'
      rw [List.getElem?_append_right (Nat.le_refl _)] at e1
      rw [List.getElem?_append_right (by rw [wr.len]; exact Nat.le_refl _)] at e2
      simp [wr.len] at e1 e2
      subst e1 e2
      exact ⟨wr.fnone h, o, upd_same, hc⟩
theorem Xt.push (wr : WR K mg F L H S) (h : H p = none) : Xt F L H F (L ++ [p]) (upd H p o) :=
  ⟨Same.refl _, List.prefix_append _ _, fun a u e _ => .inl (by rw [upd_ne (ne_of_none e h)]; exact e), fun a u e n => ⟨rfl, by
    rw [List.mem_append]
    rintro (q | q)
    · exact n q
    · simp at q
      exact ne_of_none e h q⟩⟩
/-- a store's object is written -/
theorem WR.write {n : Nat} {c : Cont} (wr : WR K mg F L H S) (hn : L[n]? = some p) (hp : F p = none) (hc : CR K mg F o c) : WR K mg F L (upd H p o) (S.set n c) := by
  refine ⟨sub_upd wr.sub hp, al_upd wr.al, by simp [wr.len], wr.nd, fun m a c' e1 e2 e3 => ?_⟩
  by_cases hm : n = m
  · subst hm
    rw [hn] at e1
    cases e1
    have hl : n < S.length := by rw [← wr.len]; exact (List.getElem?_eq_some_iff.mp hn).1
    rw [List.getElem?_set_self hl] at e2
    cases e2
    exact ⟨hp, o, upd_same, hc⟩
  · rw [List.getElem?_set_ne hm] at e2
    obtain ⟨h1, u, h2, h3⟩ := wr.own m a c' e1 e2 e3
    have q : a ≠ p := fun q => by
      subst q
      obtain ⟨z1, z1'⟩ := List.getElem?_eq_some_iff.mp hn
      obtain ⟨z2, z2'⟩ := List.getElem?_eq_some_iff.mp e1
      exact hm ((List.getElem_inj wr.nd).mp (z1'.trans z2'.symm))
    exact ⟨h1, u, by rw [upd_ne q]; exact h2, h3⟩
theorem Xt.write {n : Nat} (hn : L[n]? = some p) (hp : F p = none) : Xt F L H F L (upd H p o) :=
  ⟨Same.refl _, List.prefix_refl _, fun a u e n' => .inl (by
    have q : a ≠ p := fun q => by
      rcases n' with n' | n'
      · exact n' (by rw [q]; exact List.mem_of_getElem? hn)
      · rw [q] at n'; exact n' hp
    rw [upd_ne q]
    exact e), fun a u e n' => ⟨rfl, n'⟩⟩
/-- a store's object is left to the data -/
theorem WR.freeze {n : Nat} (wr : WR K mg F L H S) (hn : L[n]? = some p) (hp : F p = none) (ho : H p = some o) : WR K mg (upd F p o) L H (S.set n .dead) := by
  refine ⟨fun a u e => ?_, wr.al, by simp [wr.len], wr.nd, fun m a c' e1 e2 e3 => ?_⟩
  · by_cases q : a = p
    · subst q
      rw [upd_same] at e
      cases e
      exact .inl ho
    · rw [upd_ne q] at e
      exact wr.sub a u e
  · by_cases hm : n = m
    · subst hm
      have hl : n < S.length := by rw [← wr.len]; exact (List.getElem?_eq_some_iff.mp hn).1
      rw [List.getElem?_set_self hl] at e2
      cases e2
      exact absurd rfl e3
    · rw [List.getElem?_set_ne hm] at e2
      obtain ⟨h1, u, h2, h3⟩ := wr.own m a c' e1 e2 e3
      have q : a ≠ p := fun q => by
        subst q
        obtain ⟨z1, z1'⟩ := List.getElem?_eq_some_iff.mp hn
        obtain ⟨z2, z2'⟩ := List.getElem?_eq_some_iff.mp e1
        exact hm ((List.getElem_inj wr.nd).mp (z1'.trans z2'.symm))
      exact ⟨by rw [upd_ne q]; exact h1, u, h2, h3.mono (same_upd hp)⟩
theorem Xt.freeze {n : Nat} (hn : L[n]? = some p) (hp : F p = none) : Xt F L H (upd F p o) L H :=
  ⟨same_upd hp, List.prefix_refl _, fun a u e _ => .inl e, fun a u e n' => ⟨by
    have q : a ≠ p := fun q => n' (by rw [q]; exact List.mem_of_getElem? hn)
    rw [upd_ne q], n'⟩⟩
/-- the last places are given up -/
theorem WR.take (wr : WR K mg F L H S) (n : Nat) : WR K mg F (L.take n) H (S.take n) := by
  refine ⟨wr.sub, fun a ha => wr.al a (List.mem_of_mem_take ha), by simp [wr.len], wr.nd.sublist (List.take_sublist _ _), fun m a c e1 e2 e3 => ?_⟩
  rw [List.getElem?_take] at e1 e2
  split at e1
  · rename_i h
    rw [if_pos h] at e2
    exact wr.own m a c e1 e2 e3
  · cases e1
theorem Xt.take {n : Nat} (x : Xt F L H F' L' H') (h : L.length ≤ n) : Xt F L H F' (L'.take n) H' :=
  ⟨x.fr, by
    obtain ⟨r, e⟩ := x.lp
    rw [← e]
    rw [List.take_append]
    rw [List.take_of_length_le h]
    exact List.prefix_append _ _, x.kp, fun a o e m => ⟨(x.nw a o e m).1, fun q => (x.nw a o e m).2 (List.mem_of_mem_take q)⟩⟩
end

section
variable {K : PySem.W.Frag} {mg : Str → Option Value} {F H : Hp} {L : List Addr} {S : Store} {d : Addr} {kvs : List (Key × V)} {od : Obj}
/-- a dict of the data is locked -/
theorem WR.lock (wr : WR K mg F L H S) (hF : F d = some (.dK kvs)) : WR K mg F L (upd H d (.frz od (.dK kvs))) S := by
  refine ⟨fun a o e => ?_, al_upd wr.al, wr.len, wr.nd, fun n a c e1 e2 e3 => ?_⟩
  · by_cases q : a = d
    · subst q
      rw [hF] at e
      cases e
      exact .inr ⟨kvs, od, rfl, upd_same⟩
    · rw [upd_ne q]
      exact wr.sub a o e
  · obtain ⟨h1, u, h2, h3⟩ := wr.own n a c e1 e2 e3
    have q : a ≠ d := fun q => by rw [q, hF] at h1; cases h1
    exact ⟨h1, u, by rw [upd_ne q]; exact h2, h3⟩
theorem Xt.lock (hF : F d = some (.dK kvs)) (hH : H d = some (.dK kvs)) : Xt F L H F L (upd H d (.frz od (.dK kvs))) :=
  ⟨Same.refl _, List.prefix_refl _, fun a o e _ => by
    by_cases q : a = d
    · subst q
      rw [hH] at e
      cases e
      exact .inr ⟨hF, kvs, od, rfl, upd_same⟩
    · exact .inl (by rw [upd_ne q]; exact e), fun a o e n => ⟨rfl, n⟩⟩
/-- an object beside becomes data -/
theorem WR.adopt {p : Addr} {o : HO} (wr : WR K mg F L H S) (hF : F p = none) (hH : H p = some o) (hL : p ∉ L) : WR K mg (upd F p o) L H S := by
  refine ⟨fun a u e => ?_, wr.al, wr.len, wr.nd, fun n a c e1 e2 e3 => ?_⟩
  · by_cases q : a = p
    · subst q
      rw [upd_same] at e
      cases e
      exact .inl hH
    · rw [upd_ne q] at e
      exact wr.sub a u e
  · obtain ⟨h1, u, h2, h3⟩ := wr.own n a c e1 e2 e3
    have q : a ≠ p := fun q => hL (by rw [← q]; exact List.mem_of_getElem? e1)
    exact ⟨by rw [upd_ne q]; exact h1, u, h2, h3.mono (same_upd hF)⟩
/-- .. which was not there at the beginning -/
theorem Xt.adopt {F' H' : Hp} {L' : List Addr} {p : Addr} {o : HO} (x : Xt F L H F' L' H') (hF : F' p = none) (h0 : H p = none) : Xt F L H (upd F' p o) L' H' :=
  ⟨x.fr.trans (same_upd hF), x.lp, x.kp, fun a u e n => by
    have q : a ≠ p := ne_of_none e h0
    exact ⟨by rw [upd_ne q]; exact (x.nw a u e n).1, (x.nw a u e n).2⟩⟩
end
/-! ### constants, names, arguments -/
def eVar (i : Nat) : Ex := fun ρ S => match ρ[i]? with
  | some (some v) => .ok v S
  | _ => .bad
def eK (p : P) : Ex := fun _ S => .ok (.dat p) S
def aNil : Ar := fun _ S => .ok [] S
def aCons (m : Ex) (r : Ar) : Ar := fun ρ S => (m ρ S).bind fun v S1 => (r ρ S1).bind fun vs S2 => .ok (v :: vs) S2
section
variable {X : Cx} {W : WX}
theorem de_var {i : Nat} {x : Str} {pos : Pos} (h : PE X (.Name x pos) (tVar i)) : dE X W (.Name x pos) (eVar i) := by
  refine imE h fun σ H Q ⟨F, L, S, ρ, wr, er, q⟩ => ?_
  unfold eVar at q
  cases e : ρ[i]? with
  | none => rw [e] at q; exact q.elim
  | some o =>
    cases o with
    | none => rw [e] at q; exact q.elim
    | some d =>
      rw [e] at q
      obtain ⟨v, e1, vr⟩ := er.get i d e
      exact ⟨v, e1, q v F L H .refl wr vr⟩
theorem de_K {e : Expr} {v : V} {p : P} (h : PE X e (tC v)) (r : ∀ F, Rep X.K X.mg F v p) : dE X W e (eK p) := imE h fun σ H Q ⟨F, L, S, ρ, wr, er, q⟩ => q v F L H .refl wr (.dat (r F))
theorem de_int {i j pos} : dE X W (.Constant (.int i) j pos) (eK (.int i)) := de_K pe_int fun _ => .int i
theorem de_bl {i j pos} : dE X W (.Constant (.bool i) j pos) (eK (.bl i)) := de_K pe_bl fun _ => .bl i
theorem de_str {i j pos} : dE X W (.Constant (.str i) j pos) (eK (.str i)) := de_K pe_str fun _ => .str i
theorem de_non {j pos} : dE X W (.Constant .none j pos) (eK .non) := de_K pe_non fun _ => .non
theorem da_nil : dA X W [] aNil := imA pa_nil fun σ H Q ⟨F, L, S, ρ, wr, er, q⟩ => q [] F L H .refl wr .nil
theorem da_cons {e : Expr} {es : List Expr} {m : Ex} {r : Ar} (ha : dE X W e m) (hr : dA X W es r) (hs : starEach (e :: es) X.env = (false, eval e X.env) :: starEach es X.env := by rfl) : dA X W (e :: es) (aCons m r) := by
  refine imA (pa_cons ha hr hs) fun σ H Q ⟨F, L, S, ρ, wr, er, q⟩ => ?_
  refine ev_thenA wr er q fun d S1 v F1 L1 H1 _ x1 wr1 er1 vr1 q1 => ?_
  refine ⟨F1, L1, S1, ρ, wr1, er1, ?_⟩
  cases e2 : r ρ S1 with
  | ok ds S2 =>
    rw [e2] at q1
    exact fun vs F2 L2 H2 x2 wr2 vr2 => q1 _ F2 L2 H2 x2 wr2 (.cons (vr1.mono x2.fr x2.lp) vr2)
  | exc c fs S2 => rw [e2] at q1; exact q1
  | bad => rw [e2] at q1; exact q1

/-! ### operators -/
abbrev G2 := Val → Val → Store → Rs Val
/-- an operator with this meaning -/
def OpM (X : Cx) (W : WX) (f : Value → Value → Sem Value) (g : G2) : Prop :=
  ∀ (pins : List (Addr × Obj)) (s : Shared) (σ : L2.St) (H F : Hp) (L : List Addr) (S : Store) (x y : V) (v u : Value) (dx dy : Val) (Q : VK), Inv X pins σ H s → WR X.K X.mg F L H S → RelV x v → RelV y u → VR X.K X.mg F L x dx → VR X.K X.mg F L y dy →
    Pv X.K X.mg F L H (g dx dy S) Q (fun c d H' => W c d σ H') → wpAny (model X.prog X.w) X.A (f v u) (EP X pins σ Q) X.xe s
def eOp (g : G2) (a b : Ex) : Ex := fun ρ S => (a ρ S).bind fun x S1 => (b ρ S1).bind fun y S2 => g x y S2
theorem de_two {a b : Expr} {ma mb : Ex} {g : G2} {f : Value → Value → Sem Value} (ho : OpM X W f g) (ha : dE X W a ma) (hb : dE X W b mb) {pins : List (Addr × Obj)} {s : Shared} {σ : L2.St} {H : Hp} {Q : VK} (I : Inv X pins σ H s) (h : tE X.K X.mg W (eOp g ma mb) σ H Q) :
    wpAny (model X.prog X.w) X.A (eval a X.env) (fun v s₁ => wpAny (model X.prog X.w) X.A (eval b X.env) (fun u s₂ => wpAny (model X.prog X.w) X.A (f v u) (EP X pins σ Q) X.xe s₂) X.xe s₁) X.xe s := by
  obtain ⟨F, L, S, ρ, wr, er, q⟩ := h
  refine thn (ha.run pins s σ H (fun x H1 => ∃ F1 L1 S1 dx, WR X.K X.mg F1 L1 H1 S1 ∧ ER X.K X.mg F1 L1 σ ρ ∧ VR X.K X.mg F1 L1 x dx ∧ Pv X.K X.mg F1 L1 H1 ((mb ρ S1).bind fun y S2 => g dx y S2) Q (fun c d H' => W c d σ H')) I
    (ev_then wr er q fun d S1 v F1 L1 H1 _ x1 wr1 er1 vr1 q1 => ⟨F1, L1, S1, d, wr1, er1, vr1, q1⟩)) fun v s1 ⟨x, H1, I1, r1, F1, L1, S1, dx, wr1, er1, vr1, q1⟩ => ?_
  refine thn (hb.run pins s1 σ H1 (fun y H2 => ∃ F2 L2 S2 dy, WR X.K X.mg F2 L2 H2 S2 ∧ VR X.K X.mg F2 L2 x dx ∧ VR X.K X.mg F2 L2 y dy ∧ Pv X.K X.mg F2 L2 H2 (g dx dy S2) Q (fun c d H' => W c d σ H')) I1
    (ev_then wr1 er1 q1 fun d S2 v F2 L2 H2 _ x2 wr2 er2 vr2 q2 => ⟨F2, L2, S2, d, wr2, vr1.mono x2.fr x2.lp, vr2, q2⟩)) fun u s2 ⟨y, H2, I2, r2, F2, L2, S2, dy, wr2, vr1', vr2, q2⟩ => ?_
  exact ho pins s2 σ H2 F2 L2 S2 x y v u dx dy Q I2 wr2 r1 r2 vr1' vr2 q2
theorem de_bin {a b : Expr} {op : Operator} {pos : Pos} {ma mb : Ex} {g : G2} (ho : OpM X W (binaryOp op) g) (ha : dE X W a ma) (hb : dE X W b mb) : dE X W (.BinOp a op b pos) (eOp g ma mb) :=
  ⟨fun pins s σ H Q I h => wpAny_BinOp (de_two ho ha hb I h)⟩
theorem de_cmp {a b : Expr} {op : CmpOp} {pos : Pos} {ma mb : Ex} {g : G2} (ho : OpM X W (compareOp op) g) (ha : dE X W a ma) (hb : dE X W b mb) (hm : behindInMarks op b = false) : dE X W (.Compare a [op] [b] pos) (eOp g ma mb) :=
  ⟨fun pins s σ H Q I h => wpAny_Compare1 (de_two ho ha hb I h) hm⟩
/-- from HandS's rule of an operator: data in, data out -/
def datOp (f : P → P → Option P) : G2 := fun x y S => match x, y with
  | .dat a, .dat b => (match f a b with | some z => .ok (.dat z) S | none => .bad)
  | _, _ => .bad
theorem opm_of {f : Value → Value → Sem Value} {r : R2} {g : P → P → Option P} (h : OpR X f r)
    (hr : ∀ F H L S x y z v u Q, WR X.K X.mg F L H S → g x y = some z → Rep X.K X.mg F v x → Rep X.K X.mg F u y → (∀ w F' H', Xt F L H F' L H' → WR X.K X.mg F' L H' S → Rep X.K X.mg F' w z → Q w H') → r v u H Q) : OpM X W f (datOp g) := by
  intro pins s σ H F L S x y v u dx dy Q I wr rx ry vx vy q
  cases vx with
  | loc _ => exact q.elim
  | dat rx' =>
    cases vy with
    | loc _ => exact q.elim
    | dat ry' =>
      rename_i a b
      unfold datOp at q
      cases e : g a b with
      | none =>
        simp only [e] at q
        exact q.elim
      | some z =>
        simp only [e] at q
        exact h pins s σ H x y v u Q I rx ry (hr F H L S a b z x y Q wr e rx' ry' fun w F' H' x' wr' rw' => q w F' L H' x' wr' (.dat rw'))
theorem opm_or {f : Value → Value → Sem Value} {g1 g2 : P → P → Option P} (h1 : OpM X W f (datOp g1)) (h2 : OpM X W f (datOp g2)) : OpM X W f (datOp fun a b => match g1 a b with | some z => some z | none => g2 a b) := by
  intro pins s σ H F L S x y v u dx dy Q I wr rx ry vx vy q
  cases vx with
  | loc _ => exact q.elim
  | dat rx' =>
    cases vy with
    | loc _ => exact q.elim
    | dat ry' =>
      rename_i a b
      cases e : g1 a b with
      | some z =>
        refine h1 pins s σ H F L S x y v u _ _ Q I wr rx ry (.dat rx') (.dat ry') ?_
        simp only [datOp, e] at q ⊢
        exact q
      | none =>
        refine h2 pins s σ H F L S x y v u _ _ Q I wr rx ry (.dat rx') (.dat ry') ?_
        simp only [datOp, e] at q ⊢
        exact q
end
end DL
set_option Elab.async false
set_option linter.all false
set_option maxRecDepth 100000
set_option maxHeartbeats 4000000
namespace DL
open PySem PySem.Spec PyProof.Rows L2

/-! ### numbers -/
def mulOk (i j : Int) : Bool := decide (¬ ((decide (Builtin.Int.intBits i > shortFactorBits) && decide (Builtin.Int.intBits j > shortFactorBits) && Builtin.Int.intTooBig (Builtin.Int.intBits i + Builtin.Int.intBits j)) = true))
theorem mulOk_iff {i j : Int} : mulOk i j = true ↔ IntMulOk i j := by
  unfold mulOk IntMulOk
  exact decide_eq_true_iff
def divOk (i j : Int) : Bool := !(j == 0) && !(Builtin.divisionGoesByPylong i j)
def powOk (i j : Int) : Bool := decide (0 ≤ j) && decide (j ≤ 1000000) && decide (i.natAbs < 2 ^ 64)
def pAddI : P → P → Option P
  | .int a, .int b => some (.int (a + b))
  | _, _ => none
def pAddS : P → P → Option P
  | .str a, .str b => if a.length + b.length ≤ sizeLine then some (.str (a ++ b)) else none
  | _, _ => none
def pAdd : P → P → Option P := fun a b => match pAddI a b with | some z => some z | none => pAddS a b
def pSub : P → P → Option P
  | .int a, .int b => some (.int (a - b))
  | _, _ => none
def pMul : P → P → Option P
  | .int a, .int b => if mulOk a b = true then some (.int (a * b)) else none
  | _, _ => none
def pDiv : P → P → Option P
  | .int a, .int b => if divOk a b = true then some (.int (a.fdiv b)) else none
  | _, _ => none
def pMod : P → P → Option P
  | .int a, .int b => if b = 0 then none else some (.int (a.fmod b))
  | _, _ => none
def pPow : P → P → Option P
  | .int a, .int b => if powOk a b = true then some (.int (a ^ b.toNat)) else none
  | _, _ => none
def pLt : P → P → Option P
  | .int a, .int b => some (.bl (decide (a < b)))
  | _, _ => none
def pLe : P → P → Option P
  | .int a, .int b => some (.bl (decide (a ≤ b)))
  | _, _ => none
def pGt : P → P → Option P
  | .int a, .int b => some (.bl (decide (b < a)))
  | _, _ => none
def pGe : P → P → Option P
  | .int a, .int b => some (.bl (decide (b ≤ a)))
  | _, _ => none
mutual
def toD : P → Option PyData
  | .non => some .none
  | .bl b => some (.bool b)
  | .int i => some (.int i)
  | .str x => some (.str x)
  | .lst xs => (toDs xs).map .list
  | .tup xs => (toDs xs).map .tuple
  | .dic _ => none
  | .obj _ _ => none
  | .cls _ => none
  | .bty _ => none
def toDs : List P → Option (List PyData)
  | [] => some []
  | x :: r => (toD x).bind fun d => (toDs r).map fun ds => d :: ds
end
def pEqD (neg : Bool) : P → P → Option P := fun a b => match toD a, toD b with
  | some d, some e => if SeqAt.shaped d && SeqAt.shaped e then some (.bl (if neg then !PyData.eqv d e else PyData.eqv d e)) else none
  | _, _ => none
def pEqS (neg : Bool) : P → P → Option P
  | .int a, .int b => some (.bl (if neg then !decide (a = b) else decide (a = b)))
  | .bl a, .bl b => some (.bl (if neg then !decide (a = b) else decide (a = b)))
  | .str a, .str b => some (.bl (if neg then !decide (a = b) else decide (a = b)))
  | _, _ => none
def pEq (neg : Bool) : P → P → Option P := fun a b => match pEqS neg a b with | some z => some z | none => pEqD neg a b
def isNonP : P → Bool
  | .non => true
  | _ => false
def pIsN (neg : Bool) : P → P → Option P := fun a b => match b with
  | .non => some (.bl (if neg then !isNonP a else isNonP a))
  | _ => none
def pInS (neg : Bool) : P → P → Option P
  | .str a, .str b => some (.bl (if neg then !(!(Builtin.Str.occurrences b a 0 b.length 1).isEmpty) else !(Builtin.Str.occurrences b a 0 b.length 1).isEmpty))
  | _, _ => none
section
variable {X : Cx} {W : WX} {K : PySem.W.Frag} {mg : Str → Option Value} {F : Hp}
theorem rep_int {v : V} {i : Int} (h : Rep K mg F v (.int i)) : v = .int i := by cases h; rfl
theorem rep_str {v : V} {i : Str} (h : Rep K mg F v (.str i)) : v = .str i := by cases h; rfl
theorem rep_bl {v : V} {i : Bool} (h : Rep K mg F v (.bl i)) : v = .bl i := by cases h; rfl
theorem om_int {f : Value → Value → Sem Value} {C : Int → Int → Prop} {h : Int → Int → Int} {g : P → P → Option P} (ho : OpR X f (rI C fun i j => .int (h i j)))
    (hg : ∀ x y z, g x y = some z → ∃ i j, x = .int i ∧ y = .int j ∧ C i j ∧ z = .int (h i j)) : OpM X W f (datOp g) :=
  opm_of ho fun F H L S x y z v u Q wr e rx ry q => by
    obtain ⟨i, j, rfl, rfl, hc, rfl⟩ := hg x y z e
    rw [rep_int rx, rep_int ry]
    exact ⟨i, j, rfl, rfl, hc, q _ F H .refl wr (.int _)⟩
theorem om_addI : OpM X W (binaryOp .Add) (datOp pAddI) := opm_of op_add fun F H L S x y z v u Q wr e rx ry q => by
  unfold pAddI at e
  split at e
  · cases e
    rw [rep_int rx, rep_int ry]
    exact ⟨_, _, rfl, rfl, q _ F H .refl wr (.int _)⟩
  · cases e
theorem om_addS : OpM X W (binaryOp .Add) (datOp pAddS) := opm_of op_add_str fun F H L S x y z v u Q wr e rx ry q => by
  unfold pAddS at e
  split at e
  · split at e
    · rename_i h
      cases e
      rw [rep_str rx, rep_str ry]
      exact ⟨_, _, rfl, rfl, h, q _ F H .refl wr (.str _)⟩
    · cases e
  · cases e
theorem om_add : OpM X W (binaryOp .Add) (datOp pAdd) := opm_or om_addI om_addS
theorem om_sub : OpM X W (binaryOp .Sub) (datOp pSub) := opm_of op_sub fun F H L S x y z v u Q wr e rx ry q => by
  unfold pSub at e
  split at e
  · cases e
    rw [rep_int rx, rep_int ry]
    exact ⟨_, _, rfl, rfl, q _ F H .refl wr (.int _)⟩
  · cases e
theorem op_mulA : OpR X (binaryOp .Mult) (rI (fun i j => mulOk i j = true) fun i j => .int (i * j)) := opI fun _ _ _ _ _ _ _ hc q => mul_int q (mulOk_iff.mp hc)
theorem om_mul : OpM X W (binaryOp .Mult) (datOp pMul) := om_int op_mulA fun x y z e => by
  unfold pMul at e
  split at e
  · split at e
    · rename_i h
      cases e
      exact ⟨_, _, rfl, rfl, h, rfl⟩
    · cases e
  · cases e
theorem op_divA : OpR X (binaryOp .FloorDiv) (rI (fun i j => divOk i j = true) fun i j => .int (i.fdiv j)) := opI fun i j _ _ _ _ _ hc q => by
  unfold divOk at hc
  rw [Bool.and_eq_true] at hc
  exact floordiv_int (by simpa using hc.1) q (.inl (by simpa using hc.2))
theorem om_div : OpM X W (binaryOp .FloorDiv) (datOp pDiv) := om_int op_divA fun x y z e => by
  unfold pDiv at e
  split at e
  · split at e
    · rename_i h
      cases e
      exact ⟨_, _, rfl, rfl, h, rfl⟩
    · cases e
  · cases e
theorem om_mod : OpM X W (binaryOp .Mod) (datOp pMod) := om_int op_modN fun x y z e => by
  unfold pMod at e
  split at e
  · split at e
    · cases e
    · rename_i h
      cases e
      exact ⟨_, _, rfl, rfl, h, rfl⟩
  · cases e
theorem om_pow : OpM X W (binaryOp .Pow) (datOp pPow) := om_int op_pow fun x y z e => by
  unfold pPow at e
  split at e
  · split at e
    · rename_i h
      cases e
      unfold powOk at h
      simp only [Bool.and_eq_true, decide_eq_true_eq] at h
      exact ⟨_, _, rfl, rfl, ⟨h.1.1, h.1.2, h.2⟩, rfl⟩
    · cases e
  · cases e
theorem om_lt : OpM X W (compareOp .Lt) (datOp pLt) := opm_of op_lt fun F H L S x y z v u Q wr e rx ry q => by
  unfold pLt at e
  split at e
  · cases e
    rw [rep_int rx, rep_int ry]
    exact ⟨_, _, rfl, rfl, q _ F H .refl wr (.bl _)⟩
  · cases e
theorem om_le : OpM X W (compareOp .LtE) (datOp pLe) := opm_of op_le fun F H L S x y z v u Q wr e rx ry q => by
  unfold pLe at e
  split at e
  · cases e
    rw [rep_int rx, rep_int ry]
    exact ⟨_, _, rfl, rfl, q _ F H .refl wr (.bl _)⟩
  · cases e
theorem om_gt : OpM X W (compareOp .Gt) (datOp pGt) := opm_of op_gt fun F H L S x y z v u Q wr e rx ry q => by
  unfold pGt at e
  split at e
  · cases e
    rw [rep_int rx, rep_int ry]
    exact ⟨_, _, rfl, rfl, q _ F H .refl wr (.bl _)⟩
  · cases e
theorem om_ge : OpM X W (compareOp .GtE) (datOp pGe) := opm_of op_ge fun F H L S x y z v u Q wr e rx ry q => by
  unfold pGe at e
  split at e
  · cases e
    rw [rep_int rx, rep_int ry]
    exact ⟨_, _, rfl, rfl, q _ F H .refl wr (.bl _)⟩
  · cases e
/-! ### == -/
mutual
theorem rep_dp {H : Hp} (s : SubF F H) : ∀ {v : V} {p : P} {d : PyData}, Rep K mg F v p → toD p = some d → Dp K H v d
  | _, _, _, .non, e => by cases e; exact .non
  | _, _, _, .bl b, e => by cases e; exact .bl b
  | _, _, _, .int i, e => by cases e; exact .int i
  | _, _, _, .str x, e => by cases e; exact .str x
  | _, _, d, .lst h r, e => by
    rw [toD] at e
    obtain ⟨ds, e1, e2⟩ := Option.map_eq_some_iff.mp e
    cases e2
    exact .lst (s.seq h) (reps_dp s r e1)
  | _, _, d, .tup h r, e => by
    rw [toD] at e
    obtain ⟨ds, e1, e2⟩ := Option.map_eq_some_iff.mp e
    cases e2
    exact .tup (s.sqt h) (reps_dp s r e1)
  | _, _, _, .dic _ _, e => by cases e
  | _, _, _, .obj _ _ _ _, e => by cases e
  | _, _, _, .cls _, e => by cases e
  | _, _, _, .bty _, e => by cases e
theorem reps_dp {H : Hp} (s : SubF F H) : ∀ {v : List V} {p : List P} {d : List PyData}, Reps K mg F v p → toDs p = some d → DpAll K H v d
  | _, _, _, .nil, e => by cases e; exact .nil
  | _, _, d, .cons h r, e => by
    rw [toDs] at e
    obtain ⟨d1, e1, e⟩ := Option.bind_eq_some_iff.mp e
    obtain ⟨ds, e2, e3⟩ := Option.map_eq_some_iff.mp e
    cases e3
    exact .cons (rep_dp s h e1) (reps_dp s r e2)
end
theorem om_eqD (hu : X.A.units + 64 < cLine) : OpM X W (compareOp .Eq) (datOp (pEqD false)) := opm_of (op_eqD hu) fun F H L S x y z v u Q wr e rx ry q => by
  unfold pEqD at e
  split at e
  · rename_i d e' h1 h2
    split at e
    · rename_i h
      cases e
      rw [Bool.and_eq_true] at h
      exact ⟨d, e', rep_dp wr.sub rx h1, rep_dp wr.sub ry h2, h.1, h.2, q _ F H .refl wr (.bl _)⟩
    · cases e
  · cases e
theorem om_neD (hu : X.A.units + 64 < cLine) : OpM X W (compareOp .NotEq) (datOp (pEqD true)) := opm_of (op_neD hu) fun F H L S x y z v u Q wr e rx ry q => by
  unfold pEqD at e
  split at e
  · rename_i d e' h1 h2
    split at e
    · rename_i h
      cases e
      rw [Bool.and_eq_true] at h
      exact ⟨d, e', rep_dp wr.sub rx h1, rep_dp wr.sub ry h2, h.1, h.2, q _ F H .refl wr (.bl _)⟩
    · cases e
  · cases e
theorem dec_vint (a b : Int) : decide (V.int a = V.int b) = decide (a = b) := by simp
theorem dec_vbl (a b : Bool) : decide (V.bl a = V.bl b) = decide (a = b) := by simp
theorem dec_vstr (a b : Str) : decide (V.str a = V.str b) = decide (a = b) := by simp
theorem om_eqS : OpM X W (compareOp .Eq) (datOp (pEqS false)) := opm_of op_eq fun F H L S x y z v u Q wr e rx ry q => by
  unfold pEqS at e
  split at e
  · cases e
    rw [rep_int rx, rep_int ry]
    exact ⟨rfl, by rw [dec_vint]; exact q _ F H .refl wr (.bl _)⟩
  · cases e
    rw [rep_bl rx, rep_bl ry]
    exact ⟨rfl, by rw [dec_vbl]; exact q _ F H .refl wr (.bl _)⟩
  · cases e
    rw [rep_str rx, rep_str ry]
    exact ⟨rfl, by rw [dec_vstr]; exact q _ F H .refl wr (.bl _)⟩
  · cases e
theorem om_neS : OpM X W (compareOp .NotEq) (datOp (pEqS true)) := opm_of op_ne fun F H L S x y z v u Q wr e rx ry q => by
  unfold pEqS at e
  split at e
  · cases e
    rw [rep_int rx, rep_int ry]
    exact ⟨rfl, by rw [dec_vint]; exact q _ F H .refl wr (.bl _)⟩
  · cases e
    rw [rep_bl rx, rep_bl ry]
    exact ⟨rfl, by rw [dec_vbl]; exact q _ F H .refl wr (.bl _)⟩
  · cases e
    rw [rep_str rx, rep_str ry]
    exact ⟨rfl, by rw [dec_vstr]; exact q _ F H .refl wr (.bl _)⟩
  · cases e
theorem om_eq (hu : X.A.units + 64 < cLine) : OpM X W (compareOp .Eq) (datOp (pEq false)) := opm_or om_eqS (om_eqD hu)
theorem om_ne (hu : X.A.units + 64 < cLine) : OpM X W (compareOp .NotEq) (datOp (pEq true)) := opm_or om_neS (om_neD hu)
theorem dec_non {v : V} {p : P} (r : Rep K mg F v p) : decide (v = V.non) = isNonP p := by
  cases r <;> simp [isNonP]
theorem om_isN : OpM X W (compareOp .Is) (datOp (pIsN false)) := opm_of op_isN fun F H L S x y z v u Q wr e rx ry q => by
  unfold pIsN at e
  split at e
  · cases e
    cases ry
    exact ⟨rfl, by rw [dec_non rx]; exact q _ F H .refl wr (.bl _)⟩
  · cases e
theorem om_notN : OpM X W (compareOp .IsNot) (datOp (pIsN true)) := opm_of op_notN fun F H L S x y z v u Q wr e rx ry q => by
  unfold pIsN at e
  split at e
  · cases e
    cases ry
    exact ⟨rfl, by rw [dec_non rx]; exact q _ F H .refl wr (.bl _)⟩
  · cases e
theorem om_inS : OpM X W (compareOp .In) (datOp (pInS false)) := opm_of op_in_str fun F H L S x y z v u Q wr e rx ry q => by
  unfold pInS at e
  split at e
  · cases e
    rw [rep_str rx, rep_str ry]
    exact ⟨_, _, rfl, rfl, q _ F H .refl wr (.bl _)⟩
  · cases e
theorem om_notinS : OpM X W (compareOp .NotIn) (datOp (pInS true)) := opm_of op_notin_str fun F H L S x y z v u Q wr e rx ry q => by
  unfold pInS at e
  split at e
  · cases e
    rw [rep_str rx, rep_str ry]
    exact ⟨_, _, rfl, rfl, q _ F H .refl wr (.bl _)⟩
  · cases e
end

/-! ### tests -/
abbrev Ts := Slots → Store → Rs Bool
section
variable (K : PySem.W.Frag) (mg : Str → Option Value)
def Pt (F : Hp) (L : List Addr) (H : Hp) (r : Rs Bool) (Q : Bool → Hp → Prop) (E : XK) : Prop := match r with
  | .ok d S' => ∀ F' L' H', Xt F L H F' L' H' → WR K mg F' L' H' S' → Q d H'
  | .exc c fs S' => XQ K mg F L H c fs S' E
  | .bad => False
def tTs (W : WX) (m : Ts) : TT := fun σ H Q => ∃ F L S ρ, WR K mg F L H S ∧ ER K mg F L σ ρ ∧ Pt K mg F L H (m ρ S) Q fun c d H' => W c d σ H'
end
abbrev dT (X : Cx) (W : WX) (e : Expr) (m : Ts) : Prop := PT X e (tTs X.K X.mg W m)
abbrev dW (X : Cx) (W : WX) (e : Expr) (m : Ts) : Prop := PW X e (tTs X.K X.mg W m)
section
variable {K : PySem.W.Frag} {mg : Str → Option Value} {F F' H H' : Hp} {L L' : List Addr} {S S' : Store} {σ : L2.St} {ρ : Slots} {W : WX} {E : XK}
theorem Pt.from {r : Rs Bool} {Q : Bool → Hp → Prop} (x : Xt F L H F' L' H') (h : Pt K mg F L H r Q E) : Pt K mg F' L' H' r Q E := by
  cases r with
  | ok d S' => exact fun F2 L2 H2 x2 => h F2 L2 H2 (x.trans x2)
  | exc c fs S' => exact XQ.from x h
  | bad => exact h
theorem ev_thenT {m : Ex} {k : Val → Store → Rs Bool} {Q : Bool → Hp → Prop} {Q' : VK} (wr : WR K mg F L H S) (er : ER K mg F L σ ρ) (h : Pt K mg F L H ((m ρ S).bind k) Q fun c d H' => W c d σ H')
    (hk : ∀ d S1 v F1 L1 H1, m ρ S = .ok d S1 → Xt F L H F1 L1 H1 → WR K mg F1 L1 H1 S1 → ER K mg F1 L1 σ ρ → VR K mg F1 L1 v d → Pt K mg F1 L1 H1 (k d S1) Q (fun c d H' => W c d σ H') → Q' v H1) : tE K mg W m σ H Q' := by
  refine ⟨F, L, S, ρ, wr, er, ?_⟩
  cases e : m ρ S with
  | ok d S1 =>
    rw [e] at h
    exact fun v F1 L1 H1 x wr1 vr => hk d S1 v F1 L1 H1 e x wr1 (er.mono x.fr x.lp) vr (Pt.from x h)
  | exc c fs S1 =>
    rw [e] at h
    exact h
  | bad =>
    rw [e] at h
    exact h
theorem ts_thenT {m : Ts} {k : Bool → Store → Rs Bool} {Q Q' : Bool → Hp → Prop} (wr : WR K mg F L H S) (er : ER K mg F L σ ρ) (h : Pt K mg F L H ((m ρ S).bind k) Q fun c d H' => W c d σ H')
    (hk : ∀ d S1 F1 L1 H1, m ρ S = .ok d S1 → Xt F L H F1 L1 H1 → WR K mg F1 L1 H1 S1 → ER K mg F1 L1 σ ρ → Pt K mg F1 L1 H1 (k d S1) Q (fun c d H' => W c d σ H') → Q' d H1) : tTs K mg W m σ H Q' := by
  refine ⟨F, L, S, ρ, wr, er, ?_⟩
  cases e : m ρ S with
  | ok d S1 =>
    rw [e] at h
    exact fun F1 L1 H1 x wr1 => hk d S1 F1 L1 H1 e x wr1 (er.mono x.fr x.lp) (Pt.from x h)
  | exc c fs S1 =>
    rw [e] at h
    exact h
  | bad =>
    rw [e] at h
    exact h
theorem ts_then {m : Ts} {k : Bool → Store → Rs Val} {Q : VK} {Q' : Bool → Hp → Prop} (wr : WR K mg F L H S) (er : ER K mg F L σ ρ) (h : Pv K mg F L H ((m ρ S).bind k) Q fun c d H' => W c d σ H')
    (hk : ∀ d S1 F1 L1 H1, m ρ S = .ok d S1 → Xt F L H F1 L1 H1 → WR K mg F1 L1 H1 S1 → ER K mg F1 L1 σ ρ → Pv K mg F1 L1 H1 (k d S1) Q (fun c d H' => W c d σ H') → Q' d H1) : tTs K mg W m σ H Q' := by
  refine ⟨F, L, S, ρ, wr, er, ?_⟩
  cases e : m ρ S with
  | ok d S1 =>
    rw [e] at h
    exact fun F1 L1 H1 x wr1 => hk d S1 F1 L1 H1 e x wr1 (er.mono x.fr x.lp) (Pv.from x h)
  | exc c fs S1 =>
    rw [e] at h
    exact h
  | bad =>
    rw [e] at h
    exact h
theorem ts_out {m : Ts} {k : Bool → Store → Out} {D : Ends} {Q' : Bool → Hp → Prop} (wr : WR K mg F L H S) (er : ER K mg F L σ ρ) (h : Po K mg F L H ((m ρ S).out ρ k) D W)
    (hk : ∀ d S1 F1 L1 H1, m ρ S = .ok d S1 → Xt F L H F1 L1 H1 → WR K mg F1 L1 H1 S1 → ER K mg F1 L1 σ ρ → Po K mg F1 L1 H1 (k d S1) D W → Q' d H1) : tTs K mg W m σ H Q' := by
  refine ⟨F, L, S, ρ, wr, er, ?_⟩
  cases e : m ρ S with
  | ok d S1 =>
    rw [e] at h
    exact fun F1 L1 H1 x wr1 => hk d S1 F1 L1 H1 e x wr1 (er.mono x.fr x.lp) (Po.from x h)
  | exc c fs S1 =>
    rw [e] at h
    exact fun C d F2 L2 H2 e2 x2 w2 hd => h σ C d F2 L2 H2 e2 x2 w2 hd (er.mono x2.fr x2.lp)
  | bad =>
    rw [e] at h
    exact h
end
/-- a list's items: data, or in the store -/
def lstOf (S : Store) : Val → Option (List P)
  | .dat (.lst xs) => some xs
  | .loc n => (match S[n]? with | some (.lst xs) => some xs | _ => none)
  | _ => none
def seqOf (S : Store) : Val → Option (List P)
  | .dat (.lst xs) => some xs
  | .dat (.tup xs) => some xs
  | .loc n => (match S[n]? with | some (.lst xs) => some xs | _ => none)
  | _ => none
/-- truth -/
def truOf (S : Store) : Val → Option Bool
  | .dat .non => some false
  | .dat (.bl b) => some b
  | .dat (.int i) => some (i != 0)
  | .dat (.str x) => if x.length ≤ sizeLine then some ((x.length : Int) != 0) else none
  | .dat (.lst xs) => some (!xs.isEmpty)
  | .dat (.tup xs) => some (!xs.isEmpty)
  | .loc n => (match S[n]? with | some (.lst xs) => some (!xs.isEmpty) | some (.dic xs) => some (!xs.isEmpty) | _ => none)
  | _ => none
def tVal (m : Ex) : Ts := fun ρ S => (m ρ S).bind fun v S1 => match truOf S1 v with | some b => .ok b S1 | none => .bad
def tAndM (a b : Ts) : Ts := fun ρ S => (a ρ S).bind fun c S1 => if c = true then b ρ S1 else .ok false S1
def tOrM (a b : Ts) : Ts := fun ρ S => (a ρ S).bind fun c S1 => if c = true then .ok true S1 else b ρ S1
def tNotM (a : Ts) : Ts := fun ρ S => (a ρ S).bind fun c S1 => .ok (!c) S1
def eIf (t : Ts) (a b : Ex) : Ex := fun ρ S => (t ρ S).bind fun c S1 => if c = true then a ρ S1 else b ρ S1
section
variable {X : Cx} {W : WX} {K : PySem.W.Frag} {mg : Str → Option Value} {F H : Hp} {L : List Addr} {S : Store}
theorem isEmpty_len {α β : Type} {xs : List α} {ys : List β} (h : xs.length = ys.length) : xs.isEmpty = ys.isEmpty := by
  cases xs <;> cases ys <;> simp at h ⊢
theorem lstOf_ok {v : V} {d : Val} {xs : List P} (wr : WR K mg F L H S) (vr : VR K mg F L v d) (h : lstOf S d = some xs) : ∃ a vs, v = .ref a ∧ SqL K H a vs ∧ Reps K mg F vs xs := by
  cases vr with
  | dat r =>
    cases r with
    | lst q rs =>
      cases h
      exact ⟨_, _, rfl, wr.sub.seq q, rs⟩
    | _ => cases h
  | loc e =>
    rename_i a n
    cases e2 : S[n]? with
    | none => simp only [lstOf, e2] at h; cases h
    | some c =>
      simp only [lstOf, e2] at h
      split at h
      · rename_i ys hc
        cases hc
        cases h
        obtain ⟨_, o, ho, cr⟩ := wr.own n a _ e e2 (by simp)
        cases cr with
        | lst r => exact ⟨a, _, rfl, SqL.of ho, r⟩
      · cases h
theorem seqOf_ok {v : V} {d : Val} {xs : List P} (wr : WR K mg F L H S) (vr : VR K mg F L v d) (h : seqOf S d = some xs) : ∃ a vs, v = .ref a ∧ (SqL K H a vs ∨ SqT K H a vs) ∧ Reps K mg F vs xs := by
  cases vr with
  | dat r =>
    cases r with
    | lst q rs =>
      cases h
      exact ⟨_, _, rfl, .inl (wr.sub.seq q), rs⟩
    | tup q rs =>
      cases h
      exact ⟨_, _, rfl, .inr (wr.sub.sqt q), rs⟩
    | _ => cases h
  | loc e =>
    obtain ⟨a, vs, h1, h2, h3⟩ := lstOf_ok (d := .loc _) wr (VR.loc e) h
    exact ⟨a, vs, h1, .inl h2, h3⟩
theorem truOf_ok {v : V} {d : Val} {b : Bool} (wr : WR K mg F L H S) (vr : VR K mg F L v d) (h : truOf S d = some b) : TruV K v H b := by
  cases vr with
  | dat r =>
    cases r with
    | non => cases h; rfl
    | bl b => cases h; rfl
    | int i => cases h; rfl
    | str x =>
      simp only [truOf] at h
      split at h
      · rename_i hl
        cases h
        exact ⟨hl, rfl⟩
      · cases h
    | lst q rs => cases h; exact .inl ⟨_, wr.sub.seq q, by rw [isEmpty_len rs.length]⟩
    | tup q rs => cases h; exact .inr (.inl ⟨_, wr.sub.sqt q, by rw [isEmpty_len rs.length]⟩)
    | dic q rs => cases h
    | obj _ _ _ _ => cases h
    | cls _ => cases h
    | bty _ => cases h
  | loc e =>
    rename_i a n
    cases e2 : S[n]? with
    | none => simp only [truOf, e2] at h; cases h
    | some c =>
      simp only [truOf, e2] at h
      split at h
      · rename_i ys hc
        cases hc
        cases h
        obtain ⟨_, o, ho, cr⟩ := wr.own n a _ e e2 (by simp)
        cases cr with
        | lst r => exact .inl ⟨_, SqL.of ho, by rw [isEmpty_len r.length]⟩
      · rename_i ys hc
        cases hc
        cases h
        obtain ⟨_, o, ho, cr⟩ := wr.own n a _ e e2 (by simp)
        cases cr with
        | dic r => exact .inr (.inr ⟨_, ho, by rw [isEmpty_len r.length]⟩)
      · cases h
theorem dt_val {e : Expr} {m : Ex} (h : dE X W e m) (he : ∀ whole, isTrue e X.env whole = (do let v ← whole; standAt e.pos; holding [v] (truthy v)) := by intro _; rfl) : dT X W e (tVal m) := by
  refine imT (pt_truth h he) fun σ H Q ⟨F, L, S, ρ, wr, er, q⟩ => ?_
  refine ev_thenT wr er q fun d S1 v F1 L1 H1 _ x1 wr1 er1 vr1 q1 => ?_
  cases e : truOf S1 d with
  | none => simp only [e] at q1; exact q1.elim
  | some b =>
    simp only [e] at q1
    exact ⟨b, truOf_ok wr1 vr1 e, q1 F1 L1 H1 .refl wr1⟩
/-- a comparison as a test -/
theorem dt_cmp {a b : Expr} {op : CmpOp} {pos : Pos} {ma mb : Ex} {g : G2} (ho : OpM X W (compareOp op) g) (ha : dE X W a ma) (hb : dE X W b mb) (hm : behindInMarks op b = false) : dT X W (.Compare a [op] [b] pos) (tVal (eOp g ma mb)) := by
  refine ⟨fun pins s σ H Q I h => ?_⟩
  obtain ⟨F, L, S, ρ, wr, er, q⟩ := h
  refine wpAny_isTrue_Compare1 (thn (de_two (Q := fun x H1 => ∃ k, TruV X.K x H1 k ∧ Q k H1) ho ha hb I (ev_thenT wr er q fun d S1 v F1 L1 H1 _ x1 wr1 er1 vr1 q1 => ?_)) fun v s1 h1 => thn h1 fun u s2 h2 => thn h2 fun c s3 ⟨x, H1, I1, r1, q1⟩ => tru_ok pins s3 σ H1 x c Q I1 r1 q1) hm
  cases e : truOf S1 d with
  | none => simp only [e] at q1; exact q1.elim
  | some b =>
    simp only [e] at q1
    exact ⟨b, truOf_ok wr1 vr1 e, q1 F1 L1 H1 .refl wr1⟩
theorem dw_and1 {a : Expr} {m : Ts} {pos : Pos} (h : dT X W a m) : dW X W (.BoolOp .And [a] pos) m := pw_and1 h
theorem dw_or1 {a : Expr} {m : Ts} {pos : Pos} (h : dT X W a m) : dW X W (.BoolOp .Or [a] pos) m := pw_or1 h
theorem imW {e : Expr} {t t' : TT} (h : PW X e t) (i : ∀ σ H Q, t' σ H Q → t σ H Q) : PW X e t' := ⟨fun wh pins s σ H Q I q => h.run wh pins s σ H Q I (i σ H Q q)⟩
theorem dw_and {a b : Expr} {rest : List Expr} {m m' : Ts} {pos : Pos} (h : dT X W a m) (h' : dW X W (.BoolOp .And (b :: rest) pos) m') : dW X W (.BoolOp .And (a :: b :: rest) pos) (tAndM m m') := by
  refine imW (pw_and h h') fun σ H Q ⟨F, L, S, ρ, wr, er, q⟩ => ?_
  refine ts_thenT wr er q fun d S1 F1 L1 H1 _ x1 wr1 er1 q1 => ?_
  cases d with
  | true => exact ⟨F1, L1, S1, ρ, wr1, er1, q1⟩
  | false => exact q1 F1 L1 H1 .refl wr1
theorem dw_or {a b : Expr} {rest : List Expr} {m m' : Ts} {pos : Pos} (h : dT X W a m) (h' : dW X W (.BoolOp .Or (b :: rest) pos) m') : dW X W (.BoolOp .Or (a :: b :: rest) pos) (tOrM m m') := by
  refine imW (pw_or h h') fun σ H Q ⟨F, L, S, ρ, wr, er, q⟩ => ?_
  refine ts_thenT wr er q fun d S1 F1 L1 H1 _ x1 wr1 er1 q1 => ?_
  cases d with
  | false => exact ⟨F1, L1, S1, ρ, wr1, er1, q1⟩
  | true => exact q1 F1 L1 H1 .refl wr1
theorem dt_not {a : Expr} {m : Ts} {pos : Pos} (h : dT X W a m) : dT X W (.UnaryOp .Not a pos) (tNotM m) := by
  refine imT (pt_not h) fun σ H Q ⟨F, L, S, ρ, wr, er, q⟩ => ?_
  exact ts_thenT wr er q fun d S1 F1 L1 H1 _ x1 wr1 er1 q1 => q1 F1 L1 H1 .refl wr1
theorem de_if {c a b : Expr} {t : Ts} {ma mb : Ex} {pos : Pos} (hc : dT X W c t) (ha : dE X W a ma) (hb : dE X W b mb) : dE X W (.IfExp c a b pos) (eIf t ma mb) := by
  refine imE (pe_ifExp hc ha hb) fun σ H Q ⟨F, L, S, ρ, wr, er, q⟩ => ?_
  refine ts_then wr er q fun d S1 F1 L1 H1 _ x1 wr1 er1 q1 => ?_
  cases d with
  | true => exact ⟨F1, L1, S1, ρ, wr1, er1, q1⟩
  | false => exact ⟨F1, L1, S1, ρ, wr1, er1, q1⟩
/-! ### and, or, not as values -/
def eAnd (a b : Ex) : Ex := fun ρ S => (a ρ S).bind fun v S1 => match v with | .dat (.bl c) => if c = true then b ρ S1 else .ok (.dat (.bl false)) S1 | _ => .bad
def eOr (a b : Ex) : Ex := fun ρ S => (a ρ S).bind fun v S1 => match v with | .dat (.bl c) => if c = true then .ok (.dat (.bl true)) S1 else b ρ S1 | _ => .bad
def eNot (a : Ts) : Ex := fun ρ S => (a ρ S).bind fun c S1 => .ok (.dat (.bl (!c))) S1
theorem de_one {a : Expr} {op} {m : Ex} {pos : Pos} (h : dE X W a m) : dE X W (.BoolOp op [a] pos) m := pe_one h
theorem de_and {a b : Expr} {rest : List Expr} {m m' : Ex} {pos : Pos} (h : dE X W a m) (h' : dE X W (.BoolOp .And (b :: rest) pos) m') : dE X W (.BoolOp .And (a :: b :: rest) pos) (eAnd m m') := by
  refine imE (pe_and h h') fun σ H Q ⟨F, L, S, ρ, wr, er, q⟩ => ?_
  refine ev_then wr er q fun d S1 v F1 L1 H1 _ x1 wr1 er1 vr1 q1 => ?_
  split at q1
  · rename_i c _
    cases vr1 with
    | dat r =>
      cases r
      refine ⟨c, rfl, ?_⟩
      cases c with
      | true => exact ⟨F1, L1, S1, ρ, wr1, er1, q1⟩
      | false => exact q1 _ F1 L1 H1 .refl wr1 (.dat (.bl _))
  · exact q1.elim
theorem de_or {a b : Expr} {rest : List Expr} {m m' : Ex} {pos : Pos} (h : dE X W a m) (h' : dE X W (.BoolOp .Or (b :: rest) pos) m') : dE X W (.BoolOp .Or (a :: b :: rest) pos) (eOr m m') := by
  refine imE (pe_or h h') fun σ H Q ⟨F, L, S, ρ, wr, er, q⟩ => ?_
  refine ev_then wr er q fun d S1 v F1 L1 H1 _ x1 wr1 er1 vr1 q1 => ?_
  split at q1
  · rename_i c _
    cases vr1 with
    | dat r =>
      cases r
      refine ⟨c, rfl, ?_⟩
      cases c with
      | false => exact ⟨F1, L1, S1, ρ, wr1, er1, q1⟩
      | true => exact q1 _ F1 L1 H1 .refl wr1 (.dat (.bl _))
  · exact q1.elim
def eNotV (a : Ex) : Ex := fun ρ S => (a ρ S).bind fun v S1 => match v with | .dat (.bl c) => .ok (.dat (.bl (!c))) S1 | _ => .bad
theorem de_not {a : Expr} {m : Ex} {pos : Pos} (h : dE X W a m) : dE X W (.UnaryOp .Not a pos) (eNotV m) := by
  refine imE (pe_not h) fun σ H Q ⟨F, L, S, ρ, wr, er, q⟩ => ?_
  refine ev_then wr er q fun d S1 v F1 L1 H1 _ x1 wr1 er1 vr1 q1 => ?_
  split at q1
  · rename_i c _
    cases vr1 with
    | dat r =>
      cases r
      exact ⟨c, rfl, q1 _ F1 L1 H1 .refl wr1 (.dat (.bl _))⟩
  · exact q1.elim
end
end DL
set_option Elab.async false
set_option linter.all false
set_option maxRecDepth 100000
set_option maxHeartbeats 4000000
namespace DL
open PySem PySem.Spec PyProof.Rows L2

/-! ### displays -/
def dats : List Val → Option (List P)
  | [] => some []
  | .dat p :: r => (dats r).map fun ps => p :: ps
  | .loc _ :: _ => none
theorem dats_ok {K : PySem.W.Frag} {mg : Str → Option Value} {F : Hp} {L : List Addr} : ∀ {vs : List V} {ds : List Val} {ps : List P}, VRs K mg F L vs ds → dats ds = some ps → Reps K mg F vs ps
  | _, _, _, .nil, e => by cases e; exact .nil
  | _, _, _, .cons (.dat r) t, e => by
    rw [dats] at e
    obtain ⟨ps, e1, e2⟩ := Option.map_eq_some_iff.mp e
    cases e2
    exact .cons r (dats_ok t e1)
  | _, _, _, .cons (.loc _) t, e => by cases e
def eTup (a : Ar) : Ex := fun ρ S => (a ρ S).bind fun ds S1 => match dats ds with | some ps => if ps.length ≤ sizeLine then .ok (.dat (.tup ps)) S1 else .bad | none => .bad
def eLst (a : Ar) : Ex := fun ρ S => (a ρ S).bind fun ds S1 => match dats ds with | some ps => if ps.length ≤ sizeLine then .ok (.dat (.lst ps)) S1 else .bad | none => .bad
/-- a list that will change -/
def eLstM (a : Ar) : Ex := fun ρ S => (a ρ S).bind fun ds S1 => match dats ds with | some ps => if ps.length ≤ sizeLine then .ok (.loc S1.length) (S1 ++ [.lst ps]) else .bad | none => .bad
section
variable {X : Cx} {W : WX}
theorem de_tup {es : List Expr} {a : Ar} {x1} {pos : Pos} (h : dA X W es a) : dE X W (.Tuple es x1 pos) (eTup a) := by
  refine imE (pe_tup h) fun σ H Q ⟨F, L, S, ρ, wr, er, q⟩ => ?_
  refine ar_then wr er q fun ds S1 vs F1 L1 H1 _ x1 wr1 er1 vr1 q1 => ?_
  cases e : dats ds with
  | none => simp only [e] at q1; exact q1.elim
  | some ps =>
    simp only [e] at q1
    have rs := dats_ok vr1 e
    by_cases hl : ps.length ≤ sizeLine
    · rw [if_pos hl] at q1
      refine ⟨by rw [rs.length]; exact hl, fun p hp => q1 _ (upd F1 p (.tup vs)) L1 _ (.alloc wr1 hp) (wr1.alloc hp) (.dat (.tup (SqT.of upd_same) (rs.mono (same_upd (wr1.fnone hp)))))⟩
    · rw [if_neg hl] at q1
      exact q1.elim
theorem de_lst {es : List Expr} {a : Ar} {pos : Pos} (h : dA X W es a) : dE X W (.List es pos) (eLst a) := by
  refine imE (pe_lst h) fun σ H Q ⟨F, L, S, ρ, wr, er, q⟩ => ?_
  refine ar_then wr er q fun ds S1 vs F1 L1 H1 _ x1 wr1 er1 vr1 q1 => ?_
  cases e : dats ds with
  | none => simp only [e] at q1; exact q1.elim
  | some ps =>
    simp only [e] at q1
    have rs := dats_ok vr1 e
    by_cases hl : ps.length ≤ sizeLine
    · rw [if_pos hl] at q1
      refine ⟨by rw [rs.length]; exact hl, fun p hp => q1 _ (upd F1 p (.lst vs)) L1 _ (.alloc wr1 hp) (wr1.alloc hp) (.dat (.lst (SqL.of upd_same) (rs.mono (same_upd (wr1.fnone hp)))))⟩
    · rw [if_neg hl] at q1
      exact q1.elim
end
/-! ### the call of a built-in by values -/
abbrev Fms := List Val → Store → Rs Val
def CallM (X : Cx) (W : WX) (f : Value) (g : Fms) : Prop :=
  ∀ (pins : List (Addr × Obj)) (s : Shared) (σ : L2.St) (H F : Hp) (L : List Addr) (S : Store) (xs : List V) (us : List Value) (ds : List Val) (Q : VK), Inv X pins σ H s → WR X.K X.mg F L H S → Vals xs us → VRs X.K X.mg F L xs ds →
    Pv X.K X.mg F L H (g ds S) Q (fun c d H' => W c d σ H') → wpAny (model X.prog X.w) X.A (call f us) (EP X pins σ Q) X.xe s
def eCall (g : Fms) (a : Ar) : Ex := fun ρ S => (a ρ S).bind fun ds S1 => g ds S1
section
variable {X : Cx} {W : WX}
theorem callm_of {f : Value} {r : List V → Hp → VK → Prop} {g : Fms} (h : CallR X f r)
    (hr : ∀ F H L S ds d S' vs Q, WR X.K X.mg F L H S → g ds S = .ok d S' → VRs X.K X.mg F L vs ds → (∀ w F' L' H', Xt F L H F' L' H' → WR X.K X.mg F' L' H' S' → VR X.K X.mg F' L' w d → Q w H') → r vs H Q) (hx : ∀ ds S c fs S', g ds S ≠ .exc c fs S') : CallM X W f g := by
  intro pins s σ H F L S xs us ds Q I wr rv vr q
  cases e : g ds S with
  | ok d S' =>
    rw [e] at q
    exact h pins s σ H xs us Q I rv (hr F H L S ds d S' xs Q wr e vr q)
  | exc c fs S' => exact absurd e (hx ds S c fs S')
  | bad => rw [e] at q; exact q.elim
theorem ar_run {es : List Expr} {a : Ar} {g : Fms} {f : Value} {pos : Pos} (hc : CallM X W f g) (ha : dA X W es a) {pins : List (Addr × Obj)} {s : Shared} {σ : L2.St} {H : Hp} {Q : VK} (I : Inv X pins σ H s) (h : tE X.K X.mg W (eCall g a) σ H Q) :
    wpAny (model X.prog X.w) X.A (spliced (backTo pos (starEach es X.env))) (fun us s1 => wpAny (model X.prog X.w) X.A (call f us) (EP X pins σ Q) X.xe s1) X.xe s := by
  obtain ⟨F, L, S, ρ, wr, er, q⟩ := h
  refine thn (ha.run pos pins s σ H (fun vs H1 => ∃ F1 L1 S1 ds, WR X.K X.mg F1 L1 H1 S1 ∧ VRs X.K X.mg F1 L1 vs ds ∧ Pv X.K X.mg F1 L1 H1 (g ds S1) Q (fun c d H' => W c d σ H')) I
    (ar_then wr er q fun ds S1 vs F1 L1 H1 _ x1 wr1 er1 vr1 q1 => ⟨F1, L1, S1, ds, wr1, vr1, q1⟩)) fun us s1 ⟨vs, H1, I1, r1, F1, L1, S1, ds, wr1, vr1, q1⟩ => ?_
  exact hc pins s1 σ H1 F1 L1 S1 vs us ds Q I1 wr1 r1 vr1 q1
theorem de_callB {id : String} {x : Str} {p pos : Pos} {e : Expr} {es : List Expr} {a : Ar} {g : Fms} (hc : CallM X W (.builtin id) g) (hg : Gl X x) (hm : X.mg x = none) (hv : bootBuiltins x = some (.builtin id)) (ha : dA X W (e :: es) a) (hn : x ≠ "__name__" := by decide) (hdb : (x == ("__debug__" : Str)) = false := by decide)
    (he : starEach (e :: es) X.env = (false, eval e X.env) :: starEach es X.env := by rfl) (hpl : (backTo pos (starEach es X.env)).any (·.1) = false := by rfl) : dE X W (.Call (.Name x p) (e :: es) [] pos) (eCall g a) :=
  ⟨fun pins s σ H Q I h => wpAny_Call_Name_kw (ld_blt I hg hm hv (PyProof.Rows.callWith_builtin1 (ar_run hc ha I h) he hpl) hn hdb)⟩
theorem de_callTy {T : String} {x : Str} {p pos : Pos} {e : Expr} {es : List Expr} {a : Ar} {g : Fms} (hc : CallM X W (.type T) g) (hg : Gl X x) (hm : X.mg x = none) (hv : bootBuiltins x = some (.type T)) (ha : dA X W (e :: es) a) (hn : x ≠ "__name__" := by decide) (hdb : (x == ("__debug__" : Str)) = false := by decide)
    (he : starEach (e :: es) X.env = (false, eval e X.env) :: starEach es X.env := by rfl) (hpl : (backTo pos (starEach es X.env)).any (·.1) = false := by rfl) : dE X W (.Call (.Name x p) (e :: es) [] pos) (eCall g a) :=
  ⟨fun pins s σ H Q I h => wpAny_Call_Name_kw (ld_blt I hg hm hv (PyProof.Rows.callWith_type1 (ar_run hc ha I h) he hpl) hn hdb)⟩

end
/-! ### the call of a def -/
def spA (K : PySem.W.Frag) (mg : Str → Option Value) (m : Fm) : Sp := fun vs H Q E => ∃ F L S ds, WR K mg F L H S ∧ VRs K mg F L vs ds ∧ Pv K mg F L H (m ds S) Q E
/-- gd: no repr of a container is under way -/
def GdOk (gd : Bool) (A : Around) : Prop := gd = true → A.guards = some []
theorem GdOk.no {A : Around} : GdOk false A := fun h => nomatch h
theorem GdOk.make {gd : Bool} {A : Around} (h : GdOk gd A) (C : Addr) (us : List Value) (kw : List (Str × Value)) : GdOk gd (A.under (.builtin "type.__call__" ⟨.ref C :: us, kw⟩)) := fun e => by
  have q := h e
  have hg : Code.isGuard (.builtin "type.__call__" ⟨.ref C :: us, kw⟩) = false := by
    show guardIds.contains "type.__call__" = false
    decide +kernel
  simp [Around.under, Code.guards, hg, pushGuards, q]
/-- the def at f, called with keywords named ks, has this meaning (of the positional values, then the keywords') -/
def Cal (Pg : Program) (w : World) (K : PySem.W.Frag) (mg : Str → Option Value) (base : Heap) (gd : Bool) (k : Nat) (f : Addr) (ks : List Str) (m : Fm) : Prop :=
  ∀ (A : Around) (outer : List Env) (s : Shared) (H : Hp) (us ws : List Value) (vs zs : List V) (Q : VK) (E : XK), Room k A → GdOk gd A → Env0 Pg w K mg base A outer s H → Vals vs us → Vals zs ws → ws.length = ks.length → spA K mg m (vs ++ zs) H Q E →
    codeAny (model Pg w) A (.call (.ref f) ⟨us, ks.zip ws⟩) (L2.CR (L2.CX Pg w) outer Pg w H s Q E) s
/-- a def with this meaning, its parameters bound -/
def FnG (Pg : Program) (w : World) (K : PySem.W.Frag) (mg : Str → Option Value) (base : Heap) (gd : Bool) (k : Nat) (f : Addr) (fd : FuncData) (ps : List Str) (m : Fm) : Prop :=
  ∀ (A : Around) (outer : List Env) (s : Shared) (H : Hp) (args : Args) (us : List Value) (vs : List V) (ds : List Val) (F : Hp) (L : List Addr) (S : Store) (Q : VK) (E : XK), Room k A → GdOk gd A → Env0 Pg w K mg base A outer s H → BindsTo s fd args (ps.zip us) → Vals vs us → VRs K mg F L vs ds → ds.length = ps.length → WR K mg F L H S → Pv K mg F L H (m ds S) Q E →
    codeAny (model Pg w) A (.call (.ref f) args) (L2.CR (L2.CX Pg w) outer Pg w H s Q E) s
section
variable {Pg : Program} {w : World} {K : PySem.W.Frag} {mg : Str → Option Value} {base : Heap} {gd : Bool} {j k : Nat} {f : Addr} {fd : FuncData} {ps ks : List Str} {m : Fm}
theorem Cal.mono (F : Cal Pg w K mg base gd j f ks m) (h : j ≤ k) : Cal Pg w K mg base gd k f ks m := fun A outer s H us ws vs zs Q E hr => F A outer s H us ws vs zs Q E (hr.mono h)
/-- called by position, the last parameters by their defaults -/
def posM (n : Nat) (dds : List Val) (m : Fm) : Fm := fun ds S => if ds.length + dds.length = n then m (ds ++ dds) S else .bad
theorem cal_pos {dvs : List V} {dds : List Val} {dsV : List Value} (F : FnG Pg w K mg base gd k f fd ps m) (hb : Binds K fd ps dsV) (hv : Vals dvs dsV) (hd : ∀ F L, VRs K mg F L dvs dds) : Cal Pg w K mg base gd k f [] (posM ps.length dds m) := by
  intro A outer s H us ws vs zs Q E hr hG e0 r rz hl h
  obtain ⟨Fr, L, S, ds, wr, vr, q⟩ := h
  have hz : zs = [] := by
    cases zs with
    | nil => rfl
    | cons z zs => cases rz; cases hl
  subst hz
  rw [List.append_nil] at vr
  unfold posM at q
  by_cases hn : ds.length + dds.length = ps.length
  · rw [if_pos hn] at q
    have r2 : Vals (vs ++ dvs) (us ++ dsV) := r.append hv
    have vr2 := vr.append (hd Fr L)
    have hle : (us ++ dsV).length = ps.length := by rw [← r2.length, vr2.length, List.length_append]; exact hn
    have KX : K.In s.heap := e0.mod.kin.keeps fun b o e => (e0.bs b o e).1
    exact F A outer s H ⟨us, []⟩ (us ++ dsV) (vs ++ dvs) (ds ++ dds) Fr L S Q E hr hG e0 (hb s us KX hle) r2 vr2 (by rw [List.length_append]; exact hn) wr q
  · rw [if_neg hn] at q
    exact q.elim
end
section
variable {X : Cx} {W : WX} {gd : Bool} {k : Nat} {f : Addr} {ks : List Str} {m : Fm}
/-- below a body, or in it: the call runs -/
theorem run_cal {A : Around} {pins : List (Addr × Obj)} {σ : L2.St} {H F : Hp} {L : List Addr} {S : Store} {s : Shared} {Q : VK} {us ws : List Value} {vs zs : List V} {ds : List Val} (C : Cal X.prog X.w X.K X.mg X.base gd k f ks m) (sb : Sub X k A) (hG : GdOk gd A) (tk : Takes X W)
    (I : Inv X pins σ H s) (wr : WR X.K X.mg F L H S) (r : Vals vs us) (rz : Vals zs ws) (hl : ws.length = ks.length) (vr : VRs X.K X.mg F L (vs ++ zs) ds) (q : Pv X.K X.mg F L H (m ds S) Q fun c d H' => W c d σ H') :
    codeAny (model X.prog X.w) A (.call (.ref f) ⟨us, ks.zip ws⟩) (fun r s' => match r with | .ok (.ret v) => EP X pins σ Q v s' | .ok _ => False | .error e => X.xe e s') s := by
  have e0 : Env0 X.prog X.w X.K X.mg X.base A X.stack s H := by
    have e := I.env0
    exact ⟨by rw [sb.fr]; exact e.frames, e.mod, e.bs, e.bsz, e.funs, e.frf, e.hok, e.bare⟩
  refine codeAny_mono (C A X.stack s H us ws vs zs Q (fun c d H' => W c d σ H') sb.room hG e0 r rz hl ⟨F, L, S, ds, wr, vr, q⟩) fun r s' hq => ?_
  cases r with
  | error e => exact tk e s' (XE.of_call I (fun _ _ _ h => h) hq)
  | ok fl =>
    cases fl with
    | ret u => exact I.after hq
    | next => exact False.elim hq
    | brk => exact False.elim hq
    | cont => exact False.elim hq
theorem sub_here (hr : Room k X.A) : Sub X k X.A := ⟨hr, rfl⟩
theorem run_cal0 {A : Around} {pins : List (Addr × Obj)} {σ : L2.St} {H F : Hp} {L : List Addr} {S : Store} {s : Shared} {Q : VK} {us : List Value} {vs : List V} {ds : List Val} (C : Cal X.prog X.w X.K X.mg X.base gd k f [] m) (sb : Sub X k A) (hG : GdOk gd A) (tk : Takes X W)
    (I : Inv X pins σ H s) (wr : WR X.K X.mg F L H S) (r : Vals vs us) (vr : VRs X.K X.mg F L vs ds) (q : Pv X.K X.mg F L H (m ds S) Q fun c d H' => W c d σ H') :
    wpAny (model X.prog X.w) A (call (.ref f) us) (EP X pins σ Q) X.xe s := by
  refine wpAny_call (codeAny_mono (run_cal (us := us) (ws := []) (zs := []) C sb hG tk I wr r .nil rfl (by rw [List.append_nil]; exact vr) q) fun r s' hq => ?_)
  cases r with
  | error e => exact hq
  | ok fl =>
    cases fl with
    | ret u => exact hq
    | next => exact False.elim hq
    | brk => exact False.elim hq
    | cont => exact False.elim hq
theorem callm_fn (C : Cal X.prog X.w X.K X.mg X.base gd k f [] m) (hr : Room k X.A) (hG : GdOk gd X.A) (tk : Takes X W) : CallM X W (.ref f) m :=
  fun pins s σ H F L S xs us ds Q I wr rv vr q => run_cal0 C (sub_here hr) hG tk I wr rv vr q
end

/-! ### a def's meaning from its body's -/
def funM (n : Nat) (mb : Sm) : Fm := fun ds S => match mb (ds.map some ++ List.replicate (n - ds.length) none) S with
  | .nx _ S' => .ok (.dat .non) S'
  | .rt v S' => .ok v S'
  | .exc c fs _ S' => .exc c fs S'
  | _ => .bad
section
variable {Pg : Program} {w : World} {K : PySem.W.Frag} {mg : Str → Option Value} {base : Heap} {x qual : Str} {params : Arguments} {body : List Stmt} {scope : Scope} {dvs : List V} {kws : List (Str × V)} {f : Addr} {fd : FuncData} {gd : Bool} {k : Nat} {N ps : List Str} {mb : Sm}
theorem er_start {F : Hp} {L : List Addr} {vs : List V} {ds : List Val} (vr : VRs K mg F L vs ds) : ER K mg F L (L2.start N vs) (ds.map some ++ List.replicate (N.length - ds.length) none) := by
  refine ⟨by unfold L2.start; simp [vr.length], fun i d e => ?_⟩
  by_cases hi : i < ds.length
  · rw [List.getElem?_append_left (by simpa using hi), List.getElem?_map] at e
    cases q : ds[i]? with
    | none => rw [q] at e; cases e
    | some d' =>
      rw [q] at e
      simp at e
      subst e
      obtain ⟨v, e1, e2⟩ := vr.get q
      refine ⟨v, ?_, e2⟩
      unfold L2.start
      rw [List.getElem?_append_left (by simpa [vr.length] using hi), List.getElem?_map, e1]
      rfl
  · rw [List.getElem?_append_right (by simpa using hi), List.getElem?_replicate] at e
    split at e <;> cases e
/-- the body's reading from its meaning -/
theorem body_of {F : Hp} {L : List Addr} {S : Store} {H : Hp} {vs : List V} {ds : List Val} {Q : VK} {E : XK} (wr : WR K mg F L H S) (vr : VRs K mg F L vs ds) (q : Pv K mg F L H (funM N.length mb ds S) Q E) : tS K mg (fun c d _ H => E c d H) mb { nx := fun _ H' => Q .non H', rt := Q } (L2.start N vs) H := by
  refine ⟨F, L, S, _, wr, er_start vr, ?_⟩
  unfold funM at q
  cases e : mb (ds.map some ++ List.replicate (N.length - ds.length) none) S with
  | nx ρ S' =>
    simp only [e] at q
    exact fun σ F' L' H' x wr' er' => q _ F' L' H' x wr' (.dat .non)
  | rt v S' =>
    simp only [e] at q
    exact q
  | exc c fs ρ S' =>
    simp only [e] at q
    exact fun σ C d F' L' H' e1 x wr' xd _ => q C d F' L' H' e1 x wr' xd
  | bk ρ S' => simp only [e] at q; exact q.elim
  | ct ρ S' => simp only [e] at q; exact q.elim
  | bad => simp only [e] at q; exact q.elim
/-- what a def's body may use -/
abbrev BodyOk (Pg : Program) (w : World) (K : PySem.W.Frag) (mg : Str → Option Value) (base : Heap) (gd : Bool) (k : Nat) (f : Addr) (N : List Str) (qual : Str) (scope : Scope) (body : List Stmt) (mb : Sm) : Prop :=
  ∀ (cdv : Value) (A : Around) (outer : List Env) (s : Shared) (H : Hp) (E : XK), Room k (A.deeper (envOfC qual scope s.heap.objs.size f cdv)) → GdOk gd (A.deeper (envOfC qual scope s.heap.objs.size f cdv)) → Takes (cxOf (L2.CX Pg w) Pg w K mg base N qual scope f cdv A outer s H E) (fun c d _ H => E c d H) →
    PassesOwn (model Pg w) (A.deeper (envOfC qual scope s.heap.objs.size f cdv)) (envOfC qual scope s.heap.objs.size f cdv) (cxOf (L2.CX Pg w) Pg w K mg base N qual scope f cdv A outer s H E).xe →
    dSs (cxOf (L2.CX Pg w) Pg w K mg base N qual scope f cdv A outer s H E) (fun c d _ H => E c d H) body mb
theorem fn_ok (Fd : FunD K x qual params body scope dvs kws f fd) (Sc : FnScope N ps scope) (h : BodyOk Pg w K mg base gd k f N qual scope body mb) : FnG Pg w K mg base gd (k + 1) f fd ps (funM N.length mb) := by
  obtain ⟨oc, od, dV, kV, doc, pm, an, cdv, ct, osl, rfl, lk, hcd, _, _⟩ := Fd.ex
  intro A outer s H args us vs ds F L S Q E hr hG e0 hb r vr hl wr q
  refine StX.run_bnd lk hcd Sc hr e0 (G := fun xs H2 => xs = vs ∧ H2 = H) (fun A' Ex Q' hq => ?_) fun s2 H2 xs ⟨ex, eH⟩ hr' => ?_
  · exact hb (model Pg w) A' _ _ (hq s H vs us e0 Un.refl rfl (fun e s' z => z) r (by rw [vr.length]; exact hl) ⟨rfl, rfl⟩)
  · subst ex eH
    exact ⟨_, h cdv A outer s2 _ E hr' hG (takes_of rfl rfl rfl rfl) (passes_of (X := cxOf (L2.CX Pg w) Pg w K mg base N qual scope f cdv A outer s2 _ E) rfl), body_of wr vr q⟩
end

/-! ### statements -/
def sSeq (a b : Sm) : Sm := fun ρ S => match a ρ S with
  | .nx ρ1 S1 => b ρ1 S1
  | r => r
def sNil : Sm := fun ρ S => .nx ρ S
def sRet (m : Ex) : Sm := fun ρ S => (m ρ S).out ρ fun v S1 => .rt v S1
def sSet (i : Nat) (m : Ex) : Sm := fun ρ S => (m ρ S).out ρ fun v S1 => .nx (ρ.set i (some v)) S1
def sExpr (m : Ex) : Sm := fun ρ S => (m ρ S).out ρ fun _ S1 => .nx ρ S1
def sIf (t : Ts) (a b : Sm) : Sm := fun ρ S => (t ρ S).out ρ fun c S1 => if c = true then a ρ S1 else b ρ S1
def sBad : Sm := fun _ _ => .bad
section
variable {X : Cx} {W : WX} {pos : Pos}
theorem ds_nil : dSs X W [] sNil := imSs pss_nil fun D σ H ⟨F, L, S, ρ, wr, er, q⟩ => q σ F L H .refl wr er
theorem ds_cons {st : Stmt} {rest : List Stmt} {m m' : Sm} (h : dS X W st m) (h' : dSs X W rest m') : dSs X W (st :: rest) (sSeq m m') := by
  refine imSs (pss_cons h h') fun D σ H ⟨F, L, S, ρ, wr, er, q⟩ => ?_
  refine ⟨F, L, S, ρ, wr, er, ?_⟩
  unfold sSeq at q
  cases e : m ρ S with
  | nx ρ1 S1 =>
    rw [e] at q
    exact fun σ1 F1 L1 H1 x wr1 er1 => ⟨F1, L1, S1, ρ1, wr1, er1, Po.from x q⟩
  | rt v S1 => rw [e] at q; exact q
  | bk _ _ => rw [e] at q; exact q
  | ct _ _ => rw [e] at q; exact q
  | exc _ _ _ _ => rw [e] at q; exact q
  | bad => rw [e] at q; exact q
theorem ds_one {st : Stmt} {m : Sm} (h : dS X W st m) : dSs X W [st] m := pss_one h
theorem ds_ret {e : Expr} {m : Ex} (h : dE X W e m) : dS X W (.Return (some e) pos) (sRet m) := by
  refine imS (ps_ret h) fun D σ H ⟨F, L, S, ρ, wr, er, q⟩ => ?_
  exact ev_out wr er q fun d S1 v F1 L1 H1 _ x1 wr1 er1 vr1 q1 => q1 v F1 L1 H1 .refl wr1 vr1
theorem ds_set {i : Nat} {x : Str} {e : Expr} {m : Ex} {pos' : Pos} (hN : X.N.Nodup) (hi : X.N[i]? = some x) (hx : Loc X.env.scope x) (he : dE X W e m) (hs : swapsWith e (some (.Name x pos')) pos.line X.env = pure false := by rfl)
    (hf : X.fn x = true ∨ X.env.scope.names.lookup x = some .local := by first | exact .inl rfl | exact .inr rfl | assumption) : dS X W (.Assign [.Name x pos'] e pos) (sSet i m) := by
  refine imS (ps_set hN hi hx he hs hf) fun D σ H ⟨F, L, S, ρ, wr, er, q⟩ => ?_
  exact ev_out wr er q fun d S1 v F1 L1 H1 _ x1 wr1 er1 vr1 q1 => q1 _ F1 L1 H1 .refl wr1 (er1.set vr1)
theorem ds_expr {e : Expr} {m : Ex} (h : dE X W e m) (hs : swapsWith e none pos.line X.env = pure false := by rfl) : dS X W (.Expr e pos) (sExpr m) := by
  refine imS (ps_expr h hs) fun D σ H ⟨F, L, S, ρ, wr, er, q⟩ => ?_
  exact ev_out wr er q fun d S1 v F1 L1 H1 _ x1 wr1 er1 vr1 q1 => q1 _ F1 L1 H1 .refl wr1 er1
theorem ds_if {c : Expr} {a b : List Stmt} {t : Ts} {ma mb : Sm} (hc : dT X W c t) (ha : dSs X W a ma) (hb : dSs X W b mb) : dS X W (.If c a b pos) (sIf t ma mb) := by
  refine imS (ps_if hc ha hb) fun D σ H ⟨F, L, S, ρ, wr, er, q⟩ => ?_
  refine ts_out wr er q fun d S1 F1 L1 H1 _ x1 wr1 er1 q1 => ?_
  cases d with
  | true => exact ⟨F1, L1, S1, ρ, wr1, er1, q1⟩
  | false => exact ⟨F1, L1, S1, ρ, wr1, er1, q1⟩
/-- what the proof never comes to -/
theorem ds_never {st : Stmt} : dS X W st sBad := imS ps_never fun D σ H ⟨F, L, S, ρ, wr, er, q⟩ => q
end
end DL
set_option Elab.async false
set_option linter.all false
set_option maxRecDepth 100000
set_option maxHeartbeats 4000000
namespace DL
open PySem PySem.Spec PyProof.Rows L2

/-! ### an object: data, or in the store -/
def objOf (S : Store) : Val → Option (Nat × List (Str × P))
  | .dat (.obj c fs) => some (c, fs)
  | .loc n => (match S[n]? with | some (.obj c fs) => some (c, fs) | _ => none)
  | _ => none
section
variable {K : PySem.W.Frag} {mg : Str → Option Value} {F H : Hp} {L : List Addr} {S : Store}
theorem objOf_ok {v : V} {d : Val} {c : Nat} {fps : List (Str × P)} (wr : WR K mg F L H S) (vr : VR K mg F L v d) (h : objOf S d = some (c, fps)) :
    ∃ a C dx fs, v = .ref a ∧ mg (cn c) = some (.ref C) ∧ H a = some (.ins C dx fs) ∧ FsOk K C fs ∧ RepF K mg F fs fps := by
  cases vr with
  | dat r =>
    cases r with
    | obj hc q fo rs =>
      cases h
      exact ⟨_, _, _, _, rfl, hc, wr.sub.ins q, fo, rs⟩
    | _ => cases h
  | loc e =>
    rename_i a n
    cases e2 : S[n]? with
    | none => simp only [objOf, e2] at h; cases h
    | some ct =>
      simp only [objOf, e2] at h
      split at h
      · rename_i c' fs' hc
        cases hc
        cases h
        obtain ⟨_, o, ho, cr⟩ := wr.own n a _ e e2 (by simp)
        cases cr with
        | obj hc fo r => exact ⟨a, _, _, _, rfl, hc, ho, fo, r⟩
      · cases h
theorem lookup_at : ∀ {fs : List (Str × V)} {i : Nat} {f : Str} {v : V}, (fs.map (·.1)).Nodup → fs[i]? = some (f, v) → fs.lookup f = some v
  | [], i, f, v, _, e => by simp at e
  | (g, u) :: r, 0, f, v, nd, e => by
    simp at e
    obtain ⟨rfl, rfl⟩ := e
    simp
  | (g, u) :: r, i + 1, f, v, nd, e => by
    rw [List.map_cons, List.nodup_cons] at nd
    have e' : r[i]? = some (f, v) := by simpa using e
    have hm : f ∈ r.map (·.1) := List.mem_map.mpr ⟨(f, v), List.mem_of_getElem? e', rfl⟩
    have ne : (f == g) = false := by
      rw [beq_eq_false_iff_ne]
      intro q
      exact nd.1 (by rw [← q]; exact hm)
    rw [List.lookup_cons, ne]
    exact lookup_at nd.2 e'
theorem RepF.at : ∀ {fs : List (Str × V)} {ps : List (Str × P)} {i : Nat} {f : Str} {p : P}, RepF K mg F fs ps → ps[i]? = some (f, p) → ∃ v, fs[i]? = some (f, v) ∧ Rep K mg F v p
  | _, _, _, _, _, .nil, e => by simp at e
  | _, _, 0, _, _, .cons h _, e => by
    simp at e
    obtain ⟨rfl, rfl⟩ := e
    exact ⟨_, rfl, h⟩
  | _, _, i + 1, f, p, .cons _ r, e => by
    obtain ⟨v, h1, h2⟩ := RepF.at (i := i) (f := f) (p := p) r (by simpa using e)
    exact ⟨v, by simpa using h1, h2⟩
theorem mem_of_lookup : ∀ {fs : List (Str × V)} {m : Str} {v : V}, fs.lookup m = some v → m ∈ fs.map (·.1)
  | [], m, v, h => by cases h
  | (g, u) :: r, m, v, h => by
    rw [List.lookup_cons] at h
    cases q : m == g with
    | true =>
      rw [beq_iff_eq] at q
      rw [q]
      exact List.mem_cons_self
    | false =>
      rw [q] at h
      exact List.mem_cons_of_mem _ (mem_of_lookup h)
theorem FsOk.no_meth {C : Addr} {fs : List (Str × V)} {m : Str} {u : Value} (o : FsOk K C fs) (h : PySem.W.findIn K (.ref C) m = some (some u)) : fs.lookup m = none := by
  cases e : fs.lookup m with
  | none => rfl
  | some v =>
    have hm := o.no m (mem_of_lookup e)
    unfold NoAttr at hm
    rw [hm] at h
    cases h
theorem keys_put (f : Str) (v : V) : ∀ fs : List (Str × V), (fs.map (·.1)).Nodup → ((putF f v fs).map (·.1)).Nodup ∧ ∀ k, k ∈ (putF f v fs).map (·.1) → k = f ∨ k ∈ fs.map (·.1)
  | [], _ => by
    refine ⟨by simp [putF], fun k hk => ?_⟩
    simp [putF] at hk
    exact .inl hk
  | (g, u) :: r, nd => by
    rw [List.map_cons, List.nodup_cons] at nd
    show (((if g = f then (g, v) :: r else (g, u) :: putF f v r) : List (Str × V)).map (·.1)).Nodup ∧ ∀ k, k ∈ ((if g = f then (g, v) :: r else (g, u) :: putF f v r) : List (Str × V)).map (·.1) → _
    by_cases e : g = f
    · rw [if_pos e]
      refine ⟨by rw [List.map_cons, List.nodup_cons]; exact nd, fun k hk => .inr hk⟩
    · rw [if_neg e]
      obtain ⟨h1, h2⟩ := keys_put f v r nd.2
      refine ⟨?_, fun k hk => ?_⟩
      · rw [List.map_cons, List.nodup_cons]
        refine ⟨fun q => ?_, h1⟩
        rcases h2 _ q with z | z
        · exact e z
        · exact nd.1 z
      · rw [List.map_cons, List.mem_cons] at hk
        rcases hk with hk | hk
        · exact .inr (by rw [hk]; exact List.mem_cons_self)
        · rcases h2 _ hk with z | z
          · exact .inl z
          · exact .inr (List.mem_cons_of_mem _ z)
theorem FsOk.put {C : Addr} {fs : List (Str × V)} {f : Str} {v : V} (o : FsOk K C fs) (h : NoAttr K C f) : FsOk K C (putF f v fs) := by
  obtain ⟨h1, h2⟩ := keys_put f v fs o.nd
  refine ⟨h1, fun k hk => ?_⟩
  rcases h2 k hk with z | z
  · rw [z]; exact h
  · exact o.no k z
theorem FsOk.nil {C : Addr} : FsOk K C [] := ⟨by simp, fun k hk => by simp at hk⟩
end

/-! ### o.f -/
def eFld (c : Nat) (f : Str) (i : Nat) (o : Ex) : Ex := fun ρ S => (o ρ S).bind fun v S1 => match objOf S1 v with
  | some (c', fs) => if c' = c then (match fs[i]? with | some (g, p) => if g = f then .ok (.dat p) S1 else .bad | none => .bad) else .bad
  | none => .bad
def sFldM (c : Nat) (f : Str) (o e : Ex) : Sm := fun ρ S => (e ρ S).out ρ fun v S1 => (o ρ S1).out ρ fun w S2 => match v, w with
  | .dat p, .loc n => (match S2[n]? with | some (.obj c' fs) => if c' = c ∧ fs.length < 1000 then .nx ρ (S2.set n (.obj c (putP f p fs))) else .bad | _ => .bad)
  | _, _ => .bad
section
variable {X : Cx} {W : WX} {pos pos' : Pos}
theorem de_fld {c : Nat} {C : Addr} {f : Str} {i : Nat} {e : Expr} {m : Ex} (hc : X.mg (cn c) = some (.ref C)) (cl : Cls X.K C) (he : dE X W e m) (hb : attributeBase e f X.env (eval e X.env) = eval e X.env := by rfl) : dE X W (.Attribute e f pos) (eFld c f i m) := by
  refine imE (pe_fld he hb) fun σ H Q ⟨F, L, S, ρ, wr, er, q⟩ => ?_
  refine ev_then wr er q fun d S1 v F1 L1 H1 _ x1 wr1 er1 vr1 q1 => ?_
  cases e1 : objOf S1 d with
  | none => simp only [e1] at q1; exact q1.elim
  | some cf =>
    obtain ⟨c', fs⟩ := cf
    simp only [e1] at q1
    by_cases h : c' = c
    · rw [if_pos h] at q1
      subst h
      cases e2 : fs[i]? with
      | none => simp only [e2] at q1; exact q1.elim
      | some gp =>
        obtain ⟨g, p⟩ := gp
        simp only [e2] at q1
        by_cases hg : g = f
        · rw [if_pos hg] at q1
          subst hg
          obtain ⟨a, C', dx, fvs, rfl, hc', ha, fo, rf⟩ := objOf_ok wr1 vr1 e1
          rw [hc] at hc'
          cases hc'
          obtain ⟨u, hu, ru⟩ := rf.at e2
          exact ⟨a, C, dx, fvs, u, rfl, ha, cl, fo.no _ (List.mem_map.mpr ⟨_, List.mem_of_getElem? hu, rfl⟩), lookup_at fo.nd hu, q1 u F1 L1 H1 .refl wr1 (.dat ru)⟩
        · rw [if_neg hg] at q1
          exact q1.elim
    · rw [if_neg h] at q1
      exact q1.elim
theorem ds_fld {c : Nat} {C : Addr} {f : Str} {o e : Expr} {mo me : Ex} (hc : X.mg (cn c) = some (.ref C)) (cl : Cls X.K C) (nf : NoAttr X.K C f) (ho : dE X W o mo) (he : dE X W e me) (hs : swapsWith e (some (.Attribute o f pos')) pos.line X.env = pure false := by rfl) :
    dS X W (.Assign [.Attribute o f pos'] e pos) (sFldM c f mo me) := by
  refine imS (ps_fld ho he hs) fun D σ H ⟨F, L, S, ρ, wr, er, q⟩ => ?_
  refine ev_out wr er q fun d S1 v F1 L1 H1 _ x1 wr1 er1 vr1 q1 => ?_
  refine ev_out wr1 er1 q1 fun d2 S2 v2 F2 L2 H2 _ x2 wr2 er2 vr2 q2 => ?_
  cases vr1 with
  | loc _ => exact q2.elim
  | dat r1 =>
    rename_i p
    cases vr2 with
    | dat _ => exact q2.elim
    | loc e2 =>
      rename_i a n _
      cases e3 : S2[n]? with
      | none => simp only [e3] at q2; exact q2.elim
      | some ct =>
        simp only [e3] at q2
        split at q2
        · rename_i c' fs hq
          cases hq
          by_cases h : c' = c ∧ fs.length < 1000
          · rw [if_pos h] at q2
            obtain ⟨hcc, hl⟩ := h
            subst hcc
            obtain ⟨hF, ob, hob, cr⟩ := wr2.own n a _ e2 e3 (by simp)
            cases cr with
            | obj hc' fo rf =>
              rw [hc] at hc'
              cases hc'
              refine ⟨a, C, _, _, rfl, hob, cl, nf, by rw [rf.length]; exact hl, ?_⟩
              exact q2 σ F2 L2 _ (.write e2 hF) (wr2.write e2 hF (.obj hc (fo.put nf) (rf.put (r1.mono x2.fr)))) er2
          · rw [if_neg h] at q2
            exact q2.elim
        · exact q2.elim
end

/-! ### isinstance -/
inductive Tg where
  | b (n : String) | o (c : Nat)
def tgOf (S : Store) : Val → Option Tg
  | .dat .non => some (.b "NoneType")
  | .dat (.bl _) => some (.b "bool")
  | .dat (.int _) => some (.b "int")
  | .dat (.str _) => some (.b "str")
  | .dat (.lst _) => some (.b "list")
  | .dat (.tup _) => some (.b "tuple")
  | .dat (.dic _) => some (.b "dict")
  | .dat (.obj c _) => some (.o c)
  | .dat (.cls _) => none
  | .dat (.bty _) => none
  | .loc n => (match S[n]? with | some (.lst _) => some (.b "list") | some (.dic _) => some (.b "dict") | some (.obj c _) => some (.o c) | _ => none)
def isBs (a b : String) : Bool := a == b || (a == "bool" && b == "int")
def isB : List String := ["int", "bool", "str", "list", "tuple", "dict"]
def isAll : List String := ["NoneType", "bool", "int", "str", "list", "tuple", "dict"]
/-- what of the text a class of the program must have: its number, its place, isinstance -/
structure ClsF (K : PySem.W.Frag) (mg : Str → Option Value) (c : Nat) (C : Addr) : Prop where
  at_ : mg (cn c) = some (.ref C)
  cl : Cls K C
  ha : PySem.W.findIn K (.ref C) "__class__" = some (some (.builtin "object.__class__"))
  hn : PySem.W.specialIn K (.builtin "object.__class__") "__get__" = some (some (.builtin "getset_descriptor.__get__"))
  htk : PySem.W.takesIn K (.builtin "object.__class__") = some true
  hm : PySem.W.mroIn K C (.type "object") = some true
  toB : ∀ n ∈ isB, PySem.W.kitOne K (.ref C) (.type n) = some false
  ofB : ∀ n ∈ isAll, PySem.W.kitOne K (.type n) (.ref C) = some false
structure IsiF (K : PySem.W.Frag) (mg : Str → Option Value) (cs : List Nat) : Prop where
  cls : ∀ c ∈ cs, ∃ C, ClsF K mg c C
  two : ∀ c ∈ cs, ∀ d ∈ cs, c ≠ d → ∀ C D, mg (cn c) = some (.ref C) → mg (cn d) = some (.ref D) → PySem.W.kitOne K (.ref C) (.ref D) = some false
def isiM (cs : List Nat) : Fms := fun ds S => match ds with
  | [x, .dat (.bty n)] => (match tgOf S x with
    | some (.b a) => if isB.contains n then .ok (.dat (.bl (isBs a n))) S else .bad
    | some (.o c) => if isB.contains n && cs.contains c then .ok (.dat (.bl false)) S else .bad
    | none => .bad)
  | [x, .dat (.cls d)] => (match tgOf S x with
    | some (.b _) => if cs.contains d then .ok (.dat (.bl false)) S else .bad
    | some (.o c) => if cs.contains d && cs.contains c then .ok (.dat (.bl (c == d))) S else .bad
    | none => .bad)
  | _ => .bad
section
variable {X : Cx} {W : WX} {K : PySem.W.Frag} {mg : Str → Option Value} {F H : Hp} {L : List Addr} {S : Store}
theorem tgOf_b {v : V} {d : Val} {n : String} (wr : WR K mg F L H S) (vr : VR K mg F L v d) (h : tgOf S d = some (.b n)) : TyX K H v (.type n) ∧ n ∈ isAll := by
  cases vr with
  | dat r =>
    cases r with
    | non => cases h; exact ⟨.base .non, by simp [isAll]⟩
    | bl b => cases h; exact ⟨.base (.bl b), by simp [isAll]⟩
    | int i => cases h; exact ⟨.base (.int i), by simp [isAll]⟩
    | str x => cases h; exact ⟨.base (.str x), by simp [isAll]⟩
    | lst q rs =>
      cases h
      refine ⟨?_, by simp [isAll]⟩
      rcases wr.sub.seq q with (q | ⟨o, q⟩) | ⟨o, its, n, q, c, _⟩
      · exact .base (.lst q)
      · exact .base (.frz q)
      · exact .kList q c
    | tup q rs =>
      cases h
      refine ⟨?_, by simp [isAll]⟩
      rcases wr.sub.sqt q with (q | ⟨o, q⟩) | ⟨o, its, n, q, c, _⟩
      · exact .base (.tup q)
      · exact .fTuple q
      · exact .kTuple q c
    | dic q rs =>
      cases h
      refine ⟨?_, by simp [isAll]⟩
      rcases wr.sub.dic q with q | ⟨o, q⟩
      · exact .base (.dK q)
      · exact .fDict q
    | obj _ _ _ _ => cases h
    | cls _ => cases h
    | bty _ => cases h
  | loc e =>
    rename_i a m
    cases e2 : S[m]? with
    | none => simp only [tgOf, e2] at h; cases h
    | some ct =>
      simp only [tgOf, e2] at h
      split at h
      · rename_i ys hc
        cases hc
        cases h
        obtain ⟨_, o, ho, cr⟩ := wr.own m a _ e e2 (by simp)
        cases cr with
        | lst r => exact ⟨.base (.lst ho), by simp [isAll]⟩
      · rename_i ys hc
        cases hc
        cases h
        obtain ⟨_, o, ho, cr⟩ := wr.own m a _ e e2 (by simp)
        cases cr with
        | dic r => exact ⟨.base (.dK ho), by simp [isAll]⟩
      · cases h
      · cases h
theorem tgOf_o {v : V} {d : Val} {c : Nat} (wr : WR K mg F L H S) (vr : VR K mg F L v d) (h : tgOf S d = some (.o c)) {C : Addr} (cf : ClsF K mg c C) : TyX K H v (.ref C) := by
  have h2 : ∃ fs, objOf S d = some (c, fs) := by
    cases vr with
    | dat r =>
      cases r with
      | obj _ _ _ _ => cases h; exact ⟨_, rfl⟩
      | _ => cases h
    | loc e =>
      rename_i a m
      cases e2 : S[m]? with
      | none => simp only [tgOf, e2] at h; cases h
      | some ct =>
        simp only [tgOf, e2] at h
        split at h
        · cases h
        · cases h
        · rename_i c' fs hc
          cases hc
          cases h
          exact ⟨fs, by simp only [objOf, e2]⟩
        · cases h
  obtain ⟨fs, h2⟩ := h2
  obtain ⟨a, C', dx, fvs, rfl, hc', ha, fo, rf⟩ := objOf_ok wr vr h2
  rw [cf.at_] at hc'
  cases hc'
  exact .base (.ins ha cf.cl cf.ha cf.hn cf.htk cf.hm)
theorem kitB_tab : ∀ a ∈ isAll, ∀ n ∈ isB, kitB a n = some (isBs a n) := by
  have h : isAll.all (fun a => isB.all fun n => decide (kitB a n = some (isBs a n))) = true := by decide +kernel
  intro a ha n hn
  have h1 := List.all_eq_true.mp h a ha
  have h2 := List.all_eq_true.mp h1 n hn
  exact of_decide_eq_true h2
theorem cm_isi {cs : List Nat} (T : IsiF X.K X.mg cs) : CallM X W (.builtin "isinstance") (isiM cs) := by
  refine callm_of call_isi (fun F H L S ds d S' vs Q wr e vr q => ?_) (fun ds S c fs S' h => ?_)
  · unfold isiM at e
    split at e
    · rename_i x n
      cases vr with
      | cons vx vr =>
        cases vr with
        | cons vn vr =>
          cases vr
          cases vn with
          | dat rn =>
            cases rn
            split at e
            · rename_i a ha
              split at e
              · rename_i hb
                cases e
                have hb' : n ∈ isB := by simpa using hb
                obtain ⟨t, hi⟩ := tgOf_b wr vx ha
                exact ⟨_, _, _, _, _, rfl, .ty n, t, kit_ty (kitB_tab a hi n hb'), q _ F L H .refl wr (.dat (.bl _))⟩
              · cases e
            · rename_i c hc
              split at e
              · rename_i hb
                cases e
                rw [Bool.and_eq_true] at hb
                have hb' : n ∈ isB := by simpa using hb.1
                have hcc : c ∈ cs := by simpa using hb.2
                obtain ⟨C, cf⟩ := T.cls c hcc
                exact ⟨_, _, _, _, _, rfl, .ty n, tgOf_o wr vx hc cf, cf.toB n hb', q _ F L H .refl wr (.dat (.bl _))⟩
              · cases e
            · cases e
    · rename_i x dc
      cases vr with
      | cons vx vr =>
        cases vr with
        | cons vn vr =>
          cases vr
          cases vn with
          | dat rn =>
            cases rn with
            | cls hD =>
              rename_i D
              split at e
              · rename_i a ha
                split at e
                · rename_i hb
                  cases e
                  have hdd : dc ∈ cs := by simpa using hb
                  obtain ⟨D', df⟩ := T.cls dc hdd
                  have := df.at_
                  rw [hD] at this
                  cases this
                  obtain ⟨t, hi⟩ := tgOf_b wr vx ha
                  exact ⟨_, _, _, _, _, rfl, .own D, t, df.ofB a hi, q _ F L H .refl wr (.dat (.bl _))⟩
                · cases e
              · rename_i c hc
                split at e
                · rename_i hb
                  cases e
                  rw [Bool.and_eq_true] at hb
                  have hdd : dc ∈ cs := by simpa using hb.1
                  have hcc : c ∈ cs := by simpa using hb.2
                  obtain ⟨C, cf⟩ := T.cls c hcc
                  refine ⟨_, _, _, _, (c == dc), rfl, .own D, tgOf_o wr vx hc cf, ?_, q _ F L H .refl wr (.dat (.bl _))⟩
                  by_cases hcd : c = dc
                  · subst hcd
                    have := cf.at_
                    rw [hD] at this
                    cases this
                    simp [PySem.W.kitOne]
                  · rw [T.two c hcc dc hdd hcd C D cf.at_ hD]
                    simp [hcd]
                · cases e
              · cases e
    · cases e
  · unfold isiM at h
    split at h
    · split at h
      · split at h <;> cases h
      · split at h <;> cases h
      · cases h
    · split at h
      · split at h <;> cases h
      · split at h <;> cases h
      · cases h
    · cases h
/-- a class of the program, a built-in class, as a value -/
theorem de_cls {c : Nat} {x : Str} {C : Addr} {pos : Pos} (hg : Gl X x) (hx : cn c = x) (hm : X.mg x = some (.ref C)) (hd : (x == ("__debug__" : Str)) = false := by decide) : dE X W (.Name x pos) (eK (.cls c)) :=
  de_K (pe_glob (v := .ref C) hg hm rfl hd) fun F => .cls (by rw [hx]; exact hm)
theorem de_bty {n : String} {x : Str} {pos : Pos} (hg : Gl X x) (hm : X.mg x = none) (hv : bootBuiltins x = some (.type n)) (hn : x ≠ "__name__" := by decide) (hd : (x == ("__debug__" : Str)) = false := by decide) : dE X W (.Name x pos) (eK (.bty n)) :=
  de_K (pe_bltn (v := .ty n) hg hm hv rfl hn hd) fun F => .bty n
end
end DL
set_option Elab.async false
set_option linter.all false
set_option maxRecDepth 100000
set_option maxHeartbeats 4000000
namespace DL
open PySem PySem.Spec PyProof.Rows L2
open PySem.W (Looks)
/-! ### operators of the program's own classes -/
section
variable {M : Model} {A : Around} {E : Value → Shared → Prop} {s : Shared} {a b ta tb : Value} {op : Operator} {nm : String} {Q : Value → Shared → Prop}
/-- a op b by a's own method (the right one's type is another, none above it in its line, no Python slot) -/
theorem binop_left (hop : op.info.2 = nm) (la : Looks M s.heap (typeOf a) ta) (lb : Looks M s.heap (typeOf b) tb) (hL : Looks M s.heap (fillsNumberSlot ta nm) true)
    (hR : ta = tb ∨ (ta ≠ tb ∧ Looks M s.heap (fillsNumberSlot tb nm) false) ∨
      (ta ≠ tb ∧ Looks M s.heap (fillsNumberSlot tb nm) true ∧ Looks M s.heap (isSubtype tb ta) false ∧ Looks M s.heap (numberSlotInPython ta nm) true ∧ Looks M s.heap (numberSlotInPython tb nm) false ∧ ∃ tk, Looks M s.heap (typeLookup tb (dunderR nm)) tk))
    (h : wpAny M A (tryMethod a (dunder nm) b) (fun r s' => ∃ v, r = some v ∧ Q v s') E s) : wpAny M A (binaryOp op a b) Q E s := by
  unfold binaryOp
  refine wpAny_holding ?_
  obtain ⟨sym, nm', e⟩ : ∃ sym nm', op.info = (sym, nm') := ⟨_, _, rfl⟩
  rw [e] at hop ⊢
  obtain rfl : nm' = nm := hop
  dsimp only
  have fin : wpAny M A (binaryOp1 nm' a b) (fun r s' => ∃ v, r = some v ∧ Q v s') E s := by
    unfold binaryOp1
    refine wpAny_bind (la.here (wpAny_bind (lb.here (wpAny_bind (hL.here ?_)))))
    rcases hR with rfl | ⟨hne, hr⟩ | ⟨hne, hr, hsub, hp, hq, tk, htk⟩
    · rw [if_pos (by simp)]
      refine wpAny_bind (wpAny_pure ?_)
      simp only [Bool.and_false, Bool.false_eq_true, if_false, if_true, Bool.false_and, Bool.true_and, pure_bind, bind_assoc]
      refine wpAny_bind (wpAny_mono h (fun r s' hr => ?_) fun _ _ x => x)
      obtain ⟨v, rfl, q⟩ := hr
      exact wpAny_pure ⟨v, rfl, q⟩
    · rw [if_neg (by simpa using hne)]
      refine wpAny_bind (hr.here ?_)
      simp only [Bool.and_false, Bool.false_eq_true, if_false, if_true, Bool.false_and, Bool.true_and, pure_bind, bind_assoc]
      refine wpAny_bind (wpAny_mono h (fun r s' hr => ?_) fun _ _ x => x)
      obtain ⟨v, rfl, q⟩ := hr
      exact wpAny_pure ⟨v, rfl, q⟩
    · rw [if_neg (by simpa using hne)]
      refine wpAny_bind (hr.here ?_)
      simp only [Bool.and_true, Bool.true_and, if_true, pure_bind, bind_assoc]
      refine wpAny_bind (hsub.here ?_)
      simp only [Bool.false_eq_true, if_false, pure_bind, bind_assoc, Bool.not_false, Bool.and_true, if_true]
      refine wpAny_bind (hp.here ?_)
      simp only [if_true]
      refine wpAny_bind (hq.here ?_)
      simp only [Bool.not_false, if_true]
      refine wpAny_bind (htk.here ?_)
      refine wpAny_bind (wpAny_mono h (fun r s' hr => ?_) fun _ _ x => x)
      obtain ⟨v, rfl, q⟩ := hr
      exact wpAny_pure ⟨v, rfl, q⟩
  refine wpAny_bind (wpAny_mono fin (fun r s' hr => ?_) fun _ _ x => x)
  obtain ⟨v, rfl, q⟩ := hr
  exact wpAny_pure q
/-- a op b by b's reflected method, a's own saying NotImplemented -/
theorem binop_right (hop : op.info.2 = nm) (la : Looks M s.heap (typeOf a) ta) (lb : Looks M s.heap (typeOf b) tb) (hL : Looks M s.heap (fillsNumberSlot ta nm) true) (hne : ta ≠ tb) (hR : Looks M s.heap (fillsNumberSlot tb nm) true) (hsub : Looks M s.heap (isSubtype tb ta) false)
    (hp : Looks M s.heap (numberSlotInPython ta nm) false)
    (h : wpAny M A (tryMethod a (dunder nm) b) (fun r s' => r = none ∧ wpAny M A (tryMethod b (dunderR nm) a) (fun r s' => ∃ v, r = some v ∧ Q v s') E s') E s) : wpAny M A (binaryOp op a b) Q E s := by
  unfold binaryOp
  refine wpAny_holding ?_
  obtain ⟨sym, nm', e⟩ : ∃ sym nm', op.info = (sym, nm') := ⟨_, _, rfl⟩
  rw [e] at hop ⊢
  obtain rfl : nm' = nm := hop
  dsimp only
  have fin : wpAny M A (binaryOp1 nm' a b) (fun r s' => ∃ v, r = some v ∧ Q v s') E s := by
    unfold binaryOp1
    refine wpAny_bind (la.here (wpAny_bind (lb.here (wpAny_bind (hL.here ?_)))))
    rw [if_neg (by simpa using hne)]
    refine wpAny_bind (hR.here ?_)
    simp only [Bool.and_true, Bool.true_and, if_true, pure_bind, bind_assoc]
    refine wpAny_bind (hsub.here ?_)
    simp only [Bool.false_eq_true, if_false, pure_bind, bind_assoc, Bool.not_false, Bool.and_true, if_true]
    refine wpAny_bind (hp.here ?_)
    simp only [Bool.false_eq_true, if_false, if_true, pure_bind, bind_assoc]
    refine wpAny_bind (wpAny_mono h (fun r s' hr => ?_) fun _ _ x => x)
    obtain ⟨rfl, hr⟩ := hr
    dsimp only
    refine wpAny_bind (wpAny_mono hr (fun r s' hr => ?_) fun _ _ x => x)
    obtain ⟨v, rfl, q⟩ := hr
    first
      | exact wpAny_bind (wpAny_rule (wpAny_pure ⟨v, rfl, q⟩))
      | exact wpAny_pure ⟨v, rfl, q⟩
  refine wpAny_bind (wpAny_mono fin (fun r s' hr => ?_) fun _ _ x => x)
  obtain ⟨v, rfl, q⟩ := hr
  exact wpAny_pure q
end
/-- the class at C has the operator's method f of its own -/
structure NumC (K : PySem.W.Frag) (C : Addr) (nm : String) (f : Addr) : Prop where
  mro : ∃ cd rest, PySem.W.clsIn K C = some cd ∧ cd.mro = .ref C :: rest
  at_ : PySem.W.findIn K (.ref C) (dunder nm) = some (some (.ref f))
  fn : PySem.W.isFn K (.ref f) = true
  rf : PySem.W.findIn K (.ref C) (dunderR nm) = some none ∨ ∃ g, PySem.W.findIn K (.ref C) (dunderR nm) = some (some (.ref g))
structure NumR (K : PySem.W.Frag) (C : Addr) (nm : String) (f : Addr) : Prop where
  at_ : PySem.W.findIn K (.ref C) (dunderR nm) = some (some (.ref f))
  fn : PySem.W.isFn K (.ref f) = true
section
variable {M : Model} {A : Around} {E : Value → Shared → Prop} {s : Shared} {h : Heap} {K : PySem.W.Frag} {C f : Addr} {nm : String}
theorem fills_own (X : K.In h) (n : NumC K C nm f) : Looks M h (fillsNumberSlot (.ref C) nm) true := by
  obtain ⟨cd, rest, hc, hm⟩ := n.mro
  have L1 : Looks M h (mroOf (.ref C)) (.ref C :: rest) := by
    refine (PySem.W.looks_clsIn X hc).andThen ?_
    rw [hm]
    exact .now
  have L2 := PySem.W.looks_findIn (M := M) X n.at_
  unfold fillsNumberSlot
  refine L1.andThen ?_
  intro A Q E s k q
  simp only [List.anyM]
  refine wpAny_bind (wpAny_bind (wpAny_bind (L2.keeps k |>.here ?_)))
  simp only [ownNameWrapper, Bool.not_false, if_true]
  exact wpAny_pure (wpAny_pure (wpAny_pure q))
theorem slotpy_own (X : K.In h) (n : NumC K C nm f) : Looks M h (numberSlotInPython (.ref C) nm) true := by
  have L1 := PySem.W.looks_findIn (M := M) X n.at_
  unfold numberSlotInPython
  intro A Q E s k q
  refine wpAny_bind (L1.keeps k |>.here (wpAny_bind (wpAny_pure ?_)))
  rcases n.rf with hr | ⟨g, hr⟩
  · refine wpAny_bind ((PySem.W.looks_findIn (M := M) X hr).keeps k |>.here (wpAny_bind (wpAny_pure ?_)))
    exact wpAny_pure q
  · refine wpAny_bind ((PySem.W.looks_findIn (M := M) X hr).keeps k |>.here (wpAny_bind (wpAny_pure ?_)))
    exact wpAny_pure q
theorem try_own {ox : Obj} {od : Option Obj} {x : Addr} {name : Str} {b : Value} {Q : Value → Shared → Prop} (X : K.In s.heap) (I : PySem.W.InstAt s.heap x ox C od) (hs : PySem.W.findIn K (.ref C) name = some (some (.ref f))) (hf : PySem.W.isFn K (.ref f) = true)
    (h : wpAny M A (call (.ref f) [.ref x, b]) (fun v s' => v ≠ .notImplemented ∧ Q v s') E s) : wpAny M A (tryMethod (.ref x) name b) (fun r s' => ∃ v, r = some v ∧ Q v s') E s := by
  unfold tryMethod callSpecial?
  refine wpAny_bind (wpAny_bind (wpAny_bind (I.type.here ((PySem.W.looks_findIn X hs).here ?_))))
  dsimp only
  refine wpAny_holding (wpAny_bind ((PySem.W.bind_fn X _ (beq_iff_eq.mp hf)).here ?_))
  refine wpAny_bind (wpAny_mono h (fun v s' hv => ?_) fun _ _ e => e)
  obtain ⟨hn, q⟩ := hv
  refine wpAny_pure ?_
  cases v <;> first | exact absurd rfl hn | exact wpAny_pure ⟨_, rfl, q⟩
end
section
variable {prog : Program} {w : World} {A : Around} {E : Value → Shared → Prop} {s : Shared} {i : Int} {t : Tok} {b : Addr} {ob : Obj}
/-- an int's own operator on an instance says NotImplemented -/
theorem try_int {nm id : String} {f : Int → Int → Sem Fin} {name : String} (slot : Slot "int" (dunder nm) id) (entry : entryFor table id = some (Builtin.Int.intBinary name f)) (args : ∀ a b, argsOk id ⟨[a, b], []⟩) (hb : s.heap.get? b = some ob) (hd : ob.data = .plain)
    {Q : Option Value → Shared → Prop} (q : Q none s) : wpAny (model prog w) A (tryMethod (.int i t) (dunder nm) (.ref b)) Q E s := by
  unfold tryMethod callSpecial?
  refine wpAny_bind ?_
  have L : specialOf (.int i t) (dunder nm) = pure (some (.builtin id)) := by
    show (pure (Value.type "int") >>= fun t => typeLookup t (dunder nm)) = _
    rw [pure_bind, slot.lookup]
  rw [L]
  refine wpAny_bind (wpAny_pure ?_)
  dsimp only
  refine wpAny_holding (wpAny_bind ?_)
  rw [slot.bind]
  refine wpAny_pure ?_
  refine wpAny_bind (wpAny_call (codeAny_call_builtin slot.plain entry (slot.check _ _ _ _ _ _ _ _ (typeIs_int s i t) (args _ _) ?_)))
  obtain ⟨hp, g, d, tk, os⟩ := s
  obtain ⟨oc, od, odt, osl⟩ := ob
  simp only at hd
  subst hd
  unfold Builtin.Int.intBinary
  wp_walk using wpAny_load hb
  exact q
end

/-- what is known of int beside an own class, for an operator -/
structure IntOp (nm id rid : String) : Prop where
  fills : fillsNumberSlot (.type "int") nm = pure true
  slot : Slot "int" (dunder nm) id
  ent : ∃ name f, entryFor table id = some (Builtin.Int.intBinary name f)
  args : ∀ a b, argsOk id ⟨[a, b], []⟩
  rl : typeLookup (.type "int") (dunderR nm) = pure (some (.builtin rid))
theorem intOp_add : IntOp "add" "int.__add__" "int.__radd__" := ⟨F.fills_int_add, F.slot_int_add, ⟨_, _, F.entry_int_add⟩, fun a b => F.args_int_add_2 a b, by rw [typeLookup_type, builtinLookup_eq_fast]; kernel_rfl⟩
theorem intOp_sub : IntOp "sub" "int.__sub__" "int.__rsub__" := ⟨F.fills_int_sub, F.slot_int_sub, ⟨_, _, F.entry_int_sub⟩, fun a b => F.args_int_sub_2 a b, by rw [typeLookup_type, builtinLookup_eq_fast]; kernel_rfl⟩
theorem intOp_mul : IntOp "mul" "int.__mul__" "int.__rmul__" := ⟨F.fills_int_mul, F.slot_int_mul, ⟨_, _, F.entry_int_mul⟩, fun a b => F.args_int_mul_2 a b, by rw [typeLookup_type, builtinLookup_eq_fast]; kernel_rfl⟩
/-- an operator that the class number c has, on two of it, or one and an int -/
def gNum (c : Nat) (ml mr : Fm) (base : G2) : G2 := fun x y S => match tgOf S x, tgOf S y with
  | some (.o c1), some (.o c2) => if c1 = c ∧ c2 = c then ml [x, y] S else .bad
  | some (.o c1), some (.b n) => if c1 = c ∧ n = "int" then ml [x, y] S else .bad
  | some (.b n), some (.o c2) => if n = "int" ∧ c2 = c then mr [y, x] S else .bad
  | _, _ => base x y S
section
variable {X : Cx} {W : WX} {K : PySem.W.Frag} {mg : Str → Option Value} {F H : Hp} {L : List Addr} {S : Store}
theorem tgOf_obj {d : Val} {c : Nat} (h : tgOf S d = some (.o c)) : ∃ fs, objOf S d = some (c, fs) := by
  cases d with
  | dat p =>
    cases p with
    | obj c' fs => cases h; exact ⟨fs, rfl⟩
    | _ => cases h
  | loc m =>
    cases e2 : S[m]? with
    | none => simp only [tgOf, e2] at h; cases h
    | some ct =>
      simp only [tgOf, e2] at h
      split at h
      · cases h
      · cases h
      · rename_i c' fs hc
        cases hc
        cases h
        exact ⟨fs, by simp only [objOf, e2]⟩
      · cases h
theorem tgOf_int {v : V} {d : Val} (vr : VR K mg F L v d) (h : tgOf S d = some (.b "int")) : ∃ i, v = .int i := by
  cases vr with
  | dat r =>
    cases r with
    | int i => exact ⟨i, rfl⟩
    | non => simp [tgOf] at h
    | bl _ => simp [tgOf] at h
    | str _ => simp [tgOf] at h
    | lst _ _ => simp [tgOf] at h
    | tup _ _ => simp [tgOf] at h
    | dic _ _ => simp [tgOf] at h
    | obj _ _ _ _ => simp [tgOf] at h
    | cls _ => simp [tgOf] at h
    | bty _ => simp [tgOf] at h
  | loc e =>
    rename_i a m
    cases e2 : S[m]? with
    | none => simp only [tgOf, e2] at h; cases h
    | some ct =>
      simp only [tgOf, e2] at h
      split at h <;> simp at h
/-- an instance in the heap -/
theorem inst_at {pins : List (Addr × Obj)} {σ : L2.St} {s : Shared} {v : V} {u : Value} {d : Val} {c : Nat} {C : Addr} (I : Inv X pins σ H s) (wr : WR X.K X.mg F L H S) (vr : VR X.K X.mg F L v d) (rv : RelV v u) (h : tgOf S d = some (.o c)) (hc : X.mg (cn c) = some (.ref C)) :
    ∃ a dx od, u = .ref a ∧ PySem.W.InstAt s.heap a (PySem.W.instObj C dx) C (some od) := by
  obtain ⟨fs, h2⟩ := tgOf_obj h
  obtain ⟨a, C', dx, fvs, rfl, hc', ha, fo, rf⟩ := objOf_ok wr vr h2
  rw [hc] at hc'
  cases hc'
  cases rv
  obtain ⟨mA, O, _⟩ := ins_get I.hok ha
  obtain ⟨od, J, _⟩ := O.look
  exact ⟨a, dx, od, rfl, J⟩
theorem rel_notni {v : V} {u : Value} (r : RelV v u) : u ≠ .notImplemented := by
  intro e
  subst e
  cases v with
  | int i => obtain ⟨t, q⟩ := r; cases q
  | str i => obtain ⟨t, q⟩ := r; cases q
  | byt i => obtain ⟨t, q⟩ := r; cases q
  | flt i => obtain ⟨t, q⟩ := r; cases q
  | non => cases r
  | bl _ => cases r
  | ref _ => cases r
  | ty _ => cases r
theorem om_num {op : Operator} {nm id rid : String} {gd : Bool} {c k : Nat} {C fl fr : Addr} {ml mr : Fm} {base : G2} (hop : op.info.2 = nm) (hc : X.mg (cn c) = some (.ref C)) (nc : NumC X.K C nm fl) (nr : NumR X.K C nm fr) (ci : IntOp nm id rid)
    (s1 : PySem.W.subIn X.K (.type "int") (.ref C) = some false) (s2 : PySem.W.subIn X.K (.ref C) (.type "int") = some false)
    (cl : Cal X.prog X.w X.K X.mg X.base gd k fl [] ml) (cr : Cal X.prog X.w X.K X.mg X.base gd k fr [] mr) (hr : Room k X.A) (hG : GdOk gd X.A) (tk : Takes X W) (hb : OpM X W (binaryOp op) base) : OpM X W (binaryOp op) (gNum c ml mr base) := by
  intro pins s σ H F L S x y v u dx dy Q I wr rx ry vx vy q
  unfold gNum at q
  have KX := I.kIn
  have go : ∀ {f : Addr} {m : Fm} {us : List Value} {vs : List V} {ds : List Val}, Cal X.prog X.w X.K X.mg X.base gd k f [] m → Vals vs us → VRs X.K X.mg F L vs ds → Pv X.K X.mg F L H (m ds S) Q (fun c d H' => W c d σ H') →
      wpAny (model X.prog X.w) X.A (call (.ref f) us) (fun v s' => v ≠ .notImplemented ∧ EP X pins σ Q v s') X.xe s := fun {f m us vs ds} cf r vr q =>
    thn (run_cal0 cf (sub_here hr) hG tk I wr r vr q) fun v s' e => ⟨by obtain ⟨z, H', I', r', _⟩ := e; exact rel_notni r', e⟩
  split at q
  · rename_i c1 c2 h1 h2
    split at q
    · rename_i hcc
      obtain ⟨rfl, rfl⟩ := hcc
      obtain ⟨a, da, oa, rfl, Ja⟩ := inst_at I wr vx rx h1 hc
      obtain ⟨b, db, ob, rfl, Jb⟩ := inst_at I wr vy ry h2 hc
      exact binop_left hop Ja.type Jb.type (fills_own KX nc) (.inl rfl) (try_own KX Ja nc.at_ nc.fn (go cl (.cons rx (.cons ry .nil)) (.cons vx (.cons vy .nil)) q))
    · exact q.elim
  · rename_i c1 n h1 h2
    split at q
    · rename_i hcc
      obtain ⟨rfl, rfl⟩ := hcc
      obtain ⟨a, da, oa, rfl, Ja⟩ := inst_at I wr vx rx h1 hc
      obtain ⟨i, rfl⟩ := tgOf_int vy h2
      have ry2 := ry; obtain ⟨t, rfl⟩ := ry2
      refine binop_left hop Ja.type (tb := .type "int") (.of_pure rfl) (fills_own KX nc) (.inr (.inr ⟨by simp, .of_pure ci.fills, PySem.W.looks_subIn KX s1, slotpy_own KX nc, .of_pure rfl, _, .of_pure ci.rl⟩))
        (try_own KX Ja nc.at_ nc.fn (go cl (.cons rx (.cons ry .nil)) (.cons vx (.cons vy .nil)) q))
    · exact q.elim
  · rename_i n c2 h1 h2
    split at q
    · rename_i hcc
      obtain ⟨rfl, rfl⟩ := hcc
      obtain ⟨b, db, ob, rfl, Jb⟩ := inst_at I wr vy ry h2 hc
      obtain ⟨i, rfl⟩ := tgOf_int vx h1
      have rx2 := rx; obtain ⟨t, rfl⟩ := rx2
      obtain ⟨name, fI, he⟩ := ci.ent
      refine binop_right hop (.of_pure rfl) Jb.type (.of_pure ci.fills) (by simp) (fills_own KX nc) (PySem.W.looks_subIn KX s2) (.of_pure rfl) (try_int ci.slot he ci.args Jb.at_ rfl ⟨rfl, ?_⟩)
      exact try_own KX Jb nr.at_ nr.fn (go cr (.cons ry (.cons rx .nil)) (.cons vy (.cons vx .nil)) q)
    · exact q.elim
  · exact hb pins s σ H F L S x y v u dx dy Q I wr rx ry vx vy q
end
end DL
set_option Elab.async false
set_option linter.all false
set_option maxRecDepth 100000
set_option maxHeartbeats 4000000
namespace DL
open PySem PySem.Spec PyProof.Rows L2
open PySem.W (Looks)
/-! ### calls with keywords -/
def pick {α : Type} (ord : List Nat) (l : List α) : List α := ord.filterMap (l[·]?)
theorem pick_vals {vs : List V} {us : List Value} (r : Vals vs us) : ∀ ord : List Nat, Vals (pick ord vs) (pick ord us)
  | [] => .nil
  | i :: ord => by
    have ih := pick_vals r ord
    unfold pick at ih ⊢
    rw [List.filterMap_cons, List.filterMap_cons]
    cases e : vs[i]? with
    | none => rw [r.none_of e]; exact ih
    | some v =>
      obtain ⟨u, e1, e2⟩ := r.get e
      rw [e1]
      exact .cons e2 ih
theorem pick_vrs {K : PySem.W.Frag} {mg : Str → Option Value} {F : Hp} {L : List Addr} {vs : List V} {ds : List Val} (r : VRs K mg F L vs ds) : ∀ ord : List Nat, VRs K mg F L (pick ord vs) (pick ord ds)
  | [] => .nil
  | i :: ord => by
    have ih := pick_vrs r ord
    unfold pick at ih ⊢
    rw [List.filterMap_cons, List.filterMap_cons]
    cases e : ds[i]? with
    | none =>
      have e' : vs[i]? = none := by
        rw [List.getElem?_eq_none_iff] at e ⊢
        rw [r.length]
        exact e
      rw [e']
      exact ih
    | some d =>
      obtain ⟨u, e1, e2⟩ := r.get e
      rw [e1]
      exact .cons e2 ih
def kwM (n : Nat) (ord : List Nat) (dds : List Val) (m : Fm) : Fm := fun ds S => if ds.length = n then m (pick ord (ds ++ dds)) S else .bad
section
variable {Pg : Program} {w : World} {K : PySem.W.Frag} {mg : Str → Option Value} {base : Heap} {gd : Bool} {k n : Nat} {f : Addr} {fd : FuncData} {ps ks : List Str} {m : Fm} {ord : List Nat}
theorem cal_kw {dvs : List V} {dds : List Val} {dsV : List Value} (F : FnG Pg w K mg base gd k f fd ps m) (hv : Vals dvs dsV) (hd : ∀ F L, VRs K mg F L dvs dds)
    (hb : ∀ (s : Shared) (us ws : List Value), K.In s.heap → us.length = n → ws.length = ks.length → BindsTo s fd ⟨us, ks.zip ws⟩ (ps.zip (pick ord ((us ++ ws) ++ dsV)))) (hn : ∀ ds : List Val, ds.length = n + ks.length → (pick ord (ds ++ dds)).length = ps.length)  : Cal Pg w K mg base gd k f ks (kwM (n + ks.length) ord dds m) := by
  intro A outer s H us ws vs zs Q E hr hG e0 r rz hl h
  obtain ⟨Fr, L, S, ds, wr, vr, q⟩ := h
  unfold kwM at q
  by_cases hle : ds.length = n + ks.length
  · rw [if_pos hle] at q
    have r2 : Vals ((vs ++ zs) ++ dvs) ((us ++ ws) ++ dsV) := (r.append rz).append hv
    have hus : us.length = n := by
      have h1 := vr.length
      have h2 := r.length
      have h3 := rz.length
      rw [List.length_append] at h1
      omega
    have KX : K.In s.heap := e0.mod.kin.keeps fun b o e => (e0.bs b o e).1
    exact F A outer s H ⟨us, ks.zip ws⟩ (pick ord ((us ++ ws) ++ dsV)) (pick ord ((vs ++ zs) ++ dvs)) (pick ord (ds ++ dds)) Fr L S Q E hr hG e0 (hb s us ws KX hus hl) (pick_vals r2 ord) (pick_vrs (vr.append (hd Fr L)) ord) (hn ds hle) wr q
  · rw [if_neg hle] at q
    exact q.elim
end
def CallKM (X : Cx) (W : WX) (f : Value) (ks : List Str) (g : Fms) : Prop :=
  ∀ (pins : List (Addr × Obj)) (s : Shared) (σ : L2.St) (H F : Hp) (L : List Addr) (S : Store) (xs zs : List V) (us ws : List Value) (ds : List Val) (Q : VK), Inv X pins σ H s → WR X.K X.mg F L H S → Vals xs us → Vals zs ws → ws.length = ks.length → VRs X.K X.mg F L (xs ++ zs) ds →
    Pv X.K X.mg F L H (g ds S) Q (fun c d H' => W c d σ H') → wpAny (model X.prog X.w) X.A (call f us (ks.zip ws)) (EP X pins σ Q) X.xe s
theorem CallKM.pos {X : Cx} {W : WX} {f : Value} {g : Fms} (h : CallKM X W f [] g) : CallM X W f g := fun pins s σ H F L S xs us ds Q I wr r vr q => h pins s σ H F L S xs [] us [] ds Q I wr r .nil rfl (by rw [List.append_nil]; exact vr) q
section
variable {X : Cx} {W : WX} {gd : Bool} {k : Nat} {f : Addr} {ks : List Str} {m : Fm}
theorem callkm_fn (C : Cal X.prog X.w X.K X.mg X.base gd k f ks m) (hr : Room k X.A) (hG : GdOk gd X.A) (tk : Takes X W) : CallKM X W (.ref f) ks m := by
  intro pins s σ H F L S xs zs us ws ds Q I wr r rz hl vr q
  refine wpAny_call (codeAny_mono (run_cal C (sub_here hr) hG tk I wr r rz hl vr q) fun r s' hq => ?_)
  cases r with
  | error e => exact hq
  | ok fl =>
    cases fl with
    | ret u => exact hq
    | next => exact False.elim hq
    | brk => exact False.elim hq
    | cont => exact False.elim hq
/-! ### a new object -/
/-- C(..): __init__ on a new place of the store, which is then left to the data -/
def mkM (c : Nat) (init : Fm) : Fms := fun ds S => match init (.loc S.length :: ds) (S ++ [.obj c []]) with
  | .ok (.dat .non) S' => (match S'[S.length]? with | some (.obj c' fs) => .ok (.dat (.obj c' fs)) (S'.take S.length) | _ => .bad)
  | .exc c fs S' => .exc c fs (S'.take S.length)
  | _ => .bad
theorem take_set_dead (S : Store) (n : Nat) (c : Cont) : (S.set n c).take n = S.take n := by
  apply List.ext_getElem?
  intro i
  rw [List.getElem?_take, List.getElem?_take]
  split
  · rw [List.getElem?_set_ne (by omega)]
  · rfl
theorem callkm_mk {c : Nat} {Cl : Addr} (hc : X.mg (cn c) = some (.ref Cl)) (M : Mk X.K Cl f) (C : Cal X.prog X.w X.K X.mg X.base gd k f ks m) (hr : Room (k + 1) X.A) (hG : GdOk gd X.A) (tk : Takes X W) : CallKM X W (.ref Cl) ks (mkM c m) := by
  intro pins s σ H F L S xs zs us ws ds Q I wr r rz hl vr q
  have hx0 : H (s.heap.objs.size + 1) = none := I.hok.fresh (Nat.le_succ _)
  have hd0 : H s.heap.objs.size = none := I.hok.fresh (Nat.le_refl _)
  have ne : s.heap.objs.size + 1 ≠ s.heap.objs.size := Nat.succ_ne_self _
  have I2 := Inv.made (C := Cl) I
  generalize hH2 : (upd (upd H s.heap.objs.size (.own (s.heap.objs.size + 1))) (s.heap.objs.size + 1) (.ins Cl s.heap.objs.size [])) = H2 at I2
  have hx1 : upd H s.heap.objs.size (.own (s.heap.objs.size + 1)) (s.heap.objs.size + 1) = none := by rw [upd_ne ne]; exact hx0
  have wr2 : WR X.K X.mg F (L ++ [s.heap.objs.size + 1]) H2 (S ++ [.obj c []]) := by
    rw [← hH2]
    exact (wr.other hd0).push hx1 (.obj hc .nil .nil)
  have x2 : Xt F L H F (L ++ [s.heap.objs.size + 1]) H2 := by
    rw [← hH2]
    exact (Xt.other hd0).trans (Xt.push (wr.other hd0) hx1)
  have hLx : (L ++ [s.heap.objs.size + 1])[S.length]? = some (s.heap.objs.size + 1) := by
    rw [← wr.len]
    simp
  have r1 : Vals (V.ref (s.heap.objs.size + 1) :: xs) (Value.ref (s.heap.objs.size + 1) :: us) := .cons rfl r
  have sp : spA X.K X.mg m ((V.ref (s.heap.objs.size + 1) :: xs) ++ zs) H2 (fun v H' => v = .non ∧ Q (.ref (s.heap.objs.size + 1)) H') (fun c d H' => W c d σ H') := by
    refine ⟨F, L ++ [s.heap.objs.size + 1], S ++ [.obj c []], .loc S.length :: ds, wr2, .cons (.loc hLx) (vr.mono (Same.refl _) (List.prefix_append _ _)), ?_⟩
    unfold mkM at q
    cases e : m (.loc S.length :: ds) (S ++ [.obj c []]) with
    | bad => rw [e] at q; exact q.elim
    | exc c' fs S' =>
      rw [e] at q
      exact fun C' d F' L' H' e1 x wr' xd => q C' d F' (L'.take S.length) H' e1 ((x2.trans x).take (by rw [wr.len]; exact Nat.le_refl _)) (wr'.take _) xd
    | ok v S' =>
      rw [e] at q
      cases v with
      | loc _ => exact q.elim
      | dat p =>
        cases p with
        | non =>
          intro v F' L' H' x wr' vv
          cases vv with
          | dat rr =>
            cases rr
            refine ⟨rfl, ?_⟩
            simp only at q
            cases e2 : S'[S.length]? with
            | none => simp only [e2] at q; exact q.elim
            | some ct =>
              simp only [e2] at q
              split at q
              · rename_i c' fs hq
                cases hq
                have hL' : L'[S.length]? = some (s.heap.objs.size + 1) := get_prefix x.lp hLx
                obtain ⟨hF, o, ho, cr⟩ := wr'.own _ _ _ hL' e2 (by simp)
                have wf := wr'.freeze hL' hF ho
                have wt := wf.take S.length
                rw [take_set_dead] at wt
                have xt := ((x2.trans x).trans (Xt.freeze (o := o) hL' hF)).take (n := S.length) (by rw [wr.len]; exact Nat.le_refl _)
                refine q _ _ _ _ xt wt (.dat ?_)
                cases cr with
                | obj hc' fo rf => exact .obj hc' upd_same fo (rf.mono (same_upd hF))
              · exact q.elim
        | _ => exact q.elim
  refine wpAny_call (make_map (f := f) I.kIn M.makes M.init (beq_iff_eq.mp M.fn) (codeAny_mono (C _ X.stack _ H2 (Value.ref (s.heap.objs.size + 1) :: us) ws (V.ref (s.heap.objs.size + 1) :: xs) zs _ _ (hr.make Cl us (ks.zip ws)) (hG.make Cl us (ks.zip ws))
    (I2.env0.make Cl us (ks.zip ws)) r1 rz hl sp) fun r s' hq' => ?_))
  cases r with
  | error e =>
    refine tk e s' (XE.of_call (E := fun c d H' => W c d σ H') I2 (fun _ _ _ h => h) hq')
  | ok fl =>
    cases fl with
    | ret u =>
      obtain ⟨v, H', I3, rv, ev, q3⟩ := I2.after hq'
      subst ev
      exact ⟨rv, ⟨V.ref (s.heap.objs.size + 1), H', I3, rfl, q3⟩⟩
    | next => exact False.elim hq'
    | brk => exact False.elim hq'
    | cont => exact False.elim hq'

/-! ### calls by a name of the module: a def, or a class -/
variable {g : Fms} {x : Str} {p pos : Pos} {e : Expr} {es : List Expr} {a ak : Ar} {kws : List Keyword}
def eCallK (g : Fms) (a b : Ar) : Ex := fun ρ S => (a ρ S).bind fun ds S1 => (b ρ S1).bind fun es S2 => g (ds ++ es) S2
abbrev dK (X : Cx) (W : WX) (kws : List Keyword) (m : Ar) : Prop := PK X kws (tArg X.K X.mg W m)
theorem imK {t t' : TA} (h : PK X kws t) (i : ∀ σ H Q, t' σ H Q → t σ H Q) : PK X kws t' := ⟨fun pos pins s σ H Q I q => h.run pos pins s σ H Q I (i σ H Q q)⟩
theorem dk_nil : dK X W [] aNil := imK pk_nil fun σ H Q ⟨F, L, S, ρ, wr, er, q⟩ => q [] F L H .refl wr .nil
theorem dk_cons {e : Expr} {nm : Option Str} {kpos : Pos} {m : Ex} {r : Ar} (ha : dE X W e m) (hr : dK X W kws r) : dK X W (⟨nm, e, kpos⟩ :: kws) (aCons m r) := by
  refine imK (pk_cons ha hr) fun σ H Q ⟨F, L, S, ρ, wr, er, q⟩ => ?_
  refine ev_thenA wr er q fun d S1 v F1 L1 H1 _ x1 wr1 er1 vr1 q1 => ?_
  refine ⟨F1, L1, S1, ρ, wr1, er1, ?_⟩
  cases e2 : r ρ S1 with
  | ok ds S2 =>
    rw [e2] at q1
    exact fun vs F2 L2 H2 x2 wr2 vr2 => q1 _ F2 L2 H2 x2 wr2 (.cons (vr1.mono x2.fr x2.lp) vr2)
  | exc c fs S2 => rw [e2] at q1; exact q1
  | bad => rw [e2] at q1; exact q1
theorem de_callR (hc : CallM X W (.ref f) g) (hg : Gl X x) (hm : X.mg x = some (.ref f)) (hk : PySem.W.keepIn X.K (.ref f) = true) (ha : dA X W (e :: es) a)
    (hdb : (x == ("__debug__" : Str)) = false := by decide) (he : starEach (e :: es) X.env = (false, eval e X.env) :: starEach es X.env := by rfl) (hpl : (backTo pos (starEach es X.env)).any (·.1) = false := by rfl) :
    dE X W (.Call (.Name x p) (e :: es) [] pos) (eCall g a) := by
  refine ⟨fun pins s σ H Q I h => ?_⟩
  obtain ⟨F, L, S, ρ, wr, er, q⟩ := h
  refine wpAny_Call_Name_kw (ld_glob I hg hm ?_ hdb)
  refine PySem.W.callWith_K (h₀ := X.base) I.ok.mod.kin hk (thn (ha.run pos pins s σ H (fun vs H1 => ∃ F1 L1 S1 ds, WR X.K X.mg F1 L1 H1 S1 ∧ VRs X.K X.mg F1 L1 vs ds ∧ Pv X.K X.mg F1 L1 H1 (g ds S1) Q (fun c d H' => W c d σ H')) I
    (ar_then wr er q fun ds S1 vs F1 L1 H1 _ x1 wr1 er1 vr1 q1 => ⟨F1, L1, S1, ds, wr1, vr1, q1⟩)) fun us s1 ⟨vs, H1, I1, r1, F1, L1, S1, ds, wr1, vr1, q1⟩ => ⟨I1.kIn, ?_⟩) he hpl
  exact hc pins s1 σ H1 F1 L1 S1 vs us ds Q I1 wr1 r1 vr1 q1
theorem de_callR0 (hc : CallM X W (.ref f) g) (hg : Gl X x) (hm : X.mg x = some (.ref f)) (hk : PySem.W.keepIn X.K (.ref f) = true) (hdb : (x == ("__debug__" : Str)) = false := by decide) :
    dE X W (.Call (.Name x p) [] [] pos) (eCall g aNil) := by
  refine ⟨fun pins s σ H Q I h => ?_⟩
  obtain ⟨F, L, S, ρ, wr, er, q⟩ := h
  refine wpAny_Call_Name_kw (ld_glob I hg hm ?_ hdb)
  exact PySem.W.callWith_K0 I.kIn hk (hc pins s σ H F L S [] [] [] Q I wr .nil .nil q)
/-- f(k = v, ..) -/
theorem de_callRK0 (hc : CallKM X W (.ref f) ks g) (hg : Gl X x) (hm : X.mg x = some (.ref f)) (hk : PySem.W.keepIn X.K (.ref f) = true) (hkw : dK X W kws ak) (hall : (backToKw pos (keywordEach kws X.env)).all (·.1.isSome) = true := by rfl) (hks : (backToKw pos (keywordEach kws X.env)).filterMap (·.1) = ks := by rfl)
    (hlen : kws.length = ks.length := by rfl) (hdb : (x == ("__debug__" : Str)) = false := by decide) (hpl : ((backTo pos (starEach [] X.env)).any (·.1) || (backToKw pos (keywordEach kws X.env)).any (·.1.isNone)) = false := by rfl) :
    dE X W (.Call (.Name x p) [] kws pos) (eCall (fun ds S => if ds.length = ks.length then g ds S else .bad) ak) := by
  refine ⟨fun pins s σ H Q I h => ?_⟩
  obtain ⟨F, L, S, ρ, wr, er, q⟩ := h
  refine wpAny_Call_Name_kw (ld_glob I hg hm ?_ hdb)
  refine PySem.W.callWith_KW0 (h₀ := X.base) I.ok.mod.kin hk hall (thn (hkw.run pos pins s σ H (fun vs H1 => ∃ F1 L1 S1 ds, WR X.K X.mg F1 L1 H1 S1 ∧ VRs X.K X.mg F1 L1 vs ds ∧ Pv X.K X.mg F1 L1 H1 (if ds.length = ks.length then g ds S1 else .bad) Q (fun c d H' => W c d σ H')) I
    (ar_then wr er q fun ds S1 vs F1 L1 H1 _ x1 wr1 er1 vr1 q1 => ⟨F1, L1, S1, ds, wr1, vr1, q1⟩)) fun ws s1 ⟨vs, H1, I1, r1, F1, L1, S1, ds, wr1, vr1, q1⟩ => ⟨I1.kIn, ?_⟩) hpl
  by_cases hl : ds.length = ks.length
  · rw [if_pos hl] at q1
    rw [hks]
    exact hc pins s1 σ H1 F1 L1 S1 [] vs [] ws ds Q I1 wr1 .nil r1 (by rw [← r1.length, vr1.length]; exact hl) vr1 q1
  · rw [if_neg hl] at q1
    exact q1.elim
end
end DL
set_option Elab.async false
set_option linter.all false
set_option maxRecDepth 100000
set_option maxHeartbeats 4000000
namespace DL
open PySem PySem.Spec PyProof.Rows L2
open PySem.W (Looks)
/-! ### o.m(..) -/
def eMeth (c : Nat) (g : Fms) (o : Ex) (a : Ar) : Ex := fun ρ S => (o ρ S).bind fun v S1 => match objOf S1 v with
  | some (c', _) => if c' = c then (a ρ S1).bind fun ds S2 => g (v :: ds) S2 else .bad
  | none => .bad
section
variable {X : Cx} {W : WX} {gd : Bool} {k c : Nat} {f C : Addr} {ks : List Str} {m : Fm} {mn : Str} {o e : Expr} {es : List Expr} {mo : Ex} {a : Ar} {pos apos : Pos} {pl : Sem Bool} {kws : List Keyword}
/-- the object of a method call has come -/
theorem meth_obj {pins : List (Addr × Obj)} {s : Shared} {σ : L2.St} {H : Hp} {Q : VK} {g : Fms} (ho : dE X W o mo) (I : Inv X pins σ H s) (h : tE X.K X.mg W (eMeth c g mo a) σ H Q) (hc : X.mg (cn c) = some (.ref C)) {R : Value → Shared → Prop}
    (hR : ∀ b dx fs u s1 H1 F1 L1 S1 ρ d, u = Value.ref b → Inv X pins σ H1 s1 → H1 b = some (.ins C dx fs) → FsOk X.K C fs → WR X.K X.mg F1 L1 H1 S1 → ER X.K X.mg F1 L1 σ ρ → VR X.K X.mg F1 L1 (.ref b) d → Pv X.K X.mg F1 L1 H1 ((a ρ S1).bind fun ds S2 => g (d :: ds) S2) Q (fun c d H' => W c d σ H') → R u s1) :
    wpAny (model X.prog X.w) X.A (eval o X.env) R X.xe s := by
  obtain ⟨F, L, S, ρ, wr, er, q⟩ := h
  refine thn (ho.run pins s σ H (fun v H1 => ∃ F1 L1 S1 d, WR X.K X.mg F1 L1 H1 S1 ∧ ER X.K X.mg F1 L1 σ ρ ∧ VR X.K X.mg F1 L1 v d ∧ (∃ fps, objOf S1 d = some (c, fps)) ∧ Pv X.K X.mg F1 L1 H1 ((a ρ S1).bind fun ds S2 => g (d :: ds) S2) Q (fun c d H' => W c d σ H')) I
    (ev_then wr er q fun d S1 v F1 L1 H1 _ x1 wr1 er1 vr1 q1 => ?_)) fun u s1 ⟨v, H1, I1, rv, F1, L1, S1, d, wr1, er1, vr1, ⟨fps, hob⟩, q1⟩ => ?_
  · cases e1 : objOf S1 d with
    | none => simp only [e1] at q1; exact q1.elim
    | some cf =>
      obtain ⟨c', fps⟩ := cf
      simp only [e1] at q1
      by_cases h : c' = c
      · rw [if_pos h] at q1
        subst h
        exact ⟨F1, L1, S1, d, wr1, er1, vr1, ⟨fps, e1⟩, q1⟩
      · rw [if_neg h] at q1
        exact q1.elim
  · obtain ⟨b, C', dx, fvs, rfl, hc', ha, fo, rf⟩ := objOf_ok wr1 vr1 hob
    rw [hc] at hc'
    cases hc'
    cases rv
    exact hR b dx fvs _ s1 H1 F1 L1 S1 ρ d rfl I1 ha fo wr1 er1 vr1 q1
theorem de_meth (hc : X.mg (cn c) = some (.ref C)) (cl : Cls X.K C) (hm : Meth X.K C mn f) (cal : Cal X.prog X.w X.K X.mg X.base gd k f [] m) (hr : Room k X.A) (hG : GdOk gd X.A) (tk : Takes X W) (ho : dE X W o mo) (ha : dA X W (e :: es) a)
    (hst : starEach (e :: es) X.env = (false, eval e X.env) :: starEach es X.env := by rfl) (hpl : (backTo pos (starEach es X.env)).any (·.1) = false := by rfl)
    (ht : eval (.Call (.Attribute o mn apos) (e :: es) [] pos) X.env = (do
      let ov ← eval o X.env
      standAt apos.atName
      let (f, first) ← holding [ov] (getMethod ov mn pl)
      callWith pos f first (backTo pos (starEach (e :: es) X.env)) (backToKw pos (keywordEach [] X.env))) := by rfl) :
    dE X W (.Call (.Attribute o mn apos) (e :: es) [] pos) (eMeth c m mo a) := by
  refine ⟨fun pins s σ H Q I h => ?_⟩
  refine PySem.W.methodCall_KW (pl := pl) (meth_obj ho I h hc fun b dx fs u s1 H1 F1 L1 S1 ρ d eu I1 hb fo wr1 er1 vr1 q1 => ?_) ht
  subst eu
  refine getmeth_ok I1 hb cl hm (fo.no_meth hm.at_) ?_
  refine PySem.W.callWith_K (first := [.ref b]) (h₀ := X.base) I.ok.mod.kin hm.kp (thn (ha.run pos pins s1 σ H1 (fun vs H2 => ∃ F2 L2 S2 ds, WR X.K X.mg F2 L2 H2 S2 ∧ VRs X.K X.mg F2 L2 (.ref b :: vs) (d :: ds) ∧ Pv X.K X.mg F2 L2 H2 (m (d :: ds) S2) Q (fun c d H' => W c d σ H')) I1
    (ar_then wr1 er1 q1 fun ds S2 vs F2 L2 H2 _ x2 wr2 er2 vr2 q2 => ⟨F2, L2, S2, ds, wr2, .cons (vr1.mono x2.fr x2.lp) vr2, q2⟩)) fun us s2 ⟨vs, H2, I2, r2, F2, L2, S2, ds, wr2, vr2, q2⟩ => ⟨I2.kIn, ?_⟩) hst hpl
  exact run_cal0 (us := .ref b :: us) (vs := .ref b :: vs) cal (sub_here hr) hG tk I2 wr2 (.cons rfl r2) vr2 q2
theorem de_meth0 (hc : X.mg (cn c) = some (.ref C)) (cl : Cls X.K C) (hm : Meth X.K C mn f) (cal : Cal X.prog X.w X.K X.mg X.base gd k f [] m) (hr : Room k X.A) (hG : GdOk gd X.A) (tk : Takes X W) (ho : dE X W o mo)
    (ht : eval (.Call (.Attribute o mn apos) [] [] pos) X.env = (do
      let ov ← eval o X.env
      standAt apos.atName
      let (f, first) ← holding [ov] (getMethod ov mn pl)
      callWith pos f first (backTo pos (starEach [] X.env)) (backToKw pos (keywordEach [] X.env))) := by rfl) :
    dE X W (.Call (.Attribute o mn apos) [] [] pos) (eMeth c m mo aNil) := by
  refine ⟨fun pins s σ H Q I h => ?_⟩
  refine PySem.W.methodCall_KW (pl := pl) (meth_obj ho I h hc fun b dx fs u s1 H1 F1 L1 S1 ρ d eu I1 hb fo wr1 er1 vr1 q1 => ?_) ht
  subst eu
  refine getmeth_ok I1 hb cl hm (fo.no_meth hm.at_) ?_
  exact PySem.W.callWith_K0 (first := [.ref b]) I1.kIn hm.kp (run_cal0 (us := [.ref b]) (vs := [.ref b]) cal (sub_here hr) hG tk I1 wr1 (.cons rfl .nil) (.cons vr1 .nil) q1)
/-- o.m(k = v, ..) -/
theorem de_methK0 (hc : X.mg (cn c) = some (.ref C)) (cl : Cls X.K C) (hm : Meth X.K C mn f) (cal : Cal X.prog X.w X.K X.mg X.base gd k f ks m) (hr : Room k X.A) (hG : GdOk gd X.A) (tk : Takes X W) (ho : dE X W o mo) (hkw : dK X W kws a)
    (hall : (backToKw pos (keywordEach kws X.env)).all (·.1.isSome) = true := by rfl) (hks : (backToKw pos (keywordEach kws X.env)).filterMap (·.1) = ks := by rfl) (hpl : ((backTo pos (starEach [] X.env)).any (·.1) || (backToKw pos (keywordEach kws X.env)).any (·.1.isNone)) = false := by rfl)
    (ht : eval (.Call (.Attribute o mn apos) [] kws pos) X.env = (do
      let ov ← eval o X.env
      standAt apos.atName
      let (f, first) ← holding [ov] (getMethod ov mn pl)
      callWith pos f first (backTo pos (starEach [] X.env)) (backToKw pos (keywordEach kws X.env))) := by rfl) :
    dE X W (.Call (.Attribute o mn apos) [] kws pos) (eMeth c (fun ds S => if ds.length = ks.length + 1 then m ds S else .bad) mo a) := by
  refine ⟨fun pins s σ H Q I h => ?_⟩
  refine PySem.W.methodCall_KW (pl := pl) (meth_obj ho I h hc fun b dx fs u s1 H1 F1 L1 S1 ρ d eu I1 hb fo wr1 er1 vr1 q1 => ?_) ht
  subst eu
  refine getmeth_ok I1 hb cl hm (fo.no_meth hm.at_) ?_
  refine PySem.W.callWith_KW0 (first := [.ref b]) (h₀ := X.base) I.ok.mod.kin hm.kp hall (thn (hkw.run pos pins s1 σ H1 (fun vs H2 => ∃ F2 L2 S2 ds, WR X.K X.mg F2 L2 H2 S2 ∧ VRs X.K X.mg F2 L2 (.ref b :: vs) (d :: ds) ∧ Pv X.K X.mg F2 L2 H2 (if (d :: ds).length = ks.length + 1 then m (d :: ds) S2 else .bad) Q (fun c d H' => W c d σ H')) I1
    (ar_then wr1 er1 q1 fun ds S2 vs F2 L2 H2 _ x2 wr2 er2 vr2 q2 => ⟨F2, L2, S2, ds, wr2, .cons (vr1.mono x2.fr x2.lp) vr2, q2⟩)) fun ws s2 ⟨vs, H2, I2, r2, F2, L2, S2, ds, wr2, vr2, q2⟩ => ⟨I2.kIn, ?_⟩) hpl
  by_cases hl : (d :: ds).length = ks.length + 1
  · rw [if_pos hl] at q2
    rw [hks]
    have hl2 := vr2.length
    simp only [List.length_cons] at hl hl2
    exact callkm_fn cal hr hG tk pins s2 σ H2 F2 L2 S2 [.ref b] vs [.ref b] ws _ Q I2 wr2 (.cons rfl .nil) r2 (by rw [← r2.length]; omega) vr2 q2
  · rw [if_neg hl] at q2
    exact q2.elim

/-! ### a property -/
def eProp (c : Nat) (g : Fms) (o : Ex) : Ex := fun ρ S => (o ρ S).bind fun v S1 => match objOf S1 v with
  | some (c', _) => if c' = c then (match g [v] S1 with | .ok d S2 => .ok d S2 | _ => .bad) else .bad
  | none => .bad
theorem de_prop {p : Addr} (hc : X.mg (cn c) = some (.ref C)) (cl : Cls X.K C) (hp : PropOf X.K C mn p f) (cal : Cal X.prog X.w X.K X.mg X.base gd k f [] m) (hr : Room (k + 1) X.A) (hG : GdOk gd X.A) (ho : dE X W o mo)
    (hab : attributeBase o mn X.env (eval o X.env) = eval o X.env := by rfl) : dE X W (.Attribute o mn pos) (eProp c m mo) := by
  refine ⟨fun pins s σ H Q I h => ?_⟩
  obtain ⟨F, L, S, ρ, wr, er, q⟩ := h
  refine attr_of hab (thn (ho.run pins s σ H (fun v H1 => ∃ F1 L1 S1 d d2 S2, WR X.K X.mg F1 L1 H1 S1 ∧ VR X.K X.mg F1 L1 v d ∧ (∃ fps, objOf S1 d = some (c, fps)) ∧ m [d] S1 = .ok d2 S2 ∧ Pv X.K X.mg F1 L1 H1 (.ok d2 S2) Q (fun c d H' => W c d σ H')) I
    (ev_then wr er q fun d S1 v F1 L1 H1 _ x1 wr1 er1 vr1 q1 => ?_)) fun u s1 ⟨v, H1, I1, rv, F1, L1, S1, d, d2, S2, wr1, vr1, ⟨fps, hob⟩, hg, q1⟩ => ?_)
  · cases e1 : objOf S1 d with
    | none => simp only [e1] at q1; exact q1.elim
    | some cf =>
      obtain ⟨c', fps⟩ := cf
      simp only [e1] at q1
      by_cases h : c' = c
      · rw [if_pos h] at q1
        subst h
        cases e2 : m [d] S1 with
        | ok d2 S2 =>
          simp only [e2] at q1
          exact ⟨F1, L1, S1, d, d2, S2, wr1, vr1, ⟨fps, e1⟩, e2, q1⟩
        | exc _ _ _ => simp only [e2] at q1; exact q1.elim
        | bad => simp only [e2] at q1; exact q1.elim
      · rw [if_neg h] at q1
        exact q1.elim
  · obtain ⟨b, C', dx, fvs, rfl, hc', hb, fo, rf⟩ := objOf_ok wr1 vr1 hob
    rw [hc] at hc'
    cases hc'
    cases rv
    obtain ⟨mA, O, _, _, _, _⟩ := ins_get I1.hok hb
    obtain ⟨od, J, _⟩ := O.look
    obtain ⟨rest, hrec⟩ := hp.rec_
    have I2 := I1.tok (s1.toks + 1)
    have hcc : (PySem.W.clsIn X.K C).isSome = true := by
      obtain ⟨cd, hcc, _⟩ := PySem.W.any_some cl.hd
      rw [hcc]
      rfl
    refine PySem.W.get_bind I1.kIn J (PySem.W.plainGet_of (cl.get mn)).1 (PySem.W.findObj_data hcc hp.at_ hp.get hp.tak) (PySem.W.plainGet_of (cl.get mn)).2 (wpAny_call (PySem.W.prop_get (s := { s1 with toks := s1.toks + 1 }) I1.kIn hrec ?_))
    have e0 : Env0 X.prog X.w X.K X.mg X.base X.A.in1 X.stack { s1 with toks := s1.toks + 1 } H1 := I2.env0.in1
    have sp : spA X.K X.mg m ([.ref b] ++ []) H1 Q (fun _ _ _ => False) := ⟨F1, L1, S1, [d], wr1, .cons vr1 .nil, by rw [hg]; exact q1⟩
    refine codeAny_mono (cal X.A.in1 X.stack { s1 with toks := s1.toks + 1 } H1 [.ref b] [] [.ref b] [] Q (fun _ _ _ => False) hr.in1 hG e0 (.cons rfl .nil) .nil rfl sp) fun r s' hq => ?_
    cases r with
    | error er =>
      obtain ⟨_, _, _, _, _, _, _, _, _, _, _, _, z⟩ := hq
      exact z.elim
    | ok fl =>
      cases fl with
      | ret u =>
        obtain ⟨v, H', I3, rv, q3⟩ := I2.after hq
        show wpAny _ _ (handedOut u) _ _ _
        rw [PySem.W.handedOut_of (handed_of rv)]
        exact wpAny_pure ⟨v, H', I3, rv, q3⟩
      | next => exact False.elim hq
      | brk => exact False.elim hq
      | cont => exact False.elim hq
end

/-! ### - x -/
def UnM (X : Cx) (W : WX) (f : Value → Sem Value) (g : Val → Store → Rs Val) : Prop :=
  ∀ (pins : List (Addr × Obj)) (s : Shared) (σ : L2.St) (H F : Hp) (L : List Addr) (S : Store) (x : V) (v : Value) (d : Val) (Q : VK), Inv X pins σ H s → WR X.K X.mg F L H S → RelV x v → VR X.K X.mg F L x d →
    Pv X.K X.mg F L H (g d S) Q (fun c d H' => W c d σ H') → wpAny (model X.prog X.w) X.A (f v) (EP X pins σ Q) X.xe s
def eUn (g : Val → Store → Rs Val) (a : Ex) : Ex := fun ρ S => (a ρ S).bind fun x S1 => g x S1
/-- - x: an int; an object of the class c, by its own __neg__ -/
def gNeg (c : Nat) (m : Fm) : Val → Store → Rs Val := fun x S => match x with
  | .dat (.int i) => .ok (.dat (.int (-i))) S
  | _ => (match objOf S x with | some (c', _) => if c' = c then m [x] S else .bad | none => .bad)
def gNegI : Val → Store → Rs Val := fun x S => match x with
  | .dat (.int i) => .ok (.dat (.int (-i))) S
  | _ => .bad
section
variable {X : Cx} {W : WX} {gd : Bool} {k c : Nat} {f C : Addr} {m : Fm} {a : Expr} {ma : Ex} {pos : Pos}
theorem de_un {op : UnaryOp} {g : Val → Store → Rs Val} (h : UnM X W (unaryOp op) g) (ha : dE X W a ma) : dE X W (.UnaryOp op a pos) (eUn g ma) := by
  refine ⟨fun pins s σ H Q I hh => ?_⟩
  obtain ⟨F, L, S, ρ, wr, er, q⟩ := hh
  refine UnaryOp_ (thn (ha.run pins s σ H (fun x H1 => ∃ F1 L1 S1 d, WR X.K X.mg F1 L1 H1 S1 ∧ VR X.K X.mg F1 L1 x d ∧ Pv X.K X.mg F1 L1 H1 (g d S1) Q (fun c d H' => W c d σ H')) I
    (ev_then wr er q fun d S1 v F1 L1 H1 _ x1 wr1 er1 vr1 q1 => ⟨F1, L1, S1, d, wr1, vr1, q1⟩)) fun v s1 ⟨x, H1, I1, r1, F1, L1, S1, d, wr1, vr1, q1⟩ => ?_)
  exact h pins s1 σ H1 F1 L1 S1 x v d Q I1 wr1 r1 vr1 q1
theorem um_negI : UnM X W (unaryOp .USub) gNegI := by
  intro pins s σ H F L S x v d Q I wr rx vr q
  unfold gNegI at q
  split at q
  · cases vr with
    | dat r =>
      cases r
      exact un_neg pins s σ H _ v Q I rx ⟨_, rfl, q _ F L H .refl wr (.dat (.int _))⟩
  · exact q.elim
theorem um_neg (hc : X.mg (cn c) = some (.ref C)) (hs : PySem.W.findIn X.K (.ref C) "__neg__" = some (some (.ref f))) (hf : PySem.W.isFn X.K (.ref f) = true) (cal : Cal X.prog X.w X.K X.mg X.base gd k f [] m) (hr : Room k X.A) (hG : GdOk gd X.A) (tk : Takes X W) : UnM X W (unaryOp .USub) (gNeg c m) := by
  intro pins s σ H F L S x v d Q I wr rx vr q
  unfold gNeg at q
  split at q
  · cases vr with
    | dat r =>
      cases r
      exact un_neg pins s σ H _ v Q I rx ⟨_, rfl, q _ F L H .refl wr (.dat (.int _))⟩
  · cases e1 : objOf S d with
    | none => simp only [e1] at q; exact q.elim
    | some cf =>
      obtain ⟨c', fps⟩ := cf
      simp only [e1] at q
      by_cases h : c' = c
      · rw [if_pos h] at q
        subst h
        obtain ⟨b, C', dx, fvs, rfl, hc', hb, fo, rf⟩ := objOf_ok wr vr e1
        rw [hc] at hc'
        cases hc'
        cases rx
        obtain ⟨mA, O, _⟩ := ins_get I.hok hb
        obtain ⟨od, J, _⟩ := O.look
        unfold unaryOp
        refine wpAny_holding ?_
        dsimp only
        rw [if_neg (by decide)]
        unfold callSpecial?
        refine wpAny_bind (wpAny_bind (wpAny_bind (J.type.here ((PySem.W.looks_findIn I.kIn hs).here ?_))))
        dsimp only
        refine wpAny_holding (wpAny_bind ((PySem.W.bind_fn I.kIn _ (beq_iff_eq.mp hf)).here ?_))
        refine wpAny_bind (thn (run_cal0 (us := [.ref b]) (vs := [.ref b]) cal (sub_here hr) hG tk I wr (.cons rfl .nil) (.cons vr .nil) q) fun v s' e => wpAny_pure (wpAny_pure e))
      · rw [if_neg h] at q
        exact q.elim

/-! ### x[i] -/
def IxM (X : Cx) (W : WX) (g : G2) : Prop :=
  ∀ (value slice : Expr) (pins : List (Addr × Obj)) (s : Shared) (σ : L2.St) (H F : Hp) (L : List Addr) (S : Store) (x y : V) (v u : Value) (dx dy : Val) (Q : VK), Inv X pins σ H s → WR X.K X.mg F L H S → RelV x v → RelV y u → VR X.K X.mg F L x dx → VR X.K X.mg F L y dy →
    Pv X.K X.mg F L H (g dx dy S) Q (fun c d H' => W c d σ H') → subscripted slice false v u = operate [v, u] (getItem v u) → wpAny (model X.prog X.w) X.A (subscriptTail value slice v u) (EP X pins σ Q) X.xe s
/-- an item of a list, a tuple, a text, by its place -/
def gIx : G2 := fun x y S => match y with
  | .dat (.int i) => (match seqOf S x with
    | some xs => (match atI xs i with | some p => .ok (.dat p) S | none => .bad)
    | none => (match x with
      | .dat (.str z) => if z.length ≤ sizeLine then (match atI z.cps.toList i with | some c => .ok (.dat (.str ⟨#[c]⟩)) S | none => .bad) else .bad
      | _ => .bad))
  | _ => .bad
theorem atI_reps {K : PySem.W.Frag} {mg : Str → Option Value} {F : Hp} {vs : List V} {xs : List P} {i : Int} {p : P} (r : Reps K mg F vs xs) (h : atI xs i = some p) : ∃ v, atI vs i = some v ∧ Rep K mg F v p := by
  unfold atI at h ⊢
  rw [r.length]
  cases e : ixN xs.length i with
  | none => rw [e] at h; cases h
  | some j =>
    rw [e] at h
    obtain ⟨v, h1, h2⟩ := r.get h
    exact ⟨v, h1, h2⟩
theorem im_ix : IxM X W gIx := by
  intro value slice pins s σ H F L S x y v u dx dy Q I wr rx ry vx vy q hs
  unfold gIx at q
  split at q
  · rename_i i
    cases vy with
    | dat ri =>
      cases ri
      cases e : seqOf S dx with
      | some xs =>
        simp only [e] at q
        cases e2 : atI xs i with
        | none => simp only [e2] at q; exact q.elim
        | some p =>
          simp only [e2] at q
          obtain ⟨b, vs, rfl, hq, rs⟩ := seqOf_ok wr vx e
          obtain ⟨z, h1, h2⟩ := atI_reps rs e2
          refine ix_seq value slice pins s σ H _ _ v u Q I rx ry ?_ hs
          rcases hq with hq | hq
          · exact .inl ⟨b, vs, i, z, rfl, rfl, hq, h1, q z F L H .refl wr (.dat h2)⟩
          · exact .inr (.inl ⟨b, vs, i, z, rfl, rfl, hq, h1, q z F L H .refl wr (.dat h2)⟩)
      | none =>
        simp only [e] at q
        split at q
        · rename_i z
          by_cases hl : z.length ≤ sizeLine
          · rw [if_pos hl] at q
            cases e2 : atI z.cps.toList i with
            | none => simp only [e2] at q; exact q.elim
            | some c =>
              simp only [e2] at q
              cases vx with
              | dat r =>
                cases r
                exact ix_seq value slice pins s σ H _ _ v u Q I rx ry (.inr (.inr ⟨z, i, c, rfl, rfl, hl, e2, q _ F L H .refl wr (.dat (.str _))⟩)) hs
          · rw [if_neg hl] at q
            exact q.elim
        · exact q.elim
  · exact q.elim
theorem de_ix {b : Expr} {mb : Ex} {g : G2} (h : IxM X W g) (ha : dE X W a ma) (hb : dE X W b mb) (hs : PlainIx b) : dE X W (.Subscript a b pos) (eOp g ma mb) := by
  refine ⟨fun pins s σ H Q I hh => ?_⟩
  obtain ⟨F, L, S, ρ, wr, er, q⟩ := hh
  refine Subscript_ (thn (ha.run pins s σ H (fun x H1 => ∃ F1 L1 S1 dx, WR X.K X.mg F1 L1 H1 S1 ∧ ER X.K X.mg F1 L1 σ ρ ∧ VR X.K X.mg F1 L1 x dx ∧ Pv X.K X.mg F1 L1 H1 ((mb ρ S1).bind fun y S2 => g dx y S2) Q (fun c d H' => W c d σ H')) I
    (ev_then wr er q fun d S1 v F1 L1 H1 _ x1 wr1 er1 vr1 q1 => ⟨F1, L1, S1, d, wr1, er1, vr1, q1⟩)) fun v s1 ⟨x, H1, I1, r1, F1, L1, S1, dx, wr1, er1, vr1, q1⟩ => ?_)
  refine thn (hb.run pins s1 σ H1 (fun y H2 => ∃ F2 L2 S2 dy, WR X.K X.mg F2 L2 H2 S2 ∧ VR X.K X.mg F2 L2 x dx ∧ VR X.K X.mg F2 L2 y dy ∧ Pv X.K X.mg F2 L2 H2 (g dx dy S2) Q (fun c d H' => W c d σ H')) I1
    (ev_then wr1 er1 q1 fun d S2 v F2 L2 H2 _ x2 wr2 er2 vr2 q2 => ⟨F2, L2, S2, d, wr2, vr1.mono x2.fr x2.lp, vr2, q2⟩)) fun u s2 ⟨y, H2, I2, r2, F2, L2, S2, dy, wr2, vr1', vr2, q2⟩ => ?_
  exact h a b pins s2 σ H2 F2 L2 S2 x y v u dx dy Q I2 wr2 r1 r2 vr1' vr2 q2 (hs _ _)
end
end DL
set_option Elab.async false
set_option linter.all false
set_option maxRecDepth 100000
set_option maxHeartbeats 4000000
namespace DL
open PySem PySem.Spec PyProof.Rows L2
/-! ### targets -/
abbrev Gm := Val → Slots → Store → Out
abbrev Gms := List P → Slots → Store → Out
section
variable (K : PySem.W.Frag) (mg : Str → Option Value)
/-- ws: the slots that may be set -/
def Pg (ws : List Nat) (F : Hp) (L : List Addr) (H : Hp) (σ : L2.St) (r : Out) (Q : L2.St → Hp → Prop) : Prop := match r with
  | .nx ρ S' => ∀ σ' F' L' H', Xt F L H F' L' H' → WR K mg F' L' H' S' → ER K mg F' L' σ' ρ → wipe σ' ws = wipe σ ws → Q σ' H'
  | _ => False
def tG (ws : List Nat) (m : Gm) : TG := fun v σ H Q => ∃ F L S ρ d, WR K mg F L H S ∧ ER K mg F L σ ρ ∧ VR K mg F L v d ∧ Pg K mg ws F L H σ (m d ρ S) Q
def tGs (ws : List Nat) (m : Gms) : TGs := fun vs σ H Q => ∃ F L S ρ ps, WR K mg F L H S ∧ ER K mg F L σ ρ ∧ Reps K mg F vs ps ∧ Pg K mg ws F L H σ (m ps ρ S) Q
end
abbrev dG (X : Cx) (ws : List Nat) (t : Expr) (m : Gm) : Prop := PG X t (tG X.K X.mg ws m)
abbrev dGs (X : Cx) (ws : List Nat) (ts : List Expr) (m : Gms) : Prop := PGs X ts (tGs X.K X.mg ws m)
def gNm (i : Nat) : Gm := fun d ρ S => .nx (ρ.set i (some d)) S
def gTp (n : Nat) (ms : Gms) : Gm := fun d ρ S => match d with | .dat (.tup ps) => if ps.length = n then ms ps ρ S else .bad | _ => .bad
def gsNil : Gms := fun ps ρ S => match ps with | [] => .nx ρ S | _ => .bad
def gsCons (m : Gm) (r : Gms) : Gms := fun ps ρ S => match ps with | p :: ps => (match m (.dat p) ρ S with | .nx ρ1 S1 => r ps ρ1 S1 | _ => .bad) | [] => .bad
/-- o[i] = .., o a list of the store -/
def gSb (o i : Ex) : Gm := fun d ρ S => match o ρ S with
  | .ok (.loc n) S1 => (match i ρ S1 with
    | .ok (.dat (.int k)) S2 => (match S2[n]?, d with
      | some (.lst xs), .dat p => (match ixN xs.length k with | some j => .nx ρ (S2.set n (.lst (xs.set j p))) | none => .bad)
      | _, _ => .bad)
    | _ => .bad)
  | _ => .bad
theorem wipe_get {σ : L2.St} {j : Nat} : ∀ vs : List Nat, (wipe σ vs)[j]? = if j ∈ vs then (if j < σ.length then some none else none) else σ[j]?
  | [] => by simp [wipe]
  | v :: vs => by
    show ((wipe σ vs).set v none)[j]? = _
    by_cases e : v = j
    · subst e
      rw [if_pos List.mem_cons_self]
      by_cases hv : v < σ.length
      · rw [if_pos hv, List.getElem?_set_self (by rw [wipe_length]; exact hv)]
      · rw [if_neg hv, List.getElem?_eq_none (by simpa [wipe_length] using hv)]
    · rw [List.getElem?_set_ne e, wipe_get vs]
      by_cases h : j ∈ vs
      · rw [if_pos h, if_pos (List.mem_cons_of_mem _ h)]
      · rw [if_neg h, if_neg (by simp [h, Ne.symm e])]
theorem wipe_set {σ : L2.St} {i : Nat} {x : Option V} {vs : List Nat} (hi : i ∈ vs) : wipe (σ.set i x) vs = wipe σ vs := by
  refine List.ext_getElem? fun j => ?_
  rw [wipe_get, wipe_get]
  by_cases h : j ∈ vs
  · rw [if_pos h, if_pos h, List.length_set]
  · have e : i ≠ j := fun e => h (by rw [← e]; exact hi)
    rw [if_neg h, if_neg h, List.getElem?_set_ne e]
section
variable {X : Cx} {W : WX} {ws : List Nat} {pos : Pos}
theorem imG {t : Expr} {g g' : TG} (h : PG X t g) (i : ∀ v σ H Q, g' v σ H Q → g v σ H Q) : PG X t g' := ⟨fun pins s σ H v u Q I r q => h.run pins s σ H v u Q I r (i v σ H Q q)⟩
theorem imGs {t : List Expr} {g g' : TGs} (h : PGs X t g) (i : ∀ v σ H Q, g' v σ H Q → g v σ H Q) : PGs X t g' := ⟨fun pins s σ H v u Q I r q => h.run pins s σ H v u Q I r (i v σ H Q q)⟩
theorem dg_name {i : Nat} {x : Str} (hw : i ∈ ws) (hN : X.N.Nodup) (hi : X.N[i]? = some x) (hx : Loc X.env.scope x) (hf : X.fn x = true ∨ X.env.scope.names.lookup x = some .local := by first | exact .inl rfl | exact .inr rfl | assumption) : dG X ws (.Name x pos) (gNm i) := by
  refine imG (pg_name hN hi hx hf) fun v σ H Q ⟨F, L, S, ρ, d, wr, er, vr, q⟩ => ?_
  exact q _ F L H .refl wr (er.set vr) (wipe_set hw)
theorem dgs_nil : dGs X ws [] gsNil := by
  refine imGs pgs_nil fun v σ H Q ⟨F, L, S, ρ, ps, wr, er, rs, q⟩ => ?_
  cases rs with
  | nil => exact ⟨rfl, q _ F L H .refl wr er rfl⟩
  | cons _ _ => exact q.elim
theorem dgs_cons {e : Expr} {es : List Expr} {m : Gm} {r : Gms} (h1 : dG X ws e m) (h2 : dGs X ws es r) (hs : (assignEach (e :: es) X.env).map (·.2) = assign e X.env :: (assignEach es X.env).map (·.2) := by rfl) : dGs X ws (e :: es) (gsCons m r) := by
  refine imGs (pgs_cons h1 h2 hs) fun v σ H Q ⟨F, L, S, ρ, ps, wr, er, rs, q⟩ => ?_
  cases rs with
  | nil => exact q.elim
  | @cons v p vs ps r1 rs =>
    refine ⟨_, _, rfl, F, L, S, ρ, .dat p, wr, er, .dat r1, ?_⟩
    unfold gsCons at q
    simp only at q
    cases e1 : m (.dat p) ρ S with
    | nx ρ1 S1 =>
      simp only [e1] at q
      intro σ1 F1 L1 H1 x1 wr1 er1 ew
      refine ⟨F1, L1, S1, ρ1, ps, wr1, er1, rs.mono x1.fr, ?_⟩
      cases e2 : r ps ρ1 S1 with
      | nx ρ2 S2 =>
        rw [e2] at q
        exact fun σ2 F2 L2 H2 x2 wr2 er2 ew2 => q σ2 F2 L2 H2 (x1.trans x2) wr2 er2 (ew2.trans ew)
      | rt _ _ => rw [e2] at q; exact q
      | bk _ _ => rw [e2] at q; exact q
      | ct _ _ => rw [e2] at q; exact q
      | exc _ _ _ _ => rw [e2] at q; exact q
      | bad => rw [e2] at q; exact q
    | rt _ _ => simp only [e1] at q; exact q.elim
    | bk _ _ => simp only [e1] at q; exact q.elim
    | ct _ _ => simp only [e1] at q; exact q.elim
    | exc _ _ _ _ => simp only [e1] at q; exact q.elim
    | bad => simp only [e1] at q; exact q.elim
theorem dg_tup {es : List Expr} {k : Nat} {m : Gms} {n : Nat} (hc : X.calm = true) (h : dGs X ws es m) (hn : (assignEach es X.env).length = n := by rfl) (hst : (assignEach es X.env).findIdx? (·.1) = none := by rfl) : dG X ws (.Tuple es k pos) (gTp n m) := by
  refine imG (pg_tup hc h hn hst) fun v σ H Q ⟨F, L, S, ρ, d, wr, er, vr, q⟩ => ?_
  unfold gTp at q
  split at q
  · rename_i ps
    by_cases hl : ps.length = n
    · rw [if_pos hl] at q
      cases vr with
      | dat r =>
        cases r with
        | tup hq rs => exact ⟨_, _, rfl, wr.sub.sqt hq, by rw [rs.length]; exact hl, F, L, S, ρ, ps, wr, er, rs, q⟩
    · rw [if_neg hl] at q
      exact q.elim
  · exact q.elim
theorem dg_sub {o i : Expr} {mo mi : Ex} (ho : dE X W o mo) (hi : dE X W i mi)
    (ha : ∀ v, assign (.Subscript o i pos) X.env v = (do
      let ov ← holding [v] (eval o X.env)
      let iv ← holding [v, ov] (eval i X.env)
      standAt pos
      holding [v, ov, iv] (setItem ov iv v)
      release [v, ov, iv] []) := by intro _; rfl) : dG X ws (.Subscript o i pos) (gSb mo mi) := by
  refine imG (pg_sub ho hi set_list ha) fun v σ H Q ⟨F, L, S, ρ, d, wr, er, vr, q⟩ => ?_
  unfold gSb at q
  refine ⟨F, L, S, ρ, wr, er, ?_⟩
  cases e1 : mo ρ S with
  | bad => simp only [e1] at q; exact q.elim
  | exc _ _ _ => simp only [e1] at q; exact q.elim
  | ok dv S1 =>
    cases dv with
    | dat _ => simp only [e1] at q; exact q.elim
    | loc n =>
      simp only [e1] at q
      intro ov F1 L1 H1 x1 wr1 vo
      refine ⟨F1, L1, S1, ρ, wr1, er.mono x1.fr x1.lp, ?_⟩
      cases e2 : mi ρ S1 with
      | bad => simp only [e2] at q; exact q.elim
      | exc _ _ _ => simp only [e2] at q; exact q.elim
      | ok iv S2 =>
        simp only [e2] at q
        intro vi F2 L2 H2 x2 wr2 vri
        split at q
        · rename_i k S2' hq
          cases hq
          cases vri with
          | dat ri =>
            cases ri
            split at q
            · rename_i xs p hS
              cases vo with
              | loc en =>
                rename_i a
                have en2 := get_prefix x2.lp en
                obtain ⟨hF, ob, hob, cr⟩ := wr2.own n a _ en2 hS (by simp)
                cases cr with
                | @lst vs xs rs =>
                  cases e3 : ixN xs.length k with
                  | none => simp only [e3] at q; exact q.elim
                  | some j =>
                    simp only [e3] at q
                    cases vr with
                    | dat rp =>
                      refine ⟨a, vs, k, j, rfl, rfl, hob, by rw [rs.length]; exact e3, ?_⟩
                      exact q σ F2 L2 _ ((x1.trans x2).trans (.write en2 hF)) (wr2.write en2 hF (.lst (Reps.set (rp.mono (x1.trans x2).fr) j rs))) ((er.mono x1.fr x1.lp).mono x2.fr x2.lp) rfl
            · exact q.elim
        · exact q.elim
/-! ### assignments -/
def sAsg (m : Ex) (g : Gm) : Sm := fun ρ S => (m ρ S).out ρ fun v S1 => match g v ρ S1 with | .nx ρ2 S2 => .nx ρ2 S2 | _ => .bad
theorem ds_asg {tg e : Expr} {m : Ex} {g : Gm} (he : dE X W e m) (hg : dG X ws tg g) (hs : swapsWithSole [tg] e pos.line X.env = pure false := by rfl) (hw : swappedStores [tg] e X.env = pure none := by rfl)
    (h1 : (assignEach [tg] X.env).map (·.2) = [assign tg X.env] := by rfl) : dS X W (.Assign [tg] e pos) (sAsg m g) := by
  refine imS (ps_asg he hg hs hw h1) fun D σ H ⟨F, L, S, ρ, wr, er, q⟩ => ?_
  refine ev_out wr er q fun d S1 v F1 L1 H1 _ x1 wr1 er1 vr1 q1 => ?_
  refine ⟨F1, L1, S1, ρ, d, wr1, er1, vr1, ?_⟩
  cases e2 : g d ρ S1 with
  | nx ρ2 S2 => simp only [e2] at q1; exact fun σ' F' L' H' x wr' er' _ => q1 σ' F' L' H' x wr' er'
  | bad => simp only [e2] at q1; exact q1
  | rt v S2 => simp only [e2] at q1; exact q1.elim
  | bk _ _ => simp only [e2] at q1; exact q1.elim
  | ct _ _ => simp only [e2] at q1; exact q1.elim
  | exc _ _ _ _ => simp only [e2] at q1; exact q1.elim
end
end DL
set_option Elab.async false
set_option linter.all false
set_option maxRecDepth 100000
set_option maxHeartbeats 4000000
namespace DL
open PySem PySem.Spec PyProof.Rows L2
/-! ### what is walked -/
abbrev Im := Slots → Store → Rs (List P)
/-- the iterator J yields xs, one by one, from the world F0, L0, H0 on -/
structure ItOk (K : PySem.W.Frag) (mg : Str → Option Value) (J : It) (F0 : Hp) (L0 : List Addr) (H0 : Hp) (xs : List P) : Prop where
  go : ∀ (i : Nat) (x : P) (F : Hp) (L : List Addr) (H : Hp) (S : Store), xs[i]? = some x → Xt F0 L0 H0 F L H → WR K mg F L H S → J.go i H ∧ ∀ v H', J.yld i H v H' → ∃ F', Xt F L H F' L H' ∧ WR K mg F' L H' S ∧ Rep K mg F' v x
  stop : ∀ (i : Nat) (F : Hp) (L : List Addr) (H : Hp) (S : Store), xs.length ≤ i → Xt F0 L0 H0 F L H → WR K mg F L H S → J.stop i H
section
variable (K : PySem.W.Frag) (mg : Str → Option Value)
def Pi (F : Hp) (L : List Addr) (H : Hp) (r : Rs (List P)) (Rr : It → Hp → Prop) (E : XK) : Prop := match r with
  | .ok xs S' => ∀ J F' L' H', Xt F L H F' L' H' → WR K mg F' L' H' S' → ItOk K mg J F' L' H' xs → Rr J H'
  | .exc c fs S' => XQ K mg F L H c fs S' E
  | .bad => False
def tI (W : WX) (m : Im) : TI := fun σ H Rr => ∃ F L S ρ, WR K mg F L H S ∧ ER K mg F L σ ρ ∧ Pi K mg F L H (m ρ S) Rr fun c d H' => W c d σ H'
end
abbrev dI (X : Cx) (W : WX) (tg iter : Expr) (m : Im) : Prop := PI X tg iter (tI X.K X.mg W m)
section
variable {X : Cx} {W : WX} {tg : Expr}
theorem imI {iter : Expr} {t t' : TI} (h : PI X tg iter t) (i : ∀ σ H Q, t' σ H Q → t σ H Q) : PI X tg iter t' := ⟨fun pins s σ H R I q => h.run pins s σ H R I (i σ H R q)⟩
theorem Pi.from {K : PySem.W.Frag} {mg : Str → Option Value} {F F' H H' : Hp} {L L' : List Addr} {E : XK} {r : Rs (List P)} {Q : It → Hp → Prop} (x : Xt F L H F' L' H') (h : Pi K mg F L H r Q E) : Pi K mg F' L' H' r Q E := by
  cases r with
  | ok d S' => exact fun v F2 L2 H2 x2 => h v F2 L2 H2 (x.trans x2)
  | exc c fs S' => exact XQ.from x h
  | bad => exact h
theorem ev_thenI {K : PySem.W.Frag} {mg : Str → Option Value} {F H : Hp} {L : List Addr} {S : Store} {σ : L2.St} {ρ : Slots} {m : Ex} {k : Val → Store → Rs (List P)} {Rr : It → Hp → Prop} {Q' : VK} (wr : WR K mg F L H S) (er : ER K mg F L σ ρ) (h : Pi K mg F L H ((m ρ S).bind k) Rr fun c d H' => W c d σ H')
    (hk : ∀ d S1 v F1 L1 H1, m ρ S = .ok d S1 → Xt F L H F1 L1 H1 → WR K mg F1 L1 H1 S1 → ER K mg F1 L1 σ ρ → VR K mg F1 L1 v d → Pi K mg F1 L1 H1 (k d S1) Rr (fun c d H' => W c d σ H') → Q' v H1) : tE K mg W m σ H Q' := by
  refine ⟨F, L, S, ρ, wr, er, ?_⟩
  cases e : m ρ S with
  | ok d S1 =>
    rw [e] at h
    exact fun v F1 L1 H1 x wr1 vr => hk d S1 v F1 L1 H1 e x wr1 (er.mono x.fr x.lp) vr (Pi.from x h)
  | exc c fs S1 =>
    rw [e] at h
    exact h
  | bad =>
    rw [e] at h
    exact h
/-- a list, a tuple of the data -/
def iSeq (m : Ex) : Im := fun ρ S => (m ρ S).bind fun v S1 => match v with
  | .dat (.lst xs) => .ok xs S1
  | _ => .bad
def iTpl (m : Ex) : Im := fun ρ S => (m ρ S).bind fun v S1 => match v with
  | .dat (.tup xs) => .ok xs S1
  | _ => .bad
theorem it_list {K : PySem.W.Frag} {mg : Str → Option Value} {F H : Hp} {L : List Addr} {a : Addr} {vs : List V} {xs : List P} (hq : SqL K F a vs) (rs : Reps K mg F vs xs) : ItOk K mg (Itl K a) F L H xs := by
  refine ⟨fun i x F1 L1 H1 S1 e x1 wr1 => ?_, fun i F1 L1 H1 S1 e x1 wr1 => ⟨vs, wr1.sub.seq (x1.fr.seq hq), by rw [rs.length]; exact e⟩⟩
  obtain ⟨v, hv, rv⟩ := rs.get e
  refine ⟨⟨vs, v, wr1.sub.seq (x1.fr.seq hq), hv⟩, fun u H' y => ?_⟩
  obtain ⟨rfl, y⟩ := y
  have hu := y vs (wr1.sub.seq (x1.fr.seq hq))
  rw [hv] at hu
  cases hu
  exact ⟨F1, .refl, wr1, rv.mono x1.fr⟩
theorem it_tup {K : PySem.W.Frag} {mg : Str → Option Value} {F H : Hp} {L : List Addr} {a : Addr} {vs : List V} {xs : List P} (hq : SqT K F a vs) (rs : Reps K mg F vs xs) : ItOk K mg (Itt K a) F L H xs := by
  refine ⟨fun i x F1 L1 H1 S1 e x1 wr1 => ?_, fun i F1 L1 H1 S1 e x1 wr1 => ⟨vs, wr1.sub.sqt (same_sqt x1.fr hq), by rw [rs.length]; exact e⟩⟩
  obtain ⟨v, hv, rv⟩ := rs.get e
  refine ⟨⟨vs, v, wr1.sub.sqt (same_sqt x1.fr hq), hv⟩, fun u H' y => ?_⟩
  obtain ⟨rfl, y⟩ := y
  have hu := y vs (wr1.sub.sqt (same_sqt x1.fr hq))
  rw [hv] at hu
  cases hu
  exact ⟨F1, .refl, wr1, rv.mono x1.fr⟩
theorem di_list {l : Expr} {m : Ex} (h : dE X W l m) : dI X W tg l (iSeq m) := by
  refine imI (pi_list h) fun σ H Q ⟨F, L, S, ρ, wr, er, q⟩ => ?_
  refine ev_thenI wr er q fun d S1 v F1 L1 H1 _ x1 wr1 er1 vr1 q1 => ?_
  split at q1
  · cases vr1 with
    | dat r =>
      cases r with
      | lst hq rs => exact ⟨_, rfl, ⟨_, wr1.sub.seq hq⟩, q1 _ F1 L1 H1 .refl wr1 (it_list hq rs)⟩
  · exact q1.elim
theorem di_tup {l : Expr} {m : Ex} (h : dE X W l m) : dI X W tg l (iTpl m) := by
  refine imI (pi_tup h) fun σ H Q ⟨F, L, S, ρ, wr, er, q⟩ => ?_
  refine ev_thenI wr er q fun d S1 v F1 L1 H1 _ x1 wr1 er1 vr1 q1 => ?_
  split at q1
  · cases vr1 with
    | dat r =>
      cases r with
      | tup hq rs => exact ⟨_, rfl, ⟨_, wr1.sub.sqt hq⟩, q1 _ F1 L1 H1 .refl wr1 (it_tup hq rs)⟩
  · exact q1.elim
/-- range(n), range(a, b) -/
def rngP (lo : Int) (n : Nat) : List P := (List.range n).map fun i => .int (lo + (i : Nat))
def iRg (a : Ar) : Im := fun ρ S => (a ρ S).bind fun ds S1 => match ds with
  | [.dat (.int j)] => if -(2 ^ 62) ≤ j ∧ j < 2 ^ 62 then .ok (rngP 0 j.toNat) S1 else .bad
  | _ => .bad
theorem it_rng {K : PySem.W.Frag} {mg : Str → Option Value} {F H : Hp} {L : List Addr} {lo : Int} {n : Nat} : ItOk K mg (Itr lo n) F L H (rngP lo n) := by
  refine ⟨fun i x F1 L1 H1 S1 e x1 wr1 => ?_, fun i F1 L1 H1 S1 e x1 wr1 => ?_⟩
  · unfold rngP at e
    rw [List.getElem?_map] at e
    cases q : (List.range n)[i]? with
    | none => rw [q] at e; cases e
    | some j =>
      rw [q] at e
      simp at e
      obtain ⟨hi, hj⟩ := List.getElem?_eq_some_iff.mp q
      simp at hi hj
      subst hj
      subst e
      refine ⟨hi, fun u H' y => ?_⟩
      obtain ⟨rfl, rfl⟩ := y
      exact ⟨F1, .refl, wr1, .int _⟩
  · unfold rngP at e
    simp at e
    exact e
theorem ar_thenI {K : PySem.W.Frag} {mg : Str → Option Value} {F H : Hp} {L : List Addr} {S : Store} {σ : L2.St} {ρ : Slots} {m : Ar} {k : List Val → Store → Rs (List P)} {Rr : It → Hp → Prop} {Q' : List V → Hp → Prop} (wr : WR K mg F L H S) (er : ER K mg F L σ ρ) (h : Pi K mg F L H ((m ρ S).bind k) Rr fun c d H' => W c d σ H')
    (hk : ∀ d S1 v F1 L1 H1, m ρ S = .ok d S1 → Xt F L H F1 L1 H1 → WR K mg F1 L1 H1 S1 → ER K mg F1 L1 σ ρ → VRs K mg F1 L1 v d → Pi K mg F1 L1 H1 (k d S1) Rr (fun c d H' => W c d σ H') → Q' v H1) : tArg K mg W m σ H Q' := by
  refine ⟨F, L, S, ρ, wr, er, ?_⟩
  cases e : m ρ S with
  | ok d S1 =>
    rw [e] at h
    exact fun v F1 L1 H1 x wr1 vr => hk d S1 v F1 L1 H1 e x wr1 (er.mono x.fr x.lp) vr (Pi.from x h)
  | exc c fs S1 =>
    rw [e] at h
    exact h
  | bad =>
    rw [e] at h
    exact h
theorem di_range1 {a : Expr} {m : Ar} {p pos : Pos} (hg : Gl X "range") (hm : X.mg "range" = none) (ha : dA X W [a] m) (hs : starEach [a] X.env = [(false, eval a X.env)] := by rfl) : dI X W tg (.Call (.Name "range" p) [a] [] pos) (iRg m) := by
  refine imI (pi_range1 hg hm ha hs) fun σ H Q ⟨F, L, S, ρ, wr, er, q⟩ => ?_
  refine ar_thenI wr er q fun ds S1 vs F1 L1 H1 _ x1 wr1 er1 vr1 q1 => ?_
  split at q1
  · rename_i j _
    split at q1
    · rename_i hj
      cases vr1 with
      | cons v1 vr =>
        cases vr
        cases v1 with
        | dat r =>
          cases r
          exact ⟨j, rfl, hj.1, hj.2, q1 _ F1 L1 H1 .refl wr1 it_rng⟩
    · exact q1.elim
  · exact q1.elim

/-! ### for -/
def forL (g : Gm) (mb : Sm) : List P → Slots → Store → Out
  | [], ρ, S => .nx ρ S
  | x :: r, ρ, S => match g (.dat x) ρ S with
    | .nx ρ1 S1 => (match mb ρ1 S1 with
      | .nx ρ2 S2 => forL g mb r ρ2 S2
      | .ct ρ2 S2 => forL g mb r ρ2 S2
      | .bk ρ2 S2 => .nx ρ2 S2
      | .rt v S2 => .rt v S2
      | .exc c fs ρ2 S2 => .exc c fs ρ2 S2
      | .bad => .bad)
    | _ => .bad
def sFor (m : Im) (g : Gm) (mb : Sm) : Sm := fun ρ S => (m ρ S).out ρ fun xs S1 => forL g mb xs ρ S1
theorem ds_for {iter : Expr} {body : List Stmt} {m : Im} {g : Gm} {mb : Sm} {ws : List Nat} {pos : Pos} (hp : PassesOwn (model X.prog X.w) X.A X.env X.xe) (hc : X.calm = true) (hi : dI X W tg iter m) (hg : dG X ws tg g) (hb : dSs X W body mb)
    (hs : ∀ x, foldedSetIterable iter X.env x = pure x := by intro _; rfl) : dS X W (.For tg iter body [] pos) (sFor m g mb) := by
  refine imS (ps_for hp hc hi hg hb hs) fun D σ H ⟨F, L, S, ρ, wr, er, q⟩ => ?_
  refine ⟨F, L, S, ρ, wr, er, ?_⟩
  unfold sFor at q
  cases e : m ρ S with
  | bad => rw [e] at q; exact q
  | exc c fs S1 =>
    rw [e] at q
    exact fun C d F2 L2 H2 e2 x2 w2 hd => q σ C d F2 L2 H2 e2 x2 w2 hd (er.mono x2.fr x2.lp)
  | ok xs S1 =>
    rw [e] at q
    intro J F1 L1 H1 x1 wr1 it
    have q1 : Po X.K X.mg F1 L1 H1 (forL g mb xs ρ S1) D W := Po.from x1 q
    refine ⟨fun i m' σ' H' => m' = xs.length - i ∧ i ≤ xs.length ∧ ∃ F2 L2 S2 ρ2, Xt F1 L1 H1 F2 L2 H' ∧ WR X.K X.mg F2 L2 H' S2 ∧ ER X.K X.mg F2 L2 σ' ρ2 ∧ Po X.K X.mg F2 L2 H' (forL g mb (xs.drop i) ρ2 S2) D W,
      ⟨xs.length, by simp, Nat.zero_le _, F1, L1, S1, ρ, .refl, wr1, er.mono x1.fr x1.lp, q1⟩, ?_⟩
    rintro i m' σ2 H2 ⟨rfl, hi', F2, L2, S2, ρ2, x2, wr2, er2, q2⟩
    by_cases hlt : i < xs.length
    · right
      have hx : xs[i]? = some xs[i] := List.getElem?_eq_getElem hlt
      have hdrop : xs.drop i = xs[i] :: xs.drop (i + 1) := List.drop_eq_getElem_cons hlt
      rw [hdrop] at q2
      unfold forL at q2
      obtain ⟨hgo, hy⟩ := it.go i xs[i] F2 L2 H2 S2 hx x2 wr2
      refine ⟨hgo, fun σ' H' => ∃ F3 L3 S3 ρ3, Xt F1 L1 H1 F3 L3 H' ∧ WR X.K X.mg F3 L3 H' S3 ∧ ER X.K X.mg F3 L3 σ' ρ3 ∧ Po X.K X.mg F3 L3 H' (forL g mb (xs.drop (i + 1)) ρ3 S3) D W,
        fun σ' H' h => ⟨xs.length - (i + 1), by omega, rfl, hlt, h⟩, fun v H' y => ?_⟩
      obtain ⟨F3, x3, wr3, rv⟩ := hy v H' y
      refine ⟨F3, L2, S2, ρ2, .dat xs[i], wr3, er2.mono x3.fr x3.lp, .dat rv, ?_⟩
      cases e2 : g (.dat xs[i]) ρ2 S2 with
      | nx ρ4 S4 =>
        simp only [e2] at q2
        intro σ4 F4 L4 H4 x4 wr4 er4 _
        refine ⟨F4, L4, S4, ρ4, wr4, er4, ?_⟩
        have q4 := Po.from (x3.trans x4) q2
        cases e3 : mb ρ4 S4 with
        | nx ρ5 S5 =>
          simp only [e3] at q4
          exact fun σ5 F5 L5 H5 x5 wr5 er5 => ⟨F5, L5, S5, ρ5, ((x2.trans x3).trans x4).trans x5, wr5, er5, Po.from x5 q4⟩
        | ct ρ5 S5 =>
          simp only [e3] at q4
          exact fun σ5 F5 L5 H5 x5 wr5 er5 => ⟨F5, L5, S5, ρ5, ((x2.trans x3).trans x4).trans x5, wr5, er5, Po.from x5 q4⟩
        | bk ρ5 S5 => simp only [e3] at q4; exact q4
        | rt v5 S5 => simp only [e3] at q4; exact q4
        | exc c fs ρ5 S5 => simp only [e3] at q4; exact q4
        | bad => simp only [e3] at q4; exact q4
      | rt _ _ => simp only [e2] at q2; exact q2.elim
      | bk _ _ => simp only [e2] at q2; exact q2.elim
      | ct _ _ => simp only [e2] at q2; exact q2.elim
      | exc _ _ _ _ => simp only [e2] at q2; exact q2.elim
      | bad => simp only [e2] at q2; exact q2.elim
    · left
      have hi2 : i = xs.length := by omega
      subst hi2
      refine ⟨it.stop _ F2 L2 H2 S2 (Nat.le_refl _) x2 wr2, ?_⟩
      rw [List.drop_length] at q2
      exact q2 σ2 F2 L2 H2 .refl wr2 er2

/-! ### while -/
def whL (t : Ts) (mb : Sm) : Nat → Slots → Store → Out
  | 0, _, _ => .bad
  | n + 1, ρ, S => (t ρ S).out ρ fun c S1 => if c = true then (match mb ρ S1 with
      | .nx ρ2 S2 => whL t mb n ρ2 S2
      | .ct ρ2 S2 => whL t mb n ρ2 S2
      | .bk ρ2 S2 => .nx ρ2 S2
      | .rt v S2 => .rt v S2
      | .exc c fs ρ2 S2 => .exc c fs ρ2 S2
      | .bad => .bad) else .nx ρ S1
def sWhile (fuel : Slots → Store → Nat) (t : Ts) (mb : Sm) : Sm := fun ρ S => whL t mb (fuel ρ S) ρ S
theorem ds_while {c : Expr} {body : List Stmt} {t : Ts} {mb : Sm} {fuel : Slots → Store → Nat} {pos : Pos} (hp : PassesOwn (model X.prog X.w) X.A X.env X.xe) (hc : dT X W c t) (hb : dSs X W body mb) : dS X W (.While c body [] pos) (sWhile fuel t mb) := by
  refine imS (ps_while hp hc hb) fun D σ H ⟨F, L, S, ρ, wr, er, q⟩ => ?_
  refine ⟨fun m σ' H' => ∃ F2 L2 S2 ρ2, WR X.K X.mg F2 L2 H' S2 ∧ ER X.K X.mg F2 L2 σ' ρ2 ∧ Po X.K X.mg F2 L2 H' (whL t mb m ρ2 S2) D W, ⟨fuel ρ S, F, L, S, ρ, wr, er, q⟩, ?_⟩
  rintro m σ2 H2 ⟨F2, L2, S2, ρ2, wr2, er2, q2⟩
  cases m with
  | zero => exact q2.elim
  | succ n =>
    unfold whL at q2
    refine ts_out wr2 er2 q2 fun b S3 F3 L3 H3 _ x3 wr3 er3 q3 => ?_
    cases b with
    | false => exact q3 σ2 F3 L3 H3 .refl wr3 er3
    | true =>
      rw [if_pos rfl] at q3 ⊢
      refine ⟨fun σ' H' => ∃ F4 L4 S4 ρ4, WR X.K X.mg F4 L4 H' S4 ∧ ER X.K X.mg F4 L4 σ' ρ4 ∧ Po X.K X.mg F4 L4 H' (whL t mb n ρ4 S4) D W, fun σ' H' h => ⟨n, Nat.lt_succ_self _, h⟩, F3, L3, S3, ρ2, wr3, er3, ?_⟩
      cases e3 : mb ρ2 S3 with
      | nx ρ5 S5 =>
        simp only [e3] at q3
        exact fun σ5 F5 L5 H5 x5 wr5 er5 => ⟨F5, L5, S5, ρ5, wr5, er5, Po.from x5 q3⟩
      | ct ρ5 S5 =>
        simp only [e3] at q3
        exact fun σ5 F5 L5 H5 x5 wr5 er5 => ⟨F5, L5, S5, ρ5, wr5, er5, Po.from x5 q3⟩
      | bk ρ5 S5 => simp only [e3] at q3; exact q3
      | rt v5 S5 => simp only [e3] at q3; exact q3
      | exc c fs ρ5 S5 => simp only [e3] at q3; exact q3
      | bad => simp only [e3] at q3; exact q3
end
end DL
set_option Elab.async false
set_option linter.all false
set_option maxRecDepth 100000
set_option maxHeartbeats 4000000
namespace DL
open PySem PySem.Spec PyProof.Rows L2
/-! ### [e for x in xs if t] -/
abbrev Wno : WX := fun _ _ _ _ => False
def lcL (g : Gm) (tt : Ts) (me : Ex) (ρ : Slots) : List P → Store → Rs (List P)
  | [], S => .ok [] S
  | x :: r, S => match g (.dat x) ρ S with
    | .nx ρ1 S1 => (match tt ρ1 S1 with
      | .ok true S2 => (match me ρ1 S2 with
        | .ok (.dat p) S3 => (lcL g tt me ρ r S3).bind fun ps S4 => .ok (p :: ps) S4
        | _ => .bad)
      | .ok false S2 => lcL g tt me ρ r S2
      | _ => .bad)
    | _ => .bad
def wipeP (ρ : Slots) : List Nat → Slots
  | [] => ρ
  | v :: vs => (wipeP ρ vs).set v none
def eLc (m : Im) (own : List Nat) (g : Gm) (tt : Ts) (me : Ex) : Ex := fun ρ S => (m ρ S).bind fun xs S1 => if xs.length ≤ sizeLine then (lcL g tt me (wipeP ρ own) xs S1).bind fun ps S2 => .ok (.dat (.lst ps)) S2 else .bad
def tYesM : Ts := fun _ S => .ok true S
section
variable {K : PySem.W.Frag} {mg : Str → Option Value} {F F' H H' : Hp} {L L' : List Addr} {S : Store} {p : Addr} {o : HO}
theorem WR.beside (wr : WR K mg F L H S) (hF : F p = none) (hL : p ∉ L) : WR K mg F L (upd H p o) S :=
  ⟨sub_upd wr.sub hF, al_upd wr.al, wr.len, wr.nd, fun n a c e1 e2 e3 => by
    obtain ⟨h1, u, h2, h3⟩ := wr.own n a c e1 e2 e3
    have q : a ≠ p := fun q => hL (by rw [← q]; exact List.mem_of_getElem? e1)
    exact ⟨h1, u, by rw [upd_ne q]; exact h2, h3⟩⟩
theorem Xt.beside (x : Xt F L H F' L' H') (h0 : H p = none) : Xt F L H F' L' (upd H' p o) :=
  ⟨x.fr, x.lp, fun a u e n => by
    have q : a ≠ p := ne_of_none e h0
    rw [upd_ne q]
    exact x.kp a u e n, x.nw⟩
theorem ER.wipe {σ : L2.St} {ρ : Slots} (er : ER K mg F L σ ρ) : ∀ vs : List Nat, ER K mg F L (L2.wipe σ vs) (wipeP ρ vs)
  | [] => er
  | _ :: vs => (ER.wipe er vs).unset
theorem wipe_wipe {σ : L2.St} (vs : List Nat) : L2.wipe (L2.wipe σ vs) vs = L2.wipe σ vs := by
  refine List.ext_getElem? fun j => ?_
  rw [wipe_get, wipe_length, wipe_get]
  by_cases h : j ∈ vs
  · rw [if_pos h]
    simp [h]
  · rw [if_neg h, if_neg h]
theorem lc_turn {W : WX} {m : Im} {own : List Nat} {g : Gm} {tt : Ts} {me : Ex} {σ : L2.St} {Q : VK} (h : tE K mg W (eLc m own g tt me) σ H Q) : tLc (tI K mg W m) (tG K mg own g) (tTs K mg Wno tt) (tE K mg Wno me) own σ H Q := by
  obtain ⟨F, L, S, ρ, wr, er, q⟩ := h
  refine ⟨F, L, S, ρ, wr, er, ?_⟩
  unfold eLc at q
  cases e : m ρ S with
  | bad => rw [e] at q; exact q
  | exc c fs S1 => rw [e] at q; exact q
  | ok xs S1 =>
    rw [e] at q
    intro J F1 L1 H1 x1 wr1 it D hD
    have q1 := Pv.from x1 q
    simp only [Rs.bind] at q1
    by_cases hsz : xs.length ≤ sizeLine
    · rw [if_pos hsz] at q1
      refine ⟨fun i m' H' => m' = xs.length - i ∧ i ≤ xs.length ∧ ∃ F2 L2 S2 accV accP, Xt F1 L1 H1 F2 L2 H' ∧ WR K mg F2 L2 H' S2 ∧ H' D = some (.lst accV) ∧ F2 D = none ∧ D ∉ L2 ∧ Reps K mg F2 accV accP ∧ accP.length ≤ i ∧
          Pv K mg F1 L1 H1 ((lcL g tt me (wipeP ρ own) (xs.drop i) S2).bind fun ps S3 => .ok (.dat (.lst (accP ++ ps))) S3) Q (fun c d H' => W c d σ H'),
        ⟨xs.length, by simp, Nat.zero_le _, F1, L1, S1, [], [], (Xt.refl).beside hD, wr1.beside (wr1.fnone hD) (wr1.notin hD), upd_same, wr1.fnone hD, wr1.notin hD, .nil, Nat.zero_le _, ?_⟩, ?_⟩
      · simp only [List.drop_zero, List.nil_append]
        exact q1
      · rintro i m' H2 ⟨rfl, hi', F2, L2, S2, accV, accP, x2, wr2, hDl, hDF, hDL, ra, hal, q2⟩
        by_cases hlt : i < xs.length
        · right
          have hx : xs[i]? = some xs[i] := List.getElem?_eq_getElem hlt
          have hdrop : xs.drop i = xs[i] :: xs.drop (i + 1) := List.drop_eq_getElem_cons hlt
          rw [hdrop] at q2
          unfold lcL at q2
          have x2' : Xt F1 L1 H1 F2 L2 H2 := x2
          obtain ⟨hgo, hy⟩ := it.go i xs[i] F2 L2 H2 S2 hx x2' wr2
          refine ⟨hgo, fun H' => i + 1 ≤ xs.length ∧ ∃ F3 L3 S3 accV accP, Xt F1 L1 H1 F3 L3 H' ∧ WR K mg F3 L3 H' S3 ∧ H' D = some (.lst accV) ∧ F3 D = none ∧ D ∉ L3 ∧ Reps K mg F3 accV accP ∧ accP.length ≤ i + 1 ∧
              Pv K mg F1 L1 H1 ((lcL g tt me (wipeP ρ own) (xs.drop (i + 1)) S3).bind fun ps S3 => .ok (.dat (.lst (accP ++ ps))) S3) Q (fun c d H' => W c d σ H'),
            fun H' h => ⟨xs.length - (i + 1), by omega, rfl, h⟩, fun v H' y => ?_⟩
          obtain ⟨F3, x3, wr3, rv⟩ := hy v H' y
          have er3 : ER K mg F3 L2 (wipe σ own) (wipeP ρ own) := ER.wipe ((er.mono x1.fr x1.lp).mono (x2.trans x3).fr (x2.trans x3).lp) own
          refine ⟨F3, L2, S2, wipeP ρ own, .dat xs[i], wr3, er3, .dat rv, ?_⟩
          cases e2 : g (.dat xs[i]) (wipeP ρ own) S2 with
          | nx ρ4 S4 =>
            simp only [e2] at q2
            intro σ4 F4 L4 H4 x4 wr4 er4 ew
            refine ⟨ew.trans (wipe_wipe own), F4, L4, S4, ρ4, wr4, er4, ?_⟩
            have k4 := (x3.trans x4).keep hDl hDL hDF
            cases e3 : tt ρ4 S4 with
            | bad => simp only [e3] at q2; exact q2.elim
            | exc _ _ _ => simp only [e3] at q2; exact q2.elim
            | ok b S5 =>
              cases b with
              | false =>
                simp only [e3] at q2
                intro F5 L5 H5 x5 wr5
                have k5 := x5.keep k4.1 k4.2.1 k4.2.2
                exact ⟨by omega, F5, L5, S5, accV, accP, ((x2.trans x3).trans x4).trans x5, wr5, k5.1, k5.2.2, k5.2.1, ra.mono ((x3.trans x4).trans x5).fr, Nat.le_succ_of_le hal, q2⟩
              | true =>
                simp only [e3] at q2
                intro F5 L5 H5 x5 wr5
                have k5 := x5.keep k4.1 k4.2.1 k4.2.2
                refine ⟨F5, L5, S5, ρ4, wr5, er4.mono x5.fr x5.lp, ?_⟩
                cases e4 : me ρ4 S5 with
                | bad => simp only [e4] at q2; exact q2.elim
                | exc _ _ _ => simp only [e4] at q2; exact q2.elim
                | ok d S6 =>
                  cases d with
                  | loc _ => simp only [e4] at q2; exact q2.elim
                  | dat p =>
                    simp only [e4] at q2
                    intro y F6 L6 H6 x6 wr6 vr6
                    have k6 := x6.keep k5.1 k5.2.1 k5.2.2
                    cases vr6 with
                    | dat r6 =>
                      refine ⟨accV, k6.1, by rw [ra.length]; omega, by omega, F6, L6, S6, accV ++ [y], accP ++ [p], ((((x2.trans x3).trans x4).trans x5).trans x6).beside hD, wr6.beside k6.2.2 k6.2.1, upd_same, k6.2.2, k6.2.1, (ra.mono (((x3.trans x4).trans x5).trans x6).fr).append (.cons r6 .nil), by simp; omega, ?_⟩
                      cases e5 : lcL g tt me (wipeP ρ own) (xs.drop (i + 1)) S6 with
                      | ok ps S7 =>
                        rw [e5] at q2
                        simp only [Rs.bind, List.append_assoc, List.cons_append, List.nil_append] at q2 ⊢
                        exact q2
                      | exc _ _ _ => rw [e5] at q2; exact q2
                      | bad => rw [e5] at q2; exact q2
          | rt _ _ => simp only [e2] at q2; exact q2.elim
          | bk _ _ => simp only [e2] at q2; exact q2.elim
          | ct _ _ => simp only [e2] at q2; exact q2.elim
          | exc _ _ _ _ => simp only [e2] at q2; exact q2.elim
          | bad => simp only [e2] at q2; exact q2.elim
        · left
          have hi2 : i = xs.length := by omega
          subst hi2
          refine ⟨it.stop _ F2 L2 H2 S2 (Nat.le_refl _) x2 wr2, ?_⟩
          rw [List.drop_length] at q2
          simp only [lcL, Rs.bind, List.append_nil] at q2
          exact q2 _ _ _ _ (x2.adopt hDF hD) (wr2.adopt hDF hDl hDL) (.dat (.lst (SqL.of upd_same) (ra.mono (same_upd hDF))))
    · rw [if_neg hsz] at q1
      exact q1.elim
end
section
variable {X : Cx} {W : WX}
theorem dts_nil : PTs X [] (tTs X.K X.mg Wno tYesM) := by
  refine ⟨fun pins s σ H Q I h => ?_⟩
  obtain ⟨F, L, S, ρ, wr, er, q⟩ := h
  exact pts_nil.run pins s σ H Q I (q F L H .refl wr)
theorem dts_one {c : Expr} {t : Ts} (h : dT X Wno c t) : PTs X [c] (tTs X.K X.mg Wno t) := pts_one h
theorem de_lc {elt tg iter : Expr} {ifs : List Expr} {scope : Scope} {own : List (Str × Nat)} {pos : Pos} {m : Im} {g : Gm} {tt : Ts} {me : Ex} (hc : X.calm = true) (hN : X.N.Nodup) (hi : dI X W tg iter m) (ok : BlkOk X.N X.env.scope scope own)
    (hg : ∀ (s : Shared) (H : Hp) (C : Addr) (cl : List (Str × Addr)) (fp : List Addr), dG (X.blk s H scope (compEnvC scope cl C X.env) fp) (own.map (·.2)) tg g) (ht : ∀ (s : Shared) (H : Hp) (C : Addr) (cl : List (Str × Addr)) (fp : List Addr), PTs (X.blk s H scope (compEnvC scope cl C X.env) fp) ifs (tTs X.K X.mg Wno tt))
    (he : ∀ (s : Shared) (H : Hp) (C : Addr) (cl : List (Str × Addr)) (fp : List Addr), dE (X.blk s H scope (compEnvC scope cl C X.env) fp) Wno elt me) (hs : ∀ x, foldedSetIterable iter X.env x = pure x := by intro _; rfl) :
    dE X W (.ListComp elt [⟨tg, iter, ifs, 0⟩] scope pos) (eLc m (own.map (·.2)) g tt me) :=
  imE (pe_lc (g := tG X.K X.mg (own.map (·.2)) g) (te := tE X.K X.mg Wno me) hc hN hi ok hg ht he hs) fun σ H Q h => lc_turn h
theorem ds_setLc {i : Nat} {y : Str} {py : Pos} {elt tg iter : Expr} {ifs : List Expr} {scope : Scope} {own : List (Str × Nat)} {pos spos : Pos} {m : Im} {g : Gm} {tt : Ts} {me : Ex} (hc : X.calm = true) (hN : X.N.Nodup) (hy : X.N[i]? = some y) (hyl : X.env.scope.names.lookup y = some .local)
    (hsw : swapsWith (.ListComp elt [⟨tg, iter, ifs, 0⟩] scope pos) (some (.Name y py)) spos.line X.env = pure true) (hi : dI X W tg iter m) (ok : BlkOk X.N X.env.scope scope own)
    (hg : ∀ (s : Shared) (H : Hp) (C : Addr) (cl : List (Str × Addr)) (fp : List Addr), dG (X.blk s H scope (compEnvC scope cl C X.env) fp) (own.map (·.2)) tg g) (ht : ∀ (s : Shared) (H : Hp) (C : Addr) (cl : List (Str × Addr)) (fp : List Addr), PTs (X.blk s H scope (compEnvC scope cl C X.env) fp) ifs (tTs X.K X.mg Wno tt))
    (he : ∀ (s : Shared) (H : Hp) (C : Addr) (cl : List (Str × Addr)) (fp : List Addr), dE (X.blk s H scope (compEnvC scope cl C X.env) fp) Wno elt me) (hs : ∀ x, foldedSetIterable iter X.env x = pure x := by intro _; rfl) :
    dS X W (.Assign [.Name y py] (.ListComp elt [⟨tg, iter, ifs, 0⟩] scope pos) spos) (sSet i (eLc m (own.map (·.2)) g tt me)) := by
  refine imS (ps_setLc (g := tG X.K X.mg (own.map (·.2)) g) (te := tE X.K X.mg Wno me) hc hN hy hyl hsw hi ok hg ht he hs) fun D σ H ⟨F, L, S, ρ, wr, er, q⟩ => ?_
  exact lc_turn (ev_out wr er q fun d S1 v F1 L1 H1 _ x1 wr1 er1 vr1 q1 => q1 _ F1 L1 H1 .refl wr1 (er1.set vr1))
end
end DL
set_option Elab.async false
set_option linter.all false
set_option maxRecDepth 100000
set_option maxHeartbeats 4000000
namespace DL
open PySem PySem.Spec PyProof.Rows L2
/-! ### built-ins on data -/
def fm1 (g : P → Option P) : Fms := fun ds S => match ds with
  | [.dat p] => (match g p with | some z => .ok (.dat z) S | none => .bad)
  | _ => .bad
def fm2 (g : P → P → Option P) : Fms := fun ds S => match ds with
  | [.dat p, .dat q] => (match g p q with | some z => .ok (.dat z) S | none => .bad)
  | _ => .bad
section
variable {X : Cx} {W : WX}
theorem cm1 {f : Value} {r : List V → Hp → VK → Prop} {g : P → Option P} (h : CallR X f r)
    (hr : ∀ F H L S p z v Q, WR X.K X.mg F L H S → g p = some z → Rep X.K X.mg F v p → (∀ w F' H', Xt F L H F' L H' → WR X.K X.mg F' L H' S → Rep X.K X.mg F' w z → Q w H') → r [v] H Q) : CallM X W f (fm1 g) := by
  refine callm_of h (fun F H L S ds d S' vs Q wr e vr q => ?_) (fun ds S c fs S' e => ?_)
  · unfold fm1 at e
    split at e
    · rename_i p
      cases vr with
      | cons vx vr =>
        cases vr
        cases vx with
        | dat rx =>
          cases e2 : g p with
          | none => simp only [e2] at e; cases e
          | some z =>
            simp only [e2] at e
            cases e
            exact hr F H L S p z _ Q wr e2 rx fun w F' H' x' wr' rw' => q w F' L H' x' wr' (.dat rw')
    · cases e
  · unfold fm1 at e
    split at e
    · split at e <;> cases e
    · cases e
theorem cm2 {f : Value} {r : List V → Hp → VK → Prop} {g : P → P → Option P} (h : CallR X f r)
    (hr : ∀ F H L S p q z v u Q, WR X.K X.mg F L H S → g p q = some z → Rep X.K X.mg F v p → Rep X.K X.mg F u q → (∀ w F' H', Xt F L H F' L H' → WR X.K X.mg F' L H' S → Rep X.K X.mg F' w z → Q w H') → r [v, u] H Q) : CallM X W f (fm2 g) := by
  refine callm_of h (fun F H L S ds d S' vs Q wr e vr q => ?_) (fun ds S c fs S' e => ?_)
  · unfold fm2 at e
    split at e
    · rename_i p q'
      cases vr with
      | cons vx vr =>
        cases vr with
        | cons vy vr =>
          cases vr
          cases vx with
          | dat rx =>
            cases vy with
            | dat ry =>
              cases e2 : g p q' with
              | none => simp only [e2] at e; cases e
              | some z =>
                simp only [e2] at e
                cases e
                exact hr F H L S p q' z _ _ Q wr e2 rx ry fun w F' H' x' wr' rw' => q w F' L H' x' wr' (.dat rw')
    · cases e
  · unfold fm2 at e
    split at e
    · split at e <;> cases e
    · cases e
def pAbs : P → Option P
  | .int i => some (.int (if i < 0 then -i else i))
  | _ => none
def pMax : P → P → Option P
  | .int i, .int j => some (.int (if j > i then j else i))
  | _, _ => none
def pMin : P → P → Option P
  | .int i, .int j => some (.int (if j < i then j else i))
  | _, _ => none
def pInt : P → Option P
  | .int i => some (.int i)
  | .bl k => some (.int (if k then 1 else 0))
  | _ => none
def pDivmod : P → P → Option P
  | .int i, .int j => if 0 < j ∧ Builtin.divisionGoesByPylong i j = false then some (.tup [.int (i / j), .int (i % j)]) else none
  | _, _ => none
theorem cm_abs : CallM X W (.builtin "abs") (fm1 pAbs) := cm1 call_abs fun F H L S p z v Q wr e rx q => by
  unfold pAbs at e
  split at e
  · cases e
    rw [rep_int rx]
    exact ⟨_, rfl, q _ F H .refl wr (.int _)⟩
  · cases e
theorem cm_max (hc : X.calm = true) : CallM X W (.builtin "max") (fm2 pMax) := cm2 (call_max2 hc) fun F H L S p q' z v u Q wr e rx ry q => by
  unfold pMax at e
  split at e
  · cases e
    rw [rep_int rx, rep_int ry]
    exact ⟨_, _, rfl, q _ F H .refl wr (.int _)⟩
  · cases e
theorem cm_min (hc : X.calm = true) : CallM X W (.builtin "min") (fm2 pMin) := cm2 (call_min2 hc) fun F H L S p q' z v u Q wr e rx ry q => by
  unfold pMin at e
  split at e
  · cases e
    rw [rep_int rx, rep_int ry]
    exact ⟨_, _, rfl, q _ F H .refl wr (.int _)⟩
  · cases e
theorem cm_int : CallM X W (.type "int") (fm1 pInt) := cm1 call_int1 fun F H L S p z v Q wr e rx q => by
  unfold pInt at e
  split at e
  · cases e
    rw [rep_int rx]
    exact .inl ⟨_, rfl, q _ F H .refl wr (.int _)⟩
  · cases e
    rw [rep_bl rx]
    exact .inr ⟨_, rfl, q _ F H .refl wr (.int _)⟩
  · cases e
theorem cm_divmod : CallM X W (.builtin "divmod") (fm2 pDivmod) := cm2 call_divmodW fun F H L S p q' z v u Q wr e rx ry q => by
  unfold pDivmod at e
  split at e
  · split at e
    · rename_i h
      cases e
      rw [rep_int rx, rep_int ry]
      exact ⟨_, _, rfl, ⟨h.1, h.2⟩, fun p hp => q _ _ _ (.alloc wr hp) (wr.alloc hp) (.tup (SqT.of upd_same) (.cons (.int _) (.cons (.int _) .nil)))⟩
    · cases e
  · cases e
/-! ### len -/
def lenM : Fms := fun ds S => match ds with
  | [x] => (match seqOf S x with
    | some xs => .ok (.dat (.int xs.length)) S
    | none => (match x with
      | .dat (.str z) => if z.length ≤ sizeLine then .ok (.dat (.int z.length)) S else .bad
      | _ => .bad))
  | _ => .bad
theorem cm_len : CallM X W (.builtin "len") lenM := by
  refine callm_of call_len (fun F H L S ds d S' vs Q wr e vr q => ?_) (fun ds S c fs S' e => ?_)
  · unfold lenM at e
    split at e
    · rename_i x
      cases vr with
      | cons vx vr =>
        cases vr
        cases e2 : seqOf S x with
        | some xs =>
          simp only [e2] at e
          cases e
          obtain ⟨a, vs, rfl, hq, rs⟩ := seqOf_ok wr vx e2
          refine ⟨_, xs.length, rfl, ?_, q _ F L H .refl wr (.dat (.int _))⟩
          rcases hq with hq | hq
          · exact .inl ⟨_, hq, rs.length.symm⟩
          · exact .inr ⟨_, hq, rs.length.symm⟩
        | none =>
          simp only [e2] at e
          split at e
          · split at e
            · rename_i hl
              cases e
              cases vx with
              | dat r =>
                cases r
                exact ⟨_, _, rfl, ⟨hl, rfl⟩, q _ F L H .refl wr (.dat (.int _))⟩
            · cases e
          · cases e
    · cases e
  · unfold lenM at e
    split at e
    · split at e
      · cases e
      · split at e
        · split at e <;> cases e
        · cases e
    · cases e
/-! ### all, any -/
def blsOf : List P → Option (List Bool)
  | [] => some []
  | .bl b :: r => (blsOf r).map fun bs => b :: bs
  | _ :: _ => none
theorem blsOf_ok {K : PySem.W.Frag} {mg : Str → Option Value} {F : Hp} : ∀ {vs : List V} {ps : List P} {bs : List Bool}, Reps K mg F vs ps → blsOf ps = some bs → vs = bs.map V.bl
  | _, _, _, .nil, e => by cases e; rfl
  | _, _, _, @Reps.cons _ _ _ v p vs ps r t, e => by
    cases p with
    | bl b =>
      rw [blsOf] at e
      obtain ⟨cs, e1, e2⟩ := Option.map_eq_some_iff.mp e
      cases e2
      rw [rep_bl r, blsOf_ok t e1]
      rfl
    | _ => cases e
def allM (f : List Bool → Bool) : Fms := fun ds S => match ds with
  | [x] => (match lstOf S x with
    | some xs => (match blsOf xs with | some bs => .ok (.dat (.bl (f bs))) S | none => .bad)
    | none => .bad)
  | _ => .bad
theorem cm_allB {id : String} {f : List Bool → Bool} (h : CallR X (.builtin id) (fun vs H Q => ∃ (a : Addr) (bs : List Bool), vs = [V.ref a] ∧ SqL X.K H a (bs.map V.bl) ∧ Q (.bl (f bs)) H)) : CallM X W (.builtin id) (allM f) := by
  refine callm_of h (fun F H L S ds d S' vs Q wr e vr q => ?_) (fun ds S c fs S' e => ?_)
  · unfold allM at e
    split at e
    · rename_i x
      cases vr with
      | cons vx vr =>
        cases vr
        cases e2 : lstOf S x with
        | none => simp only [e2] at e; cases e
        | some xs =>
          simp only [e2] at e
          cases e3 : blsOf xs with
          | none => simp only [e3] at e; cases e
          | some bs =>
            simp only [e3] at e
            cases e
            obtain ⟨a, vs, rfl, hq, rs⟩ := lstOf_ok wr vx e2
            have := blsOf_ok rs e3
            subst this
            exact ⟨a, bs, rfl, hq, q _ F L H .refl wr (.dat (.bl _))⟩
    · cases e
  · unfold allM at e
    split at e
    · split at e
      · split at e <;> cases e
      · cases e
    · cases e
theorem cm_all (hc : X.calm = true) : CallM X W (.builtin "all") (allM fun bs => bs.all id) := cm_allB (cr_all hc)
theorem cm_any (hc : X.calm = true) : CallM X W (.builtin "any") (allM fun bs => bs.any id) := cm_allB (cr_any hc)

/-! ### lists of the store -/
theorem de_lstM {es : List Expr} {a : Ar} {pos : Pos} (h : dA X W es a) : dE X W (.List es pos) (eLstM a) := by
  refine imE (pe_lst h) fun σ H Q ⟨F, L, S, ρ, wr, er, q⟩ => ?_
  refine ar_then wr er q fun ds S1 vs F1 L1 H1 _ x1 wr1 er1 vr1 q1 => ?_
  cases e : dats ds with
  | none => simp only [e] at q1; exact q1.elim
  | some ps =>
    simp only [e] at q1
    have rs := dats_ok vr1 e
    by_cases hl : ps.length ≤ sizeLine
    · rw [if_pos hl] at q1
      refine ⟨by rw [rs.length]; exact hl, fun p hp => q1 _ F1 (L1 ++ [p]) _ (.push wr1 hp) (wr1.push hp (.lst rs)) (.loc ?_)⟩
      rw [← wr1.len]
      simp
    · rw [if_neg hl] at q1
      exact q1.elim
def lstAt (S : Store) : Val → Option (Nat × List P)
  | .loc n => (match S[n]? with | some (.lst xs) => some (n, xs) | _ => none)
  | _ => none
theorem lstAt_ok {K : PySem.W.Frag} {mg : Str → Option Value} {F H : Hp} {L : List Addr} {S : Store} {v : V} {d : Val} {n : Nat} {xs : List P} (wr : WR K mg F L H S) (vr : VR K mg F L v d) (h : lstAt S d = some (n, xs)) : ∃ a vs, v = .ref a ∧ d = .loc n ∧ L[n]? = some a ∧ F a = none ∧ H a = some (.lst vs) ∧ Reps K mg F vs xs := by
  cases vr with
  | dat r => cases h
  | loc e =>
    rename_i a m
    cases e2 : S[m]? with
    | none => simp only [lstAt, e2] at h; cases h
    | some c =>
      simp only [lstAt, e2] at h
      split at h
      · rename_i ys hc
        cases hc
        cases h
        obtain ⟨hF, o, ho, cr⟩ := wr.own n a _ e e2 (by simp)
        cases cr with
        | lst r => exact ⟨a, _, rfl, rfl, e, hF, ho, r⟩
      · cases h
def eApp (mo m : Ex) : Ex := fun ρ S => (mo ρ S).bind fun v S1 => match lstAt S1 v with
  | some _ => (m ρ S1).bind fun d S2 => match lstAt S2 v, d with
    | some (n, xs), .dat p => if xs.length < sizeLine then .ok (.dat .non) (S2.set n (.lst (xs ++ [p]))) else .bad
    | _, _ => .bad
  | none => .bad
def eExt (mo : Ex) (a : Ar) : Ex := fun ρ S => (mo ρ S).bind fun v S1 => match lstAt S1 v with
  | some _ => (a ρ S1).bind fun ds S2 => match lstAt S2 v, dats ds with
    | some (n, xs), some ps => if xs.length + ps.length ≤ sizeLine then .ok (.dat .non) (S2.set n (.lst (xs ++ ps))) else .bad
    | _, _ => .bad
  | none => .bad
theorem de_append {o e : Expr} {mo m : Ex} {apos cpos : Pos} (ho : dE X W o mo) (he : dE X W e m)
    (hs : starEach (e :: []) X.env = (false, eval e X.env) :: starEach [] X.env := by rfl)
    (hbase : attributeBase o "append" X.env (eval o X.env) = eval o X.env := by rfl)
    (hfew : ((backTo cpos (starEach (e :: []) X.env)).all (fun x => !x.1) && (backToKw cpos (keywordEach [] X.env)).all (fun x => x.1.isSome)
      && decide ((e :: []).length + ([] : List Keyword).length + (if ([] : List Keyword).isEmpty then 0 else 1) < 30)) = true := by rfl)
    (hline : (apos.endLine == cpos.line) = true := by rfl) :
    dE X W (.Call (.Attribute o "append" apos) [e] [] cpos) (eApp mo m) := by
  refine imE (pe_bm PySem.F.plainAttrs_list PySem.F.slot_list_append PySem.F.type_list_append mt_append ho (pa_cons he pa_nil hs) hbase hfew hline hs rfl) fun σ H Q ⟨F, L, S, ρ, wr, er, q⟩ => ?_
  refine ev_then wr er q fun d S1 v F1 L1 H1 _ x1 wr1 er1 vr1 q1 => ?_
  cases e1 : lstAt S1 d with
  | none => simp only [e1] at q1; exact q1.elim
  | some nx =>
    simp only [e1] at q1
    obtain ⟨a, vs, rfl, rfl, hL, hF, hH, rs⟩ := lstAt_ok wr1 vr1 e1
    refine ⟨.inl ⟨rfl, _, SqL.of hH⟩, ?_⟩
    refine ev_then wr1 er1 q1 fun d2 S2 v2 F2 L2 H2 _ x2 wr2 er2 vr2 q2 => ?_
    cases e2 : lstAt S2 (.loc nx.1) with
    | none => simp only [e2] at q2; exact q2.elim
    | some ny =>
      obtain ⟨n, xs⟩ := ny
      obtain ⟨a', vs2, ha, hd, hL2, hF2, hH2, rs2⟩ := lstAt_ok wr2 (vr1.mono x2.fr x2.lp) e2
      cases ha
      cases hd
      simp only [e2] at q2
      cases vr2 with
      | loc _ => exact q2.elim
      | dat r2 =>
        simp only at q2
        split at q2
        · rename_i hl
          refine ⟨a, vs2, v2, rfl, rfl, hH2, by rw [rs2.length]; exact hl, ?_⟩
          exact q2 _ F2 L2 _ (.write hL2 hF2) (wr2.write hL2 hF2 (.lst (rs2.append (.cons r2 .nil)))) (.dat .non)
        · exact q2.elim
theorem de_extend {o : Expr} {es : List Expr} {mo : Ex} {a : Ar} {apos cpos lpos : Pos} (ho : dE X W o mo) (ha : dA X W es a)
    (hs : starEach (Expr.List es lpos :: []) X.env = (false, eval (Expr.List es lpos) X.env) :: starEach [] X.env := by rfl)
    (hbase : attributeBase o "extend" X.env (eval o X.env) = eval o X.env := by rfl)
    (hfew : ((backTo cpos (starEach (Expr.List es lpos :: []) X.env)).all (fun x => !x.1) && (backToKw cpos (keywordEach [] X.env)).all (fun x => x.1.isSome)
      && decide ((Expr.List es lpos :: []).length + ([] : List Keyword).length + (if ([] : List Keyword).isEmpty then 0 else 1) < 30)) = true := by rfl)
    (hline : (apos.endLine == cpos.line) = true := by rfl) :
    dE X W (.Call (.Attribute o "extend" apos) [.List es lpos] [] cpos) (eExt mo a) := by
  refine imE (pe_bm PySem.F.plainAttrs_list PySem.F.slot_list_extend PySem.F.type_list_extend mt_extend ho (pa_cons (pe_lst ha) pa_nil hs) hbase hfew hline hs rfl) fun σ H Q ⟨F, L, S, ρ, wr, er, q⟩ => ?_
  refine ev_then wr er q fun d S1 v F1 L1 H1 _ x1 wr1 er1 vr1 q1 => ?_
  cases e1 : lstAt S1 d with
  | none => simp only [e1] at q1; exact q1.elim
  | some nx =>
    simp only [e1] at q1
    obtain ⟨a, vs, rfl, rfl, hL, hF, hH, rs⟩ := lstAt_ok wr1 vr1 e1
    refine ⟨.inl ⟨rfl, _, SqL.of hH⟩, ?_⟩
    refine ar_then wr1 er1 q1 fun ds S2 vs' F2 L2 H2 _ x2 wr2 er2 vr2 q2 => ?_
    cases e2 : lstAt S2 (.loc nx.1) with
    | none => simp only [e2] at q2; exact q2.elim
    | some ny =>
      obtain ⟨n, xs⟩ := ny
      obtain ⟨a', vs2, ha, hd, hL2, hF2, hH2, rs2⟩ := lstAt_ok wr2 (vr1.mono x2.fr x2.lp) e2
      cases ha
      cases hd
      simp only [e2] at q2
      cases e3 : dats ds with
      | none => simp only [e3] at q2; exact q2.elim
      | some ps =>
        simp only [e3] at q2
        have rp := dats_ok vr2 e3
        split at q2
        · rename_i hl
          refine ⟨by rw [rp.length]; omega, fun p hp => ⟨a, p, vs2, vs', rfl, rfl, ?_, upd_same, by rw [rs2.length, rp.length]; exact hl, ?_⟩⟩
          · rw [upd_ne (ne_of_none hH2 hp)]
            exact hH2
          · have wr3 : WR X.K X.mg F2 L2 (upd H2 p (.lst vs')) S2 := wr2.other hp
            have x3 : Xt F2 L2 H2 F2 L2 (upd H2 p (.lst vs')) := .other hp
            exact q2 _ F2 L2 _ (x3.trans (.write hL2 hF2)) (wr3.write hL2 hF2 (.lst (rs2.append rp))) (.dat .non)
        · exact q2.elim
/-! ### return of a list of the store: left to the data -/
def sRetF (m : Ex) : Sm := fun ρ S => (m ρ S).out ρ fun v S1 => match lstAt S1 v with
  | some (n, xs) => .rt (.dat (.lst xs)) (S1.set n .dead)
  | none => .bad
theorem ds_retF {e : Expr} {m : Ex} {pos : Pos} (he : dE X W e m) : dS X W (.Return (some e) pos) (sRetF m) := by
  refine imS (ps_ret he) fun D σ H ⟨F, L, S, ρ, wr, er, q⟩ => ?_
  refine ev_out wr er q fun d S1 v F1 L1 H1 _ x1 wr1 er1 vr1 q1 => ?_
  cases e1 : lstAt S1 d with
  | none => simp only [e1] at q1; exact q1.elim
  | some nx =>
    obtain ⟨n, xs⟩ := nx
    simp only [e1] at q1
    obtain ⟨a, vs, rfl, rfl, hL, hF, hH, rs⟩ := lstAt_ok wr1 vr1 e1
    exact q1 _ (upd F1 a (.lst vs)) L1 H1 (.freeze hL hF) (wr1.freeze hL hF hH) (.dat (.lst (SqL.of upd_same) (rs.mono (same_upd hF))))
end
/-! ### a def whose own places are given up at its end -/
def popM (m : Fm) : Fm := fun ds S => match m ds S with
  | .ok (.dat p) S' => .ok (.dat p) (S'.take S.length)
  | .ok (.loc _) _ => .bad
  | .exc c fs S' => .exc c fs (S'.take S.length)
  | .bad => .bad
theorem VR.take {K : PySem.W.Frag} {mg : Str → Option Value} {F : Hp} {L : List Addr} {v : V} {p : P} {n : Nat} (h : VR K mg F L v (.dat p)) : VR K mg F (L.take n) v (.dat p) := by
  cases h with
  | dat r => exact .dat r
theorem pv_pop {K : PySem.W.Frag} {mg : Str → Option Value} {F H : Hp} {L : List Addr} {S : Store} {m : Fm} {ds : List Val} {Q : VK} {E : XK} (wr : WR K mg F L H S) (h : Pv K mg F L H (popM m ds S) Q E) : Pv K mg F L H (m ds S) Q E := by
  unfold popM at h
  cases e : m ds S with
  | bad => simp only [e] at h; exact h
  | exc c fs S' =>
    simp only [e] at h
    intro C d F' L' H' hm x w xd
    exact h C d F' (L'.take S.length) H' hm (x.take (by rw [wr.len]; exact Nat.le_refl _)) (w.take _) xd
  | ok d S' =>
    cases d with
    | loc n => simp only [e] at h; exact h.elim
    | dat p =>
      simp only [e] at h
      intro v F' L' H' x w vr
      exact h v F' (L'.take S.length) H' (x.take (by rw [wr.len]; exact Nat.le_refl _)) (w.take _) vr.take
theorem Cal.pop {Pg : Program} {w : World} {K : PySem.W.Frag} {mg : Str → Option Value} {base : Heap} {gd : Bool} {k : Nat} {f : Addr} {ks : List Str} {m : Fm} (c : Cal Pg w K mg base gd k f ks m) : Cal Pg w K mg base gd k f ks (popM m) :=
  fun A outer s H us ws vs zs Q E hr hG e0 r rz hl ⟨F, L, S, ds, wr, vr, q⟩ => c A outer s H us ws vs zs Q E hr hG e0 r rz hl ⟨F, L, S, ds, wr, vr, pv_pop wr q⟩
end DL
set_option Elab.async false
set_option linter.all false
set_option maxRecDepth 100000
set_option maxHeartbeats 4000000
namespace DL
open PySem PySem.Spec PyProof.Rows L2
open PySem.W (Looks)
/-! ### the text of an int of any size below the limit -/
structure DigF (K : PySem.W.Frag) : Prop where
  no : PySem.W.nsIn K cStatics "sys.int_max_str_digits" = some none
theorem DigF.at {K : PySem.W.Frag} {h : Heap} (d : DigF K) (X : K.In h) (l : h.NoLimit) : h.NoDigits := let ⟨mc, h1, _⟩ := l; ⟨mc, h1, PySem.W.ns_none_of X h1 d.no⟩
def bigL : Nat := 10 ^ 4300
def txtI (i : Int) : Str := ((toString i : String) : Str)
section
variable {prog : Program} {w : World} {A : Around} {E : Value → Shared → Prop} {s : Shared} {a : Int} {t : Tok}
theorem bigL_no {p : Prop} (h : a.natAbs < bigL) (h2 : 10 ^ 4300 ≤ a.natAbs) : p := absurd (Nat.lt_of_lt_of_le h h2) (Nat.lt_irrefl _)
theorem pyReprObj_int_big {Q : Value → Shared → Prop} (hh : A.handled = none) (hn : s.heap.NoDigits) (hb : a.natAbs < bigL) (h : Q (.str (txtI a) s.toks) { s with toks := s.toks + 1 }) : wpAny (model prog w) A (pyReprObj (.int a t)) Q E s := by
  unfold pyReprObj
  refine wpAny_bind (wpAny_cRoomFor_byValue rfl ?_)
  refine wpAny_bind (wpAny_specialOf (name := Str.ofString "__repr__") (typeIs_int s a t) F.slot_int_repr.lookup ?_)
  refine wpAny_bind (m := callSpecialIfBound? (.int a t) (Str.ofString "__repr__")) (wpAny_callSpecialIfBound?_slot (name := Str.ofString "__repr__") (typeIs_int s a t) F.slot_int_repr
    (call_int_repr_or hh hn (fun hlt => ?_) (fun hge h' tk e hx => bigL_no hb hge)))
  exact wpAny_bind (wpAny_isInstance (T := "str") (b := true) rfl isSubtype_str_str (wpAny_pure h))
theorem repr_int_big {Q : Value → Shared → Prop} (hh : A.handled = none) (hn : s.heap.NoDigits) (hb : a.natAbs < bigL) (h : Q (.str (txtI a) s.toks) { s with toks := s.toks + 1 }) : wpAny (model prog w) A (call (.builtin "repr") [.int a t]) Q E s := by
  refine Calls.call_function_entry PySem.F.kind_repr PySem.F.plain_repr PySem.F.entry_repr (PySem.F.args_repr1 _) ?_
  unfold Builtin.«repr»
  refine wpAny_bind (m := oneArg "repr" _) (wpAny_pure ?_)
  refine wpAny_bind (wpAny_cRoomFor_byValue rfl ?_)
  refine wpAny_bind (wpAny_specialOf (name := Str.ofString "__repr__") (typeIs_int s a t) F.slot_int_repr.lookup ?_)
  refine wpAny_bind (m := callSpecialIfBound? (.int a t) (Str.ofString "__repr__")) (wpAny_callSpecialIfBound?_slot (name := Str.ofString "__repr__") (typeIs_int s a t) F.slot_int_repr
    (call_int_repr_or (A := A.in1) hh hn (fun hlt => ?_) (fun hge h' tk e hx => bigL_no hb hge)))
  exact wpAny_bind (wpAny_isInstance (T := "str") (b := true) rfl isSubtype_str_str (wpAny_pure ⟨_, rfl, h⟩))
end
/-! ### repr below a container: an own class's method -/
section
variable {M : Model} {A : Around} {E : Value → Shared → Prop} {s : Shared} {K : PySem.W.Frag} {x C f : Addr} {ox : Obj} {od : Option Obj}
theorem ifBoundBy_own {last : Value → List Value → Sem Value} {name : Str} {Q : Option Value → Shared → Prop} (X : K.In s.heap) (I : PySem.W.InstAt s.heap x ox C od) (hs : PySem.W.findIn K (.ref C) name = some (some (.ref f))) (hf : PySem.W.isFn K (.ref f) = true)
    (h : wpAny M A (last (.ref f) [.ref x]) (fun v => Q (some v)) E s) : wpAny M A (callSpecialIfBoundBy? last (.ref x) name) Q E s := by
  simp only [callSpecialIfBoundBy?, bindSpecialIfBound?]
  refine wpAny_holding (wpAny_bind (wpAny_bind (wpAny_bind (I.type.here ((PySem.W.looks_findIn X hs).here ?_)))))
  refine wpAny_bind (wpAny_askSetting (wpAny_ite ?_))
  have fin : wpAny M A (last (.ref f) [.ref x] >>= fun v => pure (some v)) Q E s := wpAny_bind (wpAny_mono h (fun v s' h' => wpAny_pure h') fun _ _ h' => h')
  split
  · exact wpAny_bind ((PySem.W.bind_fn X _ (beq_iff_eq.mp hf)).here (wpAny_pure (by exact fin)))
  · exact wpAny_tryCatch (wpAny_bind ((PySem.W.bind_fn X _ (beq_iff_eq.mp hf)).here (wpAny_pure (by exact fin))))
theorem reprUnder_own {b : Nat} {Q : Str → Shared → Prop} (X : K.In s.heap) (I : PySem.W.InstAt s.heap x ox C od) (hs : PySem.W.findIn K (.ref C) "__repr__" = some (some (.ref f))) (hf : PySem.W.isFn K (.ref f) = true) (hu : A.units < cLine) (hb : b ≤ sizeLine)
    (h : wpAny M A (call (.ref f) [.ref x]) (fun v s' => ∃ t tk, v = .str t tk ∧ Q t s') E s) : wpAny M A (pyReprUnder b (.ref x)) Q E s := by
  refine wpAny_pyReprUnder_ref hb ?_
  unfold pyReprObjUnder pyReprObjBy
  refine wpAny_bind (wpAny_cRoomFor hu ?_)
  refine wpAny_bind (wpAny_bind (I.type.here ((PySem.W.looks_findIn X hs).here ?_)))
  show wpAny _ _ (if (some (Value.ref f)).isNone = true then _ else _) _ _ _
  rw [if_neg (by simp)]
  refine wpAny_bind (ifBoundBy_own X I hs hf (wpAny_mono h (fun v s' hv => ?_) fun _ _ y => y))
  obtain ⟨t, tk, rfl, q⟩ := hv
  exact wpAny_bind (wpAny_isInstance (T := "str") (b := true) rfl isSubtype_str_str (wpAny_pure ⟨t, tk, rfl, q⟩))
end
/-- the text of an item, below a container -/
abbrev Rm := P → Store → Rs Str
def RpM (X : Cx) (k : Nat) (rp : Rm) : Prop :=
  ∀ (A : Around) (pins : List (Addr × Obj)) (s : Shared) (σ : L2.St) (H F : Hp) (L : List Addr) (S S' : Store) (v : V) (u : Value) (p : P) (t : Str) (b : Nat) (Q : Str → Shared → Prop) (E : Value → Shared → Prop), Sub X k A → Inv X pins σ H s → WR X.K X.mg F L H S → RelV v u → Rep X.K X.mg F v p →
    rp p S = .ok t S' → b + t.length ≤ sizeLine → (∀ F' L' H' s', Inv X pins σ H' s' → Xt F L H F' L' H' → WR X.K X.mg F' L' H' S' → Q t s') → wpAny (model X.prog X.w) A (pyReprUnder b u) Q E s
def rpB : Rm := fun p S => match p with
  | .int i => if i.natAbs < bigL then .ok (txtI i) S else .bad
  | .bl b => .ok (if b = true then "True" else "False") S
  | .non => .ok "None" S
  | .str x => if (reprText x).length ≤ sizeLine then .ok (reprText x) S else .bad
  | _ => .bad
def rpO (c : Nat) (m : Fm) (r : Rm) : Rm := fun p S => match p with
  | .obj c' fs => if c' = c then (match m [.dat (.obj c' fs)] S with | .ok (.dat (.str t)) S' => .ok t S' | _ => .bad) else .bad
  | p => r p S
section
variable {X : Cx} {W : WX}
theorem rp_base (dg : DigF X.K) (k : Nat) : RpM X k rpB := by
  intro A pins s σ H F L S S' v u p t b Q E sb I wr rv rp e hb q
  unfold rpB at e
  have hb' : b ≤ sizeLine := by omega
  split at e
  · split at e
    · rename_i i hi
      cases e
      rw [rep_int rp] at rv
      obtain ⟨tk, rfl⟩ := rv
      rw [pyReprUnder_leaf (v := .int i tk) hb' (fun _ e => nomatch e)]
      unfold pyRepr
      exact wpAny_bind (pyReprObj_int_big sb.room.hd (dg.at I.kIn I.nolimit) hi (wpAny_pure (q F L H _ (I.tok _) .refl wr)))
    · cases e
  · rename_i c
    cases e
    rw [rep_bl rp] at rv
    cases rv
    exact ReprIs.bool c b hb _ _ _ _ fun tk => q F L H _ (I.tok _) .refl wr
  · cases e
    cases rp
    cases rv
    exact ReprIs.none b hb _ _ _ _ fun tk => q F L H _ (I.tok _) .refl wr
  · split at e
    · rename_i x hx
      cases e
      rw [rep_str rp] at rv
      obtain ⟨tk, rfl⟩ := rv
      exact ReprIs.str x tk hx b hb _ _ _ _ fun tk => q F L H _ (I.tok _) .refl wr
    · cases e
  · cases e
theorem rp_own {k c : Nat} {C f : Addr} {m : Fm} {r : Rm} (hc : X.mg (cn c) = some (.ref C)) (hs : PySem.W.findIn X.K (.ref C) "__repr__" = some (some (.ref f))) (hf : PySem.W.isFn X.K (.ref f) = true)
    (cal : Cal X.prog X.w X.K X.mg X.base false k f [] m) (hr : RpM X k r) : RpM X k (rpO c m r) := by
  intro A pins s σ H F L S S' v u p t b Q E sb I wr rv rp e hb q
  unfold rpO at e
  split at e
  · rename_i c' fs
    split at e
    · rename_i hcc
      subst hcc
      split at e
      · rename_i t' S2 em
        cases e
        cases rp with
        | @obj a C' dx fs' _ _ hc' ha fo rf =>
          rw [hc] at hc'
          cases hc'
          cases rv
          obtain ⟨mA, O, _⟩ := ins_get I.hok (wr.sub.ins ha)
          obtain ⟨od, J, _⟩ := O.look
          refine reprUnder_own I.kIn J hs hf sb.room.units0 (by omega) ?_
          have e0 : Env0 X.prog X.w X.K X.mg X.base A X.stack s H := by
            have e := I.env0
            exact ⟨by rw [sb.fr]; exact e.frames, e.mod, e.bs, e.bsz, e.funs, e.frf, e.hok, e.bare⟩
          have rr : Rep X.K X.mg F (.ref a) (.obj c' fs) := .obj hc ha fo rf
          have sp : spA X.K X.mg m ([.ref a] ++ []) H (fun v H' => ∃ F' L', v = .str t ∧ Xt F L H F' L' H' ∧ WR X.K X.mg F' L' H' S') (fun _ _ _ => False) :=
            ⟨F, L, S, [.dat (.obj c' fs)], wr, .cons (.dat rr) .nil, by
              rw [em]
              intro v F' L' H' x' wr' vr'
              cases vr' with
              | dat r => exact ⟨F', L', rep_str r, x', wr'⟩⟩
          refine wpAny_call (codeAny_mono (cal A X.stack s H [.ref a] [] [.ref a] [] _ (fun _ _ _ => False) sb.room .no e0 (.cons rfl .nil) .nil rfl sp) fun r s' hq => ?_)
          cases r with
          | error er =>
            obtain ⟨_, _, _, _, _, _, _, _, _, _, _, _, z⟩ := hq
            exact z.elim
          | ok fl =>
            cases fl with
            | ret u =>
              obtain ⟨v, H', I3, rv, F', L', rfl, x', wr'⟩ := I.after hq
              obtain ⟨tk, rfl⟩ := rv
              exact ⟨t, tk, rfl, q F' L' H' s' I3 x' wr'⟩
            | next => exact False.elim hq
            | brk => exact False.elim hq
            | cont => exact False.elim hq
      · cases e
    · cases e
  · exact hr A pins s σ H F L S S' v u _ t b Q E sb I wr rv rp e hb q
end
/-! ### repr of a list -/
def reprL (rp : Rm) : List P → Store → Rs (List Str)
  | [], S => .ok [] S
  | x :: r, S => (rp x S).bind fun t S1 => (reprL rp r S1).bind fun ts S2 => .ok (t :: ts) S2
theorem loop_guard (args : Args) : Code.isGuard (.builtin "list.__repr__.loop" args) = true := by
  show guardIds.contains "list.__repr__.loop" = true
  decide +kernel
section
variable {X : Cx} {W : WX}
theorem sub_loop {k : Nat} {A : Around} (sb : Sub X (k + 1) A) (args : Args) : Sub X k (A.under (.builtin "list.__repr__.loop" args)) := by
  have e1 : (A.under (.builtin "list.__repr__.loop" args)).depth = A.depth + 1 := by
    first | rfl | simp [Around.under, Code.weight, Code.isCreation, loop_guard, Code.isCaller, Code.frames, Code.isFrame]
  have e2 : (A.under (.builtin "list.__repr__.loop" args)).units ≤ A.units + 1 := by
    first
      | (show A.units + _ ≤ A.units + 1; simp [Code.cUnits, Code.frames, Code.isFrame]; done)
      | simp [Around.under, Code.cUnits, Code.frames, Code.isFrame]
  refine ⟨⟨sb.room.hd, ?_, ?_⟩, sb.fr⟩
  · have := sb.room.dp; rw [e1]; omega
  · have := sb.room.un; omega
theorem rl_loop {k : Nat} {rp : Rm} (hrp : RpM X k rp) {A : Around} (sb : Sub X (k + 1) A) {pins : List (Addr × Obj)} {σ : L2.St} {a Pp : Addr} {vs : List V} {ps : List P} {b : Nat} {R : Result → Shared → Prop} {F0 : Hp} {L0 : List Addr} {H0 : Hp} (h0 : H0 Pp = none) :
    ∀ (rest : List P) (i : Nat) (F : Hp) (L : List Addr) (S Se : Store) (H : Hp) (s : Shared) (done texts : List Str), ps.drop i = rest → done.length = i → i ≤ ps.length → Inv X pins σ H s → WR X.K X.mg F L H S → SqL X.K F a vs → Reps X.K X.mg F vs ps →
      Xt F0 L0 H0 F L H → H Pp = some (.lst (done.map V.str)) → F Pp = none → Pp ∉ L → reprL rp rest S = .ok texts Se → b + (listText (done ++ texts)).length ≤ sizeLine →
      (∀ F' L' H' s' u, Inv X pins σ H' s' → Xt F0 L0 H0 F' L' H' → WR X.K X.mg F' L' H' Se → R (.ok (.ret (.str (listText (done ++ texts)) u))) s') →
      codeAny (model X.prog X.w) A (.builtin "list.__repr__.loop" ⟨[.ref a, rawInt i, .ref Pp, rawInt ((b + piled done : Nat) : Int)], []⟩) R s := by
  intro rest
  induction rest with
  | nil =>
    intro i F L S Se H s done texts hdrop hlen hi I wr hq rs x0 hP hPF hPL er hsz hR
    cases er
    rw [List.append_nil] at hsz hR
    have hin : ps.length ≤ i := by
      have := congrArg List.length hdrop
      simp at this
      omega
    obtain ⟨its, rv, ⟨o, n, ho, hoc, _, hod⟩, hz⟩ := I.list (wr.sub.seq hq)
    obtain ⟨z, its2, n2, r2, hl2, e2⟩ := I.lstM hP
    refine codeAny_builtin PySem.F.entry_list_repr_loop ?_
    show wpAny _ _ (Builtin.«list.__repr__.loop» ⟨[.ref a, .int i 0, .ref Pp, .int ((b + piled done : Nat) : Int) 0], []⟩) _ _ s
    rw [repr_loop_tree]
    refine wpAny_bind (wpAny_listItems ho hod ?_)
    have hnone : its.toArray[(i : Int).toNat]? = none := by
      have h1 := rv.length
      have h2 := rs.length
      simp
      omega
    simp only [hnone]
    unfold reprEnd
    refine wpAny_bind (wpAny_listItems e2 rfl ?_)
    have tdone : ∀ {l : List Str} {us : List Value}, Vals (l.map V.str) us → ∃ dn : List (Str × Tok), us = strValues dn ∧ dn.map (·.1) = l := by
      intro l
      induction l with
      | nil => intro us r; cases r; exact ⟨[], rfl, rfl⟩
      | cons y l ih =>
        intro us r
        cases r with
        | cons r1 r2 =>
          obtain ⟨tk, rfl⟩ := r1
          obtain ⟨dn, rfl, rfl⟩ := ih r2
          exact ⟨(y, tk) :: dn, rfl, rfl⟩
    obtain ⟨dn, rfl, rfl⟩ := tdone r2
    have ht : (strValues dn).toArray.toList = strValues dn := by simp
    rw [ht, repr_fold]
    refine wpAny_bind (wpAny_pure ?_)
    refine wpAny_bind (wpAny_mkStr (wpAny_pure ?_) (by show (listText _).length ≤ _; omega))
    exact hR F L H _ _ (I.tok _) x0 wr
  | cons p rest ih =>
    intro i F L S Se H s done texts hdrop hlen hi I wr hq rs x0 hP hPF hPL er hsz hR
    have hlt : i < ps.length := by
      have := congrArg List.length hdrop
      simp at this
      omega
    have hp : ps[i]? = some p := by
      have := congrArg (·[0]?) hdrop
      simpa using this
    obtain ⟨v, hv, rpv⟩ := rs.get hp
    obtain ⟨its, rv, ⟨o, n, ho, hoc, _, hod⟩, hz⟩ := I.list (wr.sub.seq hq)
    obtain ⟨u, hu, ru⟩ := rv.get hv
    simp only [reprL] at er
    cases e1 : rp p S with
    | bad => rw [e1] at er; cases er
    | exc _ _ _ => rw [e1] at er; cases er
    | ok t S1 =>
      rw [e1] at er
      simp only [Rs.bind] at er
      cases e2 : reprL rp rest S1 with
      | bad => rw [e2] at er; cases er
      | exc _ _ _ => rw [e2] at er; cases er
      | ok ts S2 =>
        rw [e2] at er
        cases er
        have hp1 := piled_le_listText (done ++ t :: ts)
        rw [piled_append, piled_cons] at hp1
        refine codeAny_builtin PySem.F.entry_list_repr_loop ?_
        show wpAny _ _ (Builtin.«list.__repr__.loop» ⟨[.ref a, .int i 0, .ref Pp, .int ((b + piled done : Nat) : Int) 0], []⟩) _ _ s
        rw [repr_loop_tree]
        refine wpAny_bind (wpAny_listItems ho hod ?_)
        have hsome : its.toArray[(i : Int).toNat]? = some u := by simpa using hu
        simp only [hsome]
        rw [Int.toNat_natCast]
        refine wpAny_bind (wpAny_holding (hrp _ pins s σ H F L S S1 v u p t (b + piled done + 1) _ _ (sub_loop sb _) I wr ru rpv e1 (by omega) fun F1 L1 H1 s1 I1 x1 wr1 => ?_))
        · obtain ⟨k1, k2, k3⟩ := x1.keep hP hPL hPF
          refine wpAny_bind (wpAny_mkStr ?_ (by omega))
          refine wpAny_bind ?_
          show wpAny _ _ (updateSeq Pp _) _ _ _
          obtain ⟨z, its2, n2, r2, hl2, e3⟩ := I1.lstM k1
          refine wpAny_updateSeq e3 rfl (wpAny_pure ⟨PySem.F.quiet_list_repr_loop _, ?_⟩) (by simp; omega) (by simp; omega)
          have e4 : ((i : Int) + 1) = ((i + 1 : Nat) : Int) := by omega
          have e5 : b + piled done + (t.length + 2) = b + piled (done ++ [t]) := by rw [piled_append, piled_cons, piled_nil]; omega
          rw [e4, e5]
          have dl : done.length ≤ sizeLine := by
            have := z
            simp at this
            exact this
          have hsz2 : (done.map V.str ++ [V.str t]).length ≤ sizeLine := by
            have hpp : done.length + 1 ≤ piled (done ++ t :: ts) := by
              have aux : ∀ l : List Str, l.length ≤ piled l := fun l => by
                induction l with
                | nil => exact Nat.le_refl _
                | cons a l ih => rw [piled_cons, List.length_cons]; omega
              have := aux (done ++ t :: ts)
              simp at this
              omega
            have := piled_le_listText (done ++ t :: ts)
            simp
            omega
          have I2 := (I1.tok (s1.toks + 1)).lset (its' := its2 ++ [.str t s1.toks]) (ys := done.map V.str ++ [V.str t]) (f := (·.push (.str t s1.toks))) (t' := s1.toks + 1) k1 e3 (by simp) (r2.append (.cons ⟨_, rfl⟩ .nil)) hsz2
          refine ih (i + 1) F1 L1 S1 _ _ _ (done ++ [t]) ts (by rw [← List.drop_drop, hdrop]; rfl) (by simp; omega) hlt I2 (wr1.beside k3 k2) (x1.fr.seq hq) (rs.mono x1.fr) ((x0.trans x1).beside h0) (by rw [upd_same]; simp) k3 k2 e2 (by simpa using hsz) fun F' L' H' s' u I' x' wr' => ?_
          have := hR F' L' H' s' u I' x' wr'
          simpa using this
end
end DL
set_option Elab.async false
set_option linter.all false
set_option maxRecDepth 100000
set_option maxHeartbeats 4000000
namespace DL
open PySem PySem.Spec PyProof.Rows L2
open PySem.W (Looks)
/-- an own method of one value that answers with a text -/
def ownS (c : Nat) (m : Fm) (x : Val) (S : Store) : Rs Val := match objOf S x with
  | some (c', _) => if c' = c then (match m [x] S with | .ok (.dat (.str t)) S' => .ok (.dat (.str t)) S' | _ => .bad) else .bad
  | none => .bad
def strM (c : Nat) (m : Fm) : Fms := fun ds S => match ds with
  | [.dat (.int i)] => if i.natAbs < bigL then .ok (.dat (.str (txtI i))) S else .bad
  | [x] => ownS c m x S
  | _ => .bad
def reprM (c : Nat) (m : Fm) (rp : Rm) : Fms := fun ds S => match ds with
  | [.dat (.int i)] => if i.natAbs < bigL then .ok (.dat (.str (txtI i))) S else .bad
  | [.dat (.lst (x :: xs))] => (match reprL rp (x :: xs) S with | .ok ts S' => if (listText ts).length ≤ sizeLine then .ok (.dat (.str (listText ts))) S' else .bad | _ => .bad)
  | [x] => ownS c m x S
  | _ => .bad
section
variable {X : Cx} {W : WX} {gd : Bool} {k c : Nat} {C f : Addr} {m : Fm}
theorem own_run {A : Around} {pins : List (Addr × Obj)} {σ : L2.St} {H F : Hp} {L : List Addr} {S S' : Store} {s : Shared} {Q : VK} {E : Value → Shared → Prop} {u : Value} {v : V} {d : Val} {t : Str} (cal : Cal X.prog X.w X.K X.mg X.base gd k f [] m) (sb : Sub X k A) (hG : GdOk gd A)
    (I : Inv X pins σ H s) (wr : WR X.K X.mg F L H S) (rv : RelV v u) (vr : VR X.K X.mg F L v d) (em : m [d] S = .ok (.dat (.str t)) S') (q : ∀ F' L' H', Xt F L H F' L' H' → WR X.K X.mg F' L' H' S' → Q (.str t) H') :
    wpAny (model X.prog X.w) A (call (.ref f) [u]) (PySem.W.StrBack (EP X pins σ Q)) E s := by
  have e0 : Env0 X.prog X.w X.K X.mg X.base A X.stack s H := by
    have e := I.env0
    exact ⟨by rw [sb.fr]; exact e.frames, e.mod, e.bs, e.bsz, e.funs, e.frf, e.hok, e.bare⟩
  have sp : spA X.K X.mg m ([v] ++ []) H (fun v H' => v = .str t ∧ Q (.str t) H') (fun _ _ _ => False) :=
    ⟨F, L, S, [d], wr, .cons vr .nil, by
      rw [em]
      intro v F' L' H' x' wr' vr'
      cases vr' with
      | dat r => exact ⟨rep_str r, q F' L' H' x' wr'⟩⟩
  refine wpAny_call (codeAny_mono (cal A X.stack s H [u] [] [v] [] _ (fun _ _ _ => False) sb.room hG e0 (.cons rv .nil) .nil rfl sp) fun r s' hq => ?_)
  cases r with
  | error er =>
    obtain ⟨_, _, _, _, _, _, _, _, _, _, _, _, z⟩ := hq
    exact z.elim
  | ok fl =>
    cases fl with
    | ret u =>
      obtain ⟨v, H', I3, rv, rfl, q3⟩ := I.after hq
      obtain ⟨tk, rfl⟩ := rv
      exact ⟨.str t, H', I3, ⟨tk, rfl⟩, q3⟩
    | next => exact False.elim hq
    | brk => exact False.elim hq
    | cont => exact False.elim hq
/-- what an own method call needs -/
theorem ownS_run {A A' : Around} {pins : List (Addr × Obj)} {σ : L2.St} {H F : Hp} {L : List Addr} {S : Store} {s : Shared} {Q : VK} {u : Value} {v : V} {d : Val} {g : Sem Value} (hc : X.mg (cn c) = some (.ref C)) (cal : Cal X.prog X.w X.K X.mg X.base gd k f [] m) (sb : Sub X k A') (hG : GdOk gd A')
    (I : Inv X pins σ H s) (wr : WR X.K X.mg F L H S) (rv : RelV v u) (vr : VR X.K X.mg F L v d) (q : Pv X.K X.mg F L H (ownS c m d S) Q (fun c d H' => W c d σ H'))
    (hg : ∀ a dx od, u = .ref a → PySem.W.InstAt s.heap a (PySem.W.instObj C dx) C (some od) → wpAny (model X.prog X.w) A' (call (.ref f) [.ref a]) (PySem.W.StrBack (EP X pins σ Q)) X.xe s → wpAny (model X.prog X.w) A g (EP X pins σ Q) X.xe s) : wpAny (model X.prog X.w) A g (EP X pins σ Q) X.xe s := by
  unfold ownS at q
  cases e1 : objOf S d with
  | none => simp only [e1] at q; exact q.elim
  | some cf =>
    obtain ⟨c', fps⟩ := cf
    simp only [e1] at q
    by_cases h : c' = c
    · rw [if_pos h] at q
      subst h
      split at q
      · rename_i t S' em
        obtain ⟨b, C', dx, fvs, rfl, hc', hb, fo, rf⟩ := objOf_ok wr vr e1
        rw [hc] at hc'
        cases hc'
        cases rv
        obtain ⟨mA, O, _⟩ := ins_get I.hok hb
        obtain ⟨od, J, _⟩ := O.look
        exact hg b dx od rfl J (own_run (v := .ref b) cal sb hG I wr rfl vr em fun F' L' H' x' wr' => q _ F' L' H' x' wr' (.dat (.str _)))
      · exact q.elim
    · rw [if_neg h] at q
      exact q.elim
theorem cm_str (dg : DigF X.K) (hc : X.mg (cn c) = some (.ref C)) (hs : PySem.W.findIn X.K (.ref C) "__str__" = some (some (.ref f))) (hf : PySem.W.isFn X.K (.ref f) = true) (cal : Cal X.prog X.w X.K X.mg X.base gd k f [] m) (hr : Room (k + 2) X.A) (hG : GdOk gd X.A) : CallM X W (.type "str") (strM c m) := by
  intro pins s σ H F L S xs us ds Q I wr rv vr q
  unfold strM at q
  split at q
  · split at q
    · rename_i i hi
      cases vr with
      | cons vx vr =>
        cases vr
        cases vx with
        | dat r =>
          cases r
          obtain ⟨u, rfl, tk, rfl⟩ := vals1 rv
          exact str_of_int_or hr.hd (dg.at I.kIn I.nolimit) (fun _ => ⟨.str _, H, I.tok _, ⟨_, rfl⟩, q _ F L H .refl wr (.dat (.str _))⟩) fun hge h' tk e hx => bigL_no hi hge
    · exact q.elim
  · cases vr with
    | cons vx vr =>
      cases vr
      obtain ⟨u, rfl, ru⟩ := vals1 rv
      refine ownS_run (A' := X.A.in1.in1) hc cal (sub_here hr).in1.in1 hG I wr ru vx q fun a dx od eu J h => ?_
      subst eu
      exact PySem.W.kso_call (by have := (sub_here hr).in1.in1.room.units0; exact this) I.kIn J hs hf h
  · exact q.elim
theorem cm_repr {rp : Rm} (dg : DigF X.K) (hc : X.mg (cn c) = some (.ref C)) (hs : PySem.W.findIn X.K (.ref C) "__repr__" = some (some (.ref f))) (hf : PySem.W.isFn X.K (.ref f) = true) (cal : Cal X.prog X.w X.K X.mg X.base gd k f [] m) (hr : Room (k + 2) X.A) (hG : GdOk gd X.A) (hg : GdOk true X.A) (hrp : RpM X k rp) : CallM X W (.builtin "repr") (reprM c m rp) := by
  intro pins s σ H F L S xs us ds Q I wr rv vr q
  unfold reprM at q
  split at q
  · split at q
    · rename_i i hi
      cases vr with
      | cons vx vr =>
        cases vr
        cases vx with
        | dat r =>
          cases r
          obtain ⟨u, rfl, tk, rfl⟩ := vals1 rv
          exact repr_int_big hr.hd (dg.at I.kIn I.nolimit) hi ⟨.str _, H, I.tok _, ⟨_, rfl⟩, q _ F L H .refl wr (.dat (.str _))⟩
    · exact q.elim
  · rename_i x0 xs0
    cases vr with
    | cons vx vr =>
      cases vr
      cases vx with
      | dat r =>
        obtain ⟨u, rfl, ru⟩ := vals1 rv
        cases r with
        | @lst a vs _ hq rs =>
          cases ru
          cases e1 : reprL rp (x0 :: xs0) S with
          | bad => simp only [e1] at q; exact q.elim
          | exc c' fs' S' =>
            simp only [e1] at q
            exact q.elim
          | ok ts Se =>
            simp only [e1] at q
            by_cases hsz : (listText ts).length ≤ sizeLine
            · rw [if_pos hsz] at q
              obtain ⟨its, rvi, ⟨o, n, ho, hoc, hodd, hod⟩, hz⟩ := I.list (wr.sub.seq hq)
              have hTy : s.TypeIs (.ref a) "list" := ⟨o, ho, hoc⟩
              refine Calls.call_function_entry PySem.F.kind_repr PySem.F.plain_repr PySem.F.entry_repr (PySem.F.args_repr1 _) ?_
              unfold Builtin.«repr»
              refine wpAny_bind (m := oneArg "repr" _) (wpAny_pure ?_)
              refine wpAny_bind (wpAny_cRoomFor (hr.in1).units0 ?_)
              refine wpAny_bind (wpAny_specialOf (name := Str.ofString "__repr__") hTy PySem.F.slot_list_repr.lookup ?_)
              refine wpAny_bind (m := callSpecialIfBound? (.ref a) (Str.ofString "__repr__")) (wpAny_callSpecialIfBound?_slot (name := Str.ofString "__repr__") hTy PySem.F.slot_list_repr ?_)
              refine wpAny_call (codeAny_call_builtin PySem.F.slot_list_repr.plain PySem.F.entry_list_repr (PySem.F.slot_list_repr.check _ _ _ _ _ _ _ _ hTy (PySem.F.args_list_repr_1 _) ?_))
              cases hv : vs with
              | nil => subst hv; cases rs
              | cons v0 vs0 =>
                subst hv
                cases rvi with
                | @cons _ u0 _ us0 r0 rr0 =>
                  refine wpAny_list_repr_head (A := X.A.in1.in1) (g := []) (b := 0) (hg rfl) (fun _ _ _ h => nomatch h) ho hod ?_
                  refine wpAny_bind (m := newList []) (wpAny_newObj_type ?_)
                  refine wpAny_pure ⟨PySem.F.quiet_list_repr_loop _, ?_⟩
                  have hfr := I.fresh
                  have I1 := I.lnew (ys := []) (its := []) (t' := s.toks) .nil (Nat.zero_le _)
                  refine rl_loop (F0 := F) (L0 := L) (H0 := H) (b := 0) hrp (A := X.A.in1) (sub_here hr).in1 hfr (x0 :: xs0) 0 F L S Se _ _ [] ts rfl rfl (Nat.zero_le _) I1 (wr.other hfr) hq rs (Xt.other hfr) upd_same (wr.fnone hfr) (wr.notin hfr) e1 (by simpa using hsz) fun F' L' H' s' u I' x' wr' => ?_
                  exact wpAny_bind (wpAny_isInstance (T := "str") (b := true) rfl isSubtype_str_str (wpAny_pure ⟨_, rfl, .str _, H', I', ⟨_, rfl⟩, q _ F' L' H' x' wr' (.dat (.str _))⟩))
            · rw [if_neg hsz] at q
              exact q.elim
  · cases vr with
    | cons vx vr =>
      cases vr
      obtain ⟨u, rfl, ru⟩ := vals1 rv
      refine ownS_run (A' := X.A.in1) hc cal ((sub_here hr).in1.mono (Nat.le_succ _)) hG I wr ru vx q fun a dx od eu J h => ?_
      subst eu
      obtain ⟨mm, hfr⟩ := I.fr
      exact PySem.W.repr_K (by have := (hr.in1).units0; exact this) hfr I.ok.mod.kin J hs hf h
  · exact q.elim
end
end DL
set_option Elab.async false
set_option linter.all false
set_option maxRecDepth 100000
set_option maxHeartbeats 4000000
namespace DL
open PySem PySem.Spec PyProof.Rows L2 ClX
/-! ### f-strings -/
def eFmt (m : Ex) : Ex := fun ρ S => (m ρ S).bind fun v S1 => match v with
  | .dat (.int i) => if i.natAbs < bigL then .ok (.dat (.str (txtI i))) S1 else .bad
  | .dat (.str y) => if y.length ≤ sizeLine then .ok (.dat (.str y)) S1 else .bad
  | _ => .bad
def joinM : List Ex → Str → Slots → Store → Rs Val
  | [], acc, ρ, S => .ok (.dat (.str acc)) S
  | m :: ms, acc, ρ, S => (m ρ S).bind fun v S1 => match v with
    | .dat (.str y) => if (acc ++ y).length ≤ sizeLine then joinM ms (acc ++ y) ρ S1 else .bad
    | _ => .bad
def eJoin (ms : List Ex) : Ex := fun ρ S => joinM ms Str.empty ρ S
def dJ (X : Cx) (W : WX) (es : List Expr) (ms : List Ex) : Prop := PJ X es (ms.map (tE X.K X.mg W))
section
variable {X : Cx} {W : WX} {pos : Pos}
theorem de_fmt {e : Expr} {m : Ex} (hc : X.calm = true) (dg : DigF X.K) (he : dE X W e m) : dE X W (.FormattedValue e (-1) none pos) (eFmt m) := by
  refine ⟨fun pins s σ H Q I h => ?_⟩
  obtain ⟨F, L, S, ρ, wr, er, q⟩ := h
  refine wpAny_FormattedValue_plain (thn (he.run pins s σ H (fun x H1 => (∃ y : Str, x = .str y ∧ y.length ≤ sizeLine ∧ Q (.str y) H1) ∨ ∃ i : Int, x = .int i ∧ i.natAbs < bigL ∧ Q (.str (txtI i)) H1) I (ev_then wr er q fun d S1 v F1 L1 H1 _ x1 wr1 er1 vr1 q1 => ?_)) fun v s1 hv => ?_)
  · split at q1
    · split at q1
      · rename_i hi
        cases vr1 with
        | dat r =>
          cases r
          exact .inr ⟨_, rfl, hi, q1 _ F1 L1 H1 .refl wr1 (.dat (.str _))⟩
      · exact q1.elim
    · split at q1
      · rename_i hi
        cases vr1 with
        | dat r =>
          cases r
          exact .inl ⟨_, rfl, hi, q1 _ F1 L1 H1 .refl wr1 (.dat (.str _))⟩
      · exact q1.elim
    · exact q1.elim
  · obtain ⟨x, H1, I1, r1, q⟩ := hv
    rcases q with ⟨y, rfl, hz, q⟩ | ⟨i, rfl, hz, q⟩
    · obtain ⟨t, rfl⟩ := r1
      exact wpAny_formatField_str ⟨.str y, H1, I1, ⟨t, rfl⟩, q⟩ ⟨.str y, H1, I1.tok _, ⟨_, rfl⟩, q⟩ hz
    · obtain ⟨t, rfl⟩ := r1
      exact formatField_int (I.ok.hd hc) (dg.at I1.kIn I1.nolimit) (fun _ => ⟨.str (txtI i), H1, I1.tok _, ⟨_, rfl⟩, q⟩) fun hge h' tk e hx => bigL_no hz hge
theorem dj_nil : dJ X W [] [] := .nil
theorem dj_cons {e : Expr} {es : List Expr} {m : Ex} {ms : List Ex} (h : dE X W e m) (r : dJ X W es ms) : dJ X W (e :: es) (m :: ms) := .cons h r
theorem join_run {K : PySem.W.Frag} {mg : Str → Option Value} {σ : L2.St} {ρ : Slots} {Q : VK} : ∀ (ms : List Ex) (acc : Str) (F : Hp) (L : List Addr) (S : Store) (H : Hp), WR K mg F L H S → ER K mg F L σ ρ → Pv K mg F L H (joinM ms acc ρ S) Q (fun c d H' => W c d σ H') →
    tJs (ms.map (tE K mg W)) acc σ H fun out H1 => Q (.str out) H1
  | [], acc, F, L, S, H, wr, er, q => q _ F L H .refl wr (.dat (.str _))
  | m :: ms, acc, F, L, S, H, wr, er, q => by
    refine ev_then wr er q fun d S1 v F1 L1 H1 _ x1 wr1 er1 vr1 q1 => ?_
    split at q1
    · split at q1
      · rename_i hy
        cases vr1 with
        | dat r =>
          cases r
          exact ⟨_, rfl, hy, join_run ms _ F1 L1 S1 H1 wr1 er1 q1⟩
      · exact q1.elim
    · exact q1.elim
theorem de_joined {v1 v2 : Expr} {rest : List Expr} {ms : List Ex} (h : dJ X W (v1 :: v2 :: rest) ms) : dE X W (.JoinedStr (v1 :: v2 :: rest) pos) (eJoin ms) :=
  imE (pe_joined h) fun σ H Q ⟨F, L, S, ρ, wr, er, q⟩ => join_run ms Str.empty F L S H wr er q
theorem de_joined1 {e : Expr} {m : Ex} (h : dE X W e m) : dE X W (.JoinedStr [e] pos) m := pe_joined1 h
/-! ### a, b = x, y -/
def sPar (i j : Nat) (a : Ar) : Sm := fun ρ S => (a ρ S).out ρ fun vs S1 => match vs with
  | [u, v] => .nx ((ρ.set i (some u)).set j (some v)) S1
  | _ => .bad
def sPar3 (i j l : Nat) (a : Ar) : Sm := fun ρ S => (a ρ S).out ρ fun vs S1 => match vs with
  | [u, v, w] => .nx (((ρ.set i (some u)).set j (some v)).set l (some w)) S1
  | _ => .bad
theorem ar_out {K : PySem.W.Frag} {mg : Str → Option Value} {F H : Hp} {L : List Addr} {S : Store} {σ : L2.St} {ρ : Slots} {m : Ar} {k : List Val → Store → Out} {D : Ends} {Q' : List V → Hp → Prop} (wr : WR K mg F L H S) (er : ER K mg F L σ ρ) (h : Po K mg F L H ((m ρ S).out ρ k) D W)
    (hk : ∀ d S1 v F1 L1 H1, m ρ S = .ok d S1 → Xt F L H F1 L1 H1 → WR K mg F1 L1 H1 S1 → ER K mg F1 L1 σ ρ → VRs K mg F1 L1 v d → Po K mg F1 L1 H1 (k d S1) D W → Q' v H1) : tArg K mg W m σ H Q' := by
  refine ⟨F, L, S, ρ, wr, er, ?_⟩
  cases e : m ρ S with
  | ok d S1 =>
    rw [e] at h
    exact fun v F1 L1 H1 x wr1 vr => hk d S1 v F1 L1 H1 e x wr1 (er.mono x.fr x.lp) vr (Po.from x h)
  | exc c fs S1 =>
    rw [e] at h
    exact fun C d F2 L2 H2 e2 x2 w2 hd => h σ C d F2 L2 H2 e2 x2 w2 hd (er.mono x2.fr x2.lp)
  | bad =>
    rw [e] at h
    exact h
theorem ds_par {i j : Nat} {x y : Str} {a b : Expr} {m : Ar} {px py pt : Pos} {kt k2 pt2} (hc : X.calm = true) (hN : X.N.Nodup) (hi : X.N[i]? = some x) (hj : X.N[j]? = some y) (hij : i ≠ j)
    (hx : X.env.scope.names.lookup x = some .local) (hy : X.env.scope.names.lookup y = some .local) (ha : dA X W [a, b] m)
    (hw : swappedStores [.Tuple [.Name x px, .Name y py] kt pt] (.Tuple [a, b] k2 pt2) X.env = pure (some [x, y]))
    (hs : swapsWithSole [.Tuple [.Name x px, .Name y py] kt pt] (.Tuple [a, b] k2 pt2) pos.line X.env = pure false := by rfl) :
    dS X W (.Assign [.Tuple [.Name x px, .Name y py] kt pt] (.Tuple [a, b] k2 pt2) pos) (sPar i j m) := by
  refine imS (ps_par hc hN hi hj hij hx hy ha hw hs) fun D σ H ⟨F, L, S, ρ, wr, er, q⟩ => ?_
  refine ar_out wr er q fun ds S1 vs F1 L1 H1 _ x1 wr1 er1 vr1 q1 => ?_
  split at q1
  · cases vr1 with
    | cons v1 vr1 =>
      cases vr1 with
      | cons v2 vr1 =>
        cases vr1
        exact ⟨_, _, rfl, q1 _ F1 L1 H1 .refl wr1 ((er1.set v1).set v2)⟩
  · exact q1.elim
theorem ds_par3 {i j l : Nat} {x y z : Str} {a b c : Expr} {m : Ar} {px py pz pt : Pos} {kt k2 pt2} (hc : X.calm = true) (hN : X.N.Nodup) (hi : X.N[i]? = some x) (hj : X.N[j]? = some y) (hl : X.N[l]? = some z) (hij : i ≠ j) (hil : i ≠ l) (hjl : j ≠ l)
    (hx : X.env.scope.names.lookup x = some .local) (hy : X.env.scope.names.lookup y = some .local) (hz : X.env.scope.names.lookup z = some .local) (ha : dA X W [a, b, c] m)
    (hw : swappedStores [.Tuple [.Name x px, .Name y py, .Name z pz] kt pt] (.Tuple [a, b, c] k2 pt2) X.env = pure (some [x, y, z]))
    (hs : swapsWithSole [.Tuple [.Name x px, .Name y py, .Name z pz] kt pt] (.Tuple [a, b, c] k2 pt2) pos.line X.env = pure false := by rfl) :
    dS X W (.Assign [.Tuple [.Name x px, .Name y py, .Name z pz] kt pt] (.Tuple [a, b, c] k2 pt2) pos) (sPar3 i j l m) := by
  refine imS (ps_par3 hc hN hi hj hl hij hil hjl hx hy hz ha hw hs) fun D σ H ⟨F, L, S, ρ, wr, er, q⟩ => ?_
  refine ar_out wr er q fun ds S1 vs F1 L1 H1 _ x1 wr1 er1 vr1 q1 => ?_
  split at q1
  · cases vr1 with
    | cons v1 vr1 =>
      cases vr1 with
      | cons v2 vr1 =>
        cases vr1 with
        | cons v3 vr1 =>
          cases vr1
          exact ⟨_, _, _, rfl, q1 _ F1 L1 H1 .refl wr1 (((er1.set v1).set v2).set v3)⟩
  · exact q1.elim
end
/-! ### def f(a, .., *v) -/
def starM (n : Nat) (m : Fm) : Fm := fun ds S => if n ≤ ds.length then (match dats (ds.drop n) with | some ps => if ps.length ≤ sizeLine then m (ds.take n ++ [.dat (.tup ps)]) S else .bad | none => .bad) else .bad
section
variable {Pg : Program} {w : World} {K : PySem.W.Frag} {mg : Str → Option Value} {base : Heap} {x qual : Str} {params : Arguments} {body : List Stmt} {scope : Scope} {dvs : List V} {kws : List (Str × V)} {f : Addr} {fd : FuncData} {gd : Bool} {k : Nat} {N ps : List Str} {mb : Sm} {pv : Str}
theorem VRs.drop {F : Hp} {L : List Addr} : ∀ {v : List V} {p : List Val} (n : Nat), VRs K mg F L v p → VRs K mg F L (v.drop n) (p.drop n)
  | _, _, _, .nil => by simp; exact .nil
  | _, _, 0, .cons a r => .cons a r
  | _, _, n + 1, .cons _ r => VRs.drop n r
theorem VRs.take' {F : Hp} {L : List Addr} : ∀ {v : List V} {p : List Val} (n : Nat), VRs K mg F L v p → VRs K mg F L (v.take n) (p.take n)
  | _, _, _, .nil => by simp; exact .nil
  | _, _, 0, .cons a r => .nil
  | _, _, n + 1, .cons a r => .cons a (VRs.take' n r)
theorem fn_star (Fd : FunD K x qual params body scope dvs kws f fd) (Sc : FnScope N (ps ++ [pv]) scope)
    (hb : ∀ us rest : List Value, us.length = ps.length → bindArgs fd ⟨us ++ rest, []⟩ = (newTuple rest >>= fun t => pure (ps.zip us ++ [(pv, t)])))
    (h : BodyOk Pg w K mg base gd k f N qual scope body mb) : Cal Pg w K mg base gd (k + 1) f [] (starM ps.length (funM N.length mb)) := by
  obtain ⟨oc, od, dV, kV, doc, pm, an, cdv, ct, osl, rfl, lk, hcd, _, _⟩ := Fd.ex
  intro A outer s H us0 ws vs0 zs Q E hr hG e0 r0 rz hl h'
  obtain ⟨F, L, S, ds, wr, vr, q⟩ := h'
  have hz : zs = [] := by
    cases zs with
    | nil => rfl
    | cons z zs => cases rz; cases hl
  subst hz
  rw [List.append_nil] at vr
  unfold starM at q
  by_cases hn : ps.length ≤ ds.length
  · rw [if_pos hn] at q
    cases e1 : dats (ds.drop ps.length) with
    | none => simp only [e1] at q; exact q.elim
    | some pp =>
      simp only [e1] at q
      by_cases hsz : pp.length ≤ sizeLine
      · rw [if_pos hsz] at q
        have vl := vr.length
        have e2 : vs0 = vs0.take ps.length ++ vs0.drop ps.length := (List.take_append_drop _ _).symm
        rw [e2] at r0
        obtain ⟨u1, u2, eu, r1, r2⟩ := StX.vals_split r0
        subst eu
        have rr := dats_ok (vr.drop ps.length) e1
        have hn0 : H s.heap.objs.size = Option.none := e0.hok.fresh (Nat.le_refl _)
        have hl1 : u1.length = ps.length := by rw [← r1.length, List.length_take]; omega
        have hz2 : (vs0.drop ps.length).length ≤ sizeLine := by rw [rr.length]; exact hsz
        have hl2 : u2.length ≤ sizeLine := by rw [← r2.length]; exact hz2
        refine StX.run_bnd lk hcd Sc hr e0 (G := fun xs H2 => ∃ p, H p = Option.none ∧ xs = vs0.take ps.length ++ [V.ref p] ∧ H2 = upd H p (.tup (vs0.drop ps.length))) (fun A' Ex Q' h => ?_) fun s2 H2 xs ⟨p, hp, ex, eH⟩ hr' => ?_
        · show wpAny _ _ (bindArgs _ ⟨u1 ++ u2, []⟩) _ _ _
          rw [hb u1 u2 hl1]
          refine wpAny_bind (wpAny_newTuple (wpAny_pure ?_) hl2)
          have new : ObjOk Pg w (upd H s.heap.objs.size (.tup (vs0.drop ps.length))) (s.heap.push ({ cls := .type "tuple", data := .seq u2.toArray } : Obj)) s.heap.objs.size (.tup (vs0.drop ps.length)) := ⟨hz2, u2, r2, ⟨_, Heap.get?_push_size _ rfl, rfl, _, rfl⟩⟩
          have un := StX.un_laid (fs := frs outer) (s := s) (o := ({ cls := .type "tuple", data := .seq u2.toArray } : Obj)) (u := .tup (vs0.drop ps.length)) hn0
          have z := h _ _ (vs0.take ps.length ++ [V.ref s.heap.objs.size]) (u1 ++ [Value.ref s.heap.objs.size]) (StX.env0_laid e0 new) un rfl (fun e s' => StX.cxUp outer s H _ _ E e s' un (fun b o q => Heap.get?_push_of_some _ q) rfl) (r1.append (.cons rfl .nil))
            (by rw [List.length_append, List.length_append, r1.length, hl1] <;> rfl) ⟨_, hn0, rfl, rfl⟩
          rw [List.zip_append hl1.symm] at z
          exact z
        · subst ex eH
          have wr2 := wr.alloc (o := .tup (vs0.drop ps.length)) hp
          have vr2 : VRs K mg (upd F p (.tup (vs0.drop ps.length))) L (vs0.take ps.length ++ [V.ref p]) (ds.take ps.length ++ [.dat (.tup pp)]) :=
            ((vr.take' ps.length).mono (same_upd (wr.fnone hp)) (List.prefix_refl _)).append (.cons (.dat (.tup (SqT.of upd_same) (rr.mono (same_upd (wr.fnone hp))))) .nil)
          exact ⟨_, h cdv A outer s2 _ E hr' hG (takes_of rfl rfl rfl rfl) (passes_of (X := cxOf (L2.CX Pg w) Pg w K mg base N qual scope f cdv A outer s2 _ E) rfl), body_of wr2 vr2 (Pv.from (.alloc wr hp) q)⟩
      · rw [if_neg hsz] at q
        exact q.elim
  · rw [if_neg hn] at q
    exact q.elim
end
/-! ### C.m(..), m a classmethod -/
def eCm (c : Nat) (m : Fm) (a : Ar) : Ex := fun ρ S => (a ρ S).bind fun ds S1 => m (.dat (.cls c) :: ds) S1
section
variable {X : Cx} {W : WX} {gd : Bool} {k c : Nat} {C p g : Addr} {mc : Value} {m : Fm} {o e : Expr} {es : List Expr} {mn : Str} {pos apos : Pos} {a : Ar} {pl : Sem Bool}
theorem run_cmD {pins : List (Addr × Obj)} {s : Shared} {σ : L2.St} {H F : Hp} {L : List Addr} {S : Store} {q0 : Addr} {Q : VK} {us : List Value} {vs : List V} {ds : List Val} (cal : Cal X.prog X.w X.K X.mg X.base gd k g [] m) (hr : Room k X.A) (hG : GdOk gd X.A) (tk : Takes X W) (I : Inv X ((q0, PySem.W.methodObj (.ref g) (.ref C)) :: pins) σ H s)
    (wr : WR X.K X.mg F L H S) (r : Vals vs us) (vr : VRs X.K X.mg F L (.ref C :: vs) ds) (h : Pv X.K X.mg F L H (m ds S) Q fun c d H' => W c d σ H') : wpAny (model X.prog X.w) X.A (call (.ref q0) us) (EP X pins σ Q) X.xe s := by
  have z : wpAny (model X.prog X.w) X.A (call (.ref q0) us) (EP X ((q0, PySem.W.methodObj (.ref g) (.ref C)) :: pins) σ Q) X.xe s := by
    refine wpAny_call (PySem.W.method_call (pin_at I) ?_)
    refine codeAny_mono (run_cal (us := .ref C :: us) (ws := []) (vs := .ref C :: vs) (zs := []) cal (sub_here hr) hG tk I wr (.cons rfl r) .nil rfl (by rw [List.append_nil]; exact vr) h) fun r s' hq => ?_
    cases r with
    | error e => exact hq
    | ok fl =>
      cases fl with
      | ret u => exact hq
      | next => exact False.elim hq
      | brk => exact False.elim hq
      | cont => exact False.elim hq
  exact thn z fun _ _ y => unpinE y
theorem de_cmeth {x : Str} {px : Pos} (hg : Gl X x) (hx : cn c = x) (hm : X.mg x = some (.ref C)) (r : CRead X.K C mc) (cm : CMet X.K C mc mn p g) (cal : Cal X.prog X.w X.K X.mg X.base gd k g [] m) (hr : Room k X.A) (hG : GdOk gd X.A) (tk : Takes X W) (ha : dA X W (e :: es) a)
    (hdb : (x == ("__debug__" : Str)) = false := by decide)
    (hst : starEach (e :: es) X.env = (false, eval e X.env) :: starEach es X.env := by rfl) (hpl : (backTo pos (starEach es X.env)).any (·.1) = false := by rfl)
    (ht : eval (.Call (.Attribute (.Name x px) mn apos) (e :: es) [] pos) X.env = (do
      let ov ← eval (.Name x px) X.env
      standAt apos.atName
      let (f, first) ← holding [ov] (getMethod ov mn pl)
      callWith pos f first (backTo pos (starEach (e :: es) X.env)) (backToKw pos (keywordEach [] X.env))) := by rfl) :
    dE X W (.Call (.Attribute (.Name x px) mn apos) (e :: es) [] pos) (eCm c m a) := by
  refine ⟨fun pins s σ H Q I h => ?_⟩
  obtain ⟨F, L, S, ρ, wr, er, q⟩ := h
  refine PySem.W.methodCall_KW (pl := pl) (ld_glob I hg hm ?_ hdb) ht
  refine getmethcm_ok I r cm fun s2 I2 => ?_
  refine callwith_cm I2 (base_none I (Nat.le_refl _)) cm.fi (thn (ha.run pos _ s2 σ H (fun vs H1 => ∃ F1 L1 S1 ds, WR X.K X.mg F1 L1 H1 S1 ∧ VRs X.K X.mg F1 L1 (.ref C :: vs) ds ∧ Pv X.K X.mg F1 L1 H1 (m ds S1) Q (fun c d H' => W c d σ H')) I2
    (ar_then wr er q fun ds S1 vs F1 L1 H1 _ x1 wr1 er1 vr1 q1 => ⟨F1, L1, S1, _, wr1, .cons (.dat (.cls (by rw [hx]; exact hm))) vr1, q1⟩)) fun us s3 ⟨vs, H2, I3, rv, F1, L1, S1, ds, wr1, vr1, q1⟩ => ⟨⟨pin_at I3, I3.kIn⟩, ?_⟩) hst hpl
  exact run_cmD cal hr hG tk I3 wr1 rv vr1 q1
theorem de_cmeth0 {x : Str} {px : Pos} (hg : Gl X x) (hx : cn c = x) (hm : X.mg x = some (.ref C)) (r : CRead X.K C mc) (cm : CMet X.K C mc mn p g) (cal : Cal X.prog X.w X.K X.mg X.base gd k g [] m) (hr : Room k X.A) (hG : GdOk gd X.A) (tk : Takes X W)
    (hdb : (x == ("__debug__" : Str)) = false := by decide)
    (ht : eval (.Call (.Attribute (.Name x px) mn apos) [] [] pos) X.env = (do
      let ov ← eval (.Name x px) X.env
      standAt apos.atName
      let (f, first) ← holding [ov] (getMethod ov mn pl)
      callWith pos f first (backTo pos (starEach [] X.env)) (backToKw pos (keywordEach [] X.env))) := by rfl) :
    dE X W (.Call (.Attribute (.Name x px) mn apos) [] [] pos) (eCm c m aNil) := by
  refine ⟨fun pins s σ H Q I h => ?_⟩
  obtain ⟨F, L, S, ρ, wr, er, q⟩ := h
  refine PySem.W.methodCall_KW (pl := pl) (ld_glob I hg hm ?_ hdb) ht
  refine getmethcm_ok I r cm fun s2 I2 => ?_
  exact PySem.W.callWith_M0 (K := X.K) ⟨pin_at I2, I2.kIn⟩ cm.fi (run_cmD cal hr hG tk I2 wr .nil (.cons (.dat (.cls (by rw [hx]; exact hm))) .nil) q)
/-! ### the call of a class that a slot holds -/
def eCallV (i c : Nat) (g : Fms) (a : Ar) : Ex := fun ρ S => match ρ[i]? with
  | some (some (.dat (.cls c'))) => if c' = c then (a ρ S).bind fun ds S1 => g ds S1 else .bad
  | _ => .bad
theorem de_callV {i : Nat} {x : Str} {px : Pos} {gm : Fms} (hc : CallM X W (.ref C) gm) (hm : X.mg (cn c) = some (.ref C)) (hk : PySem.W.keepIn X.K (.ref C) = true) (hv : PE X (.Name x px) (tVar i)) (ha : dA X W (e :: es) a)
    (he : starEach (e :: es) X.env = (false, eval e X.env) :: starEach es X.env := by rfl) (hpl : (backTo pos (starEach es X.env)).any (·.1) = false := by rfl) :
    dE X W (.Call (.Name x px) (e :: es) [] pos) (eCallV i c gm a) := by
  refine ⟨fun pins s σ H Q I h => ?_⟩
  obtain ⟨F, L, S, ρ, wr, er, q⟩ := h
  unfold eCallV at q
  split at q
  · rename_i c' e1
    split at q
    · rename_i hcc
      subst hcc
      obtain ⟨v, e2, vr⟩ := er.get i _ e1
      cases vr with
      | dat rr =>
        cases rr with
        | cls hC =>
          rw [hm] at hC
          cases hC
          refine wpAny_Call_Name_kw (thn (hv.run pins s σ H (fun v H1 => v = .ref C ∧ H1 = H) I ⟨.ref C, e2, rfl, rfl⟩) fun u s1 ⟨v, H1, I1, r1, ev, eH⟩ => ?_)
          subst ev eH
          cases r1
          refine PySem.W.callWith_K (h₀ := X.base) I.ok.mod.kin hk (thn (ha.run pos pins s1 σ _ (fun vs H1 => ∃ F1 L1 S1 ds, WR X.K X.mg F1 L1 H1 S1 ∧ VRs X.K X.mg F1 L1 vs ds ∧ Pv X.K X.mg F1 L1 H1 (gm ds S1) Q (fun c d H' => W c d σ H')) I1
            (ar_then wr er q fun ds S1 vs F1 L1 H1 _ x1 wr1 er1 vr1 q1 => ⟨F1, L1, S1, ds, wr1, vr1, q1⟩)) fun us s1 ⟨vs, H1, I1, r1, F1, L1, S1, ds, wr1, vr1, q1⟩ => ⟨I1.kIn, ?_⟩) he hpl
          exact hc pins s1 σ H1 F1 L1 S1 vs us ds Q I1 wr1 r1 vr1 q1
    · exact q.elim
  · exact q.elim
end
end DL
set_option Elab.async false
set_option linter.all false
set_option maxRecDepth 100000
set_option maxHeartbeats 4000000
namespace DL
open PySem PySem.Spec PyProof.Rows L2 ClX
/-! ### a law's end: its def's meaning gives True for every script -/
theorem ints_reps {K : PySem.W.Frag} {mg : Str → Option Value} {F : Hp} : ∀ ns : List Int, Reps K mg F (ns.map V.int) (ns.map P.int)
  | [] => .nil
  | n :: ns => .cons (.int n) (ints_reps ns)
section
variable {Pr : Program} {w : World} {K : PySem.W.Frag} {mg mb : Str → Option Value} {k : Nat} {fa a : Addr} {m : Fm} {s : Shared} {vs : List Value} {ns : List Int}
/-- from a heap in which at most the script is tracked, as an object that stays -/
theorem law_from (KX : K.In s.heap) (hns : s.heap.Ns mainGlobals mg) (hb : s.heap.Ns builtinsNs mb) (hbb : ∀ x : Str, x ≠ "__name__" → mb x = bootBuiltins x) (hlim : s.heap.NoLimit) (hg : s.gens = #[])
    (ha : s.heap.get? a = some { cls := .type "list", data := .seq vs.toArray }) (hr : Room k callerA) (F : ∀ base : Heap, Cal Pr w K mg base true k fa [] m) (hm : ∃ S, m [.dat (.lst (ns.map P.int))] [] = .ok (.dat (.bl true)) S)
    (H : Hp) (hO : Only H) (hS : SqL K H a (ns.map V.int)) (hok : HOk Pr w H s.heap) (hA : ∀ b, H b ≠ none → b = a) (hK : H a ≠ none → K.lookup a = none) :
    codeAny (model Pr w) callerA (.call (.ref fa) ⟨[.ref a], []⟩) (fun r s' => r = .ok (.ret (.bool true)) ∧ OldK s.heap s'.heap ∧ s'.os = s.os ∧ AllBare s'.gens) s := by
  -- a dict is not the script
  have dicts : ∀ {b : Addr} {mm : Str → Option Value}, s.heap.Ns b mm → (hidT s.heap H).Ns b mm := by
    rintro b mm ⟨o, es, ep, e, d, r⟩
    refine ⟨o, es, ep, hidT_get e ?_, d, r⟩
    by_cases hb : H b = none
    · exact hb
    · exfalso
      rw [hA b hb, ha] at e
      cases e
      cases d
  have own : K.In (hidT s.heap H) := by
    intro b o e
    refine hidT_get (KX b o e) ?_
    by_cases hb : H b = none
    · exact hb
    · exfalso
      have hba := hA b hb
      subst hba
      rw [hK hb] at e
      cases e
  obtain ⟨mc, lim1, lim2⟩ := hlim
  have md : Mod K mg (hidT s.heap H) := ⟨own, dicts hns, ⟨mb, dicts hb, hbb⟩, ⟨mc, dicts lim1, lim2⟩⟩
  have e0 : Env0 Pr w K mg (hidT s.heap H) callerA [] s H := ⟨rfl, md, fun _ _ e => of_hidT e, Nat.le_of_eq (hidT_size _ _), trivial, fun _ hb => absurd hb List.not_mem_nil, hok, .of_eq hg⟩
  obtain ⟨S, hm⟩ := hm
  have wr : WR K mg H [] H [] := ⟨fun _ _ e => .inl e, fun _ h => absurd h List.not_mem_nil, rfl, List.nodup_nil, fun n _ _ e => by simp at e⟩
  have sp : spA K mg m ([V.ref a] ++ []) H (fun v _ => v = .bl true) (fun _ _ _ => False) := ⟨H, [], [], [.dat (.lst (ns.map P.int))], wr, .cons (.dat (.lst hS (ints_reps ns))) .nil, by
    rw [hm]
    intro v F' L' H' x wr' vr
    cases vr with
    | dat r => exact rep_bl r⟩
  refine codeAny_mono (F _ callerA [] s H [.ref a] [] [.ref a] [] _ _ hr (fun _ => rfl) e0 (.cons rfl .nil) .nil rfl sp) fun r s' h => ?_
  cases r with
  | error e =>
    obtain ⟨_, _, _, _, _, _, _, _, _, _, _, _, z⟩ := h
    exact z.elim
  | ok fl =>
    cases fl with
    | next => exact False.elim h
    | brk => exact False.elim h
    | cont => exact False.elim h
    | ret u =>
      obtain ⟨v, H', os, bare, un, hok', r', q⟩ := h
      have q' : v = .bl true := q
      subst q'
      obtain rfl : u = Value.bool true := r'
      refine ⟨rfl, OldK.of_keep fun b o e => ?_, os, bare⟩
      rcases hO b with z | ⟨ob, xs, z⟩
      · exact un.keep b o e z (fun q => absurd q List.not_mem_nil) (by simp)
      · have g1 := (hok b _ z).1
        have g2 := (hok' b _ (un.frzs b ob _ z)).1
        rw [e] at g1
        cases g1
        exact g2
theorem law_end (KX : K.In s.heap) (hns : s.heap.Ns mainGlobals mg) (hb : s.heap.Ns builtinsNs mb) (hbb : ∀ x : Str, x ≠ "__name__" → mb x = bootBuiltins x) (hlim : s.heap.NoLimit) (hg : s.gens = #[])
    (ha : s.heap.get? a = some { cls := .type "list", data := .seq vs.toArray }) (hi : IntsAre vs ns) (hl : ns.length ≤ sizeLine) (hr : Room k callerA) (F : ∀ base : Heap, Cal Pr w K mg base true k fa [] m) (hm : ∃ S, m [.dat (.lst (ns.map P.int))] [] = .ok (.dat (.bl true)) S) :
    codeAny (model Pr w) callerA (.call (.ref fa) ⟨[.ref a], []⟩) (fun r s' => r = .ok (.ret (.bool true)) ∧ OldK s.heap s'.heap ∧ s'.os = s.os ∧ AllBare s'.gens) s := by
  have go := fun H hO hS hok hA hK => law_from (Pr := Pr) (w := w) KX hns hb hbb hlim hg ha hr F hm H hO hS hok hA hK
  have rv := vals_ints hi
  cases hk : K.lookup a with
  | some o =>
    have e := KX a o hk
    rw [ha] at e
    cases e
    exact go (fun _ => none) (fun _ => .inl rfl) (.inr ⟨_, vs.toArray, _, hk, rfl, rfl, rfl, by rw [List.size_toArray, hi.length]; exact hl, by simpa using rv⟩) (fun b u z => by simp at z) (fun b z => absurd rfl z) (fun z => absurd rfl z)
  | none =>
    have at_ : ∀ b u, (if b = a then some (HO.frz { cls := .type "list", data := .seq vs.toArray } (.lst (ns.map V.int))) else none) = some u → b = a ∧ u = .frz { cls := .type "list", data := .seq vs.toArray } (.lst (ns.map V.int)) := by
      intro b u z
      split at z
      · rename_i hb
        cases z
        exact ⟨hb, rfl⟩
      · cases z
    refine go (fun b => if b = a then some (.frz { cls := .type "list", data := .seq vs.toArray } (.lst (ns.map V.int))) else none) (fun b => ?_) (.inl (.inr ⟨{ cls := .type "list", data := .seq vs.toArray }, if_pos rfl⟩)) (fun b u z => ?_) (fun b z => ?_) fun _ => hk
    · by_cases hb : b = a
      · exact .inr ⟨_, _, if_pos hb⟩
      · exact .inl (if_neg hb)
    · obtain ⟨rfl, rfl⟩ := at_ b u z
      exact ⟨ha, by rw [List.length_map]; exact hl, vs, _, rv, ha⟩
    · by_cases hb : b = a
      · exact hb
      · exact absurd (if_neg hb) z
end
theorem walk_end {l : PySem.W.OpenLaw} {n k : Nat} {q : Program} {loose : List Str} {XP : (Str → Option Value) → Heap → Prop} {YP : World → Heap → Prop} {d : DefRec} {K : Params → PySem.W.Frag} {m : Fm}
    (hn : l.most = some n) (hn2 : n ≤ sizeLine) (hdf : d.params.defaults = []) (hr : Room k callerA) (hY : ∀ (w : World) (h : Heap), YP w h → (K w.params).In h)
    (F : ∀ (w : World) (mg : Str → Option Value) (fa : Addr) (h : Heap), (K w.params).In h → h.Ns mainGlobals mg → mg d.name = some (.ref fa) → ∀ base : Heap, Cal l.prog w (K w.params) mg base true k fa [] m)
    (hm : ∀ ns : List Int, ns.length ≤ n → ∃ S, m [.dat (.lst (ns.map P.int))] [] = .ok (.dat (.bl true)) S) : PySem.W.WalkO q loose XP YP l.row.toRowW d [] (fun f vs => PySem.call f vs) := by
  refine Att.attach_call hn hdf fun w s₀ s₁ mg mb fa o pm cd doc a vs ns G Y ho hd hcd hmg hobj hints hlen hg => ?_
  have KX := hY w _ Y
  exact law_end KX G.T.g G.T.b G.T.builtins G.T.nolimit hg hobj hints (Nat.le_trans hlen hn2) hr (F w mg fa _ KX G.T.g hmg) (hm ns hlen)

/-! ### what a body's derivation takes of the defs below -/
section
variable (Pr : Program) (w : World) (K : PySem.W.Frag) (mg : Str → Option Value) (base : Heap)
/-- a def of the module -/
structure KFn (gd : Bool) (k : Nat) (x : Str) (ks : List Str) (m : Fm) : Prop where
  ex : ∃ f, mg x = some (.ref f) ∧ PySem.W.keepIn K (.ref f) = true ∧ Cal Pr w K mg base gd k f ks m
/-- a class, by its __init__ -/
structure KMk (gd : Bool) (k : Nat) (c : Nat) (ks : List Str) (m : Fm) : Prop where
  ex : ∃ C f, mg (cn c) = some (.ref C) ∧ Mk K C f ∧ Cal Pr w K mg base gd k f ks m
/-- a method -/
structure KMt (gd : Bool) (k : Nat) (c : Nat) (x : Str) (ks : List Str) (m : Fm) : Prop where
  ex : ∃ C f, mg (cn c) = some (.ref C) ∧ Cls K C ∧ Meth K C x f ∧ Cal Pr w K mg base gd k f ks m
/-- a property -/
structure KPr (gd : Bool) (k : Nat) (c : Nat) (x : Str) (m : Fm) : Prop where
  ex : ∃ C p f, mg (cn c) = some (.ref C) ∧ Cls K C ∧ PropOf K C x p f ∧ Cal Pr w K mg base gd k f [] m
/-- a classmethod -/
structure KCm (gd : Bool) (k : Nat) (c : Nat) (x : Str) (m : Fm) : Prop where
  ex : ∃ C mc p f, mg (cn c) = some (.ref C) ∧ CRead K C mc ∧ CMet K C mc x p f ∧ Cal Pr w K mg base gd k f [] m
/-- an operator's method, an operator's reflected method -/
structure KOp (gd : Bool) (k : Nat) (c : Nat) (nm : String) (m : Fm) : Prop where
  ex : ∃ C f, mg (cn c) = some (.ref C) ∧ NumC K C nm f ∧ PySem.W.subIn K (.type "int") (.ref C) = some false ∧ PySem.W.subIn K (.ref C) (.type "int") = some false ∧ Cal Pr w K mg base gd k f [] m
structure KRo (gd : Bool) (k : Nat) (c : Nat) (nm : String) (m : Fm) : Prop where
  ex : ∃ C f, mg (cn c) = some (.ref C) ∧ NumR K C nm f ∧ Cal Pr w K mg base gd k f [] m
/-- a special method of one value (__neg__, __str__, __repr__) -/
structure KSp (gd : Bool) (k : Nat) (c : Nat) (x : Str) (m : Fm) : Prop where
  ex : ∃ C f, mg (cn c) = some (.ref C) ∧ PySem.W.findIn K (.ref C) x = some (some (.ref f)) ∧ PySem.W.isFn K (.ref f) = true ∧ Cal Pr w K mg base gd k f [] m
/-- a field of a class -/
structure KFd (c : Nat) (x : Str) : Prop where
  ex : ∃ C, mg (cn c) = some (.ref C) ∧ Cls K C ∧ NoAttr K C x
end
theorem takes_no {X : Cx} : Takes X Wno := fun _ _ ⟨_, _, _, _, _, _, _, _, _, _, _, _, _, _, _, _, z⟩ => z.elim
/-- left alone: two of the class, or one and an int at the right -/
def gNumL (c : Nat) (ml : Fm) (base : G2) : G2 := fun x y S => match tgOf S x, tgOf S y with
  | some (.o c1), some (.o c2) => if c1 = c ∧ c2 = c then ml [x, y] S else .bad
  | some (.o c1), some (.b n) => if c1 = c ∧ n = "int" then ml [x, y] S else .bad
  | some (.b _), some (.o _) => .bad
  | _, _ => base x y S
section
variable {X : Cx} {W : WX} {gd : Bool} {k c : Nat} {x : Str} {m mr : Fm} {e o : Expr} {es : List Expr} {a : Ar} {p pos apos : Pos} {pl : Sem Bool}
theorem om_numL {op : Operator} {nm id rid : String} {C fl : Addr} {base : G2} (hop : op.info.2 = nm) (hc : X.mg (cn c) = some (.ref C)) (nc : NumC X.K C nm fl) (ci : IntOp nm id rid)
    (s1 : PySem.W.subIn X.K (.type "int") (.ref C) = some false) (cl : Cal X.prog X.w X.K X.mg X.base gd k fl [] m) (hr : Room k X.A) (hG : GdOk gd X.A) (tk : Takes X W) (hb : OpM X W (binaryOp op) base) : OpM X W (binaryOp op) (gNumL c m base) := by
  intro pins s σ H F L S x y v u dx dy Q I wr rx ry vx vy q
  unfold gNumL at q
  have KX := I.kIn
  have go : ∀ {f : Addr} {m : Fm} {us : List Value} {vs : List V} {ds : List Val}, Cal X.prog X.w X.K X.mg X.base gd k f [] m → Vals vs us → VRs X.K X.mg F L vs ds → Pv X.K X.mg F L H (m ds S) Q (fun c d H' => W c d σ H') →
      wpAny (model X.prog X.w) X.A (call (.ref f) us) (fun v s' => v ≠ .notImplemented ∧ EP X pins σ Q v s') X.xe s := fun {f m us vs ds} cf r vr q =>
    thn (run_cal0 cf (sub_here hr) hG tk I wr r vr q) fun v s' e => ⟨by obtain ⟨z, H', I', r', _⟩ := e; exact rel_notni r', e⟩
  split at q
  · rename_i c1 c2 h1 h2
    split at q
    · rename_i hcc
      obtain ⟨rfl, rfl⟩ := hcc
      obtain ⟨a, da, oa, rfl, Ja⟩ := inst_at I wr vx rx h1 hc
      obtain ⟨b, db, ob, rfl, Jb⟩ := inst_at I wr vy ry h2 hc
      exact binop_left hop Ja.type Jb.type (fills_own KX nc) (.inl rfl) (try_own KX Ja nc.at_ nc.fn (go cl (.cons rx (.cons ry .nil)) (.cons vx (.cons vy .nil)) q))
    · exact q.elim
  · rename_i c1 n h1 h2
    split at q
    · rename_i hcc
      obtain ⟨rfl, rfl⟩ := hcc
      obtain ⟨a, da, oa, rfl, Ja⟩ := inst_at I wr vx rx h1 hc
      obtain ⟨i, rfl⟩ := tgOf_int vy h2
      have ry2 := ry; obtain ⟨t, rfl⟩ := ry2
      refine binop_left hop Ja.type (tb := .type "int") (.of_pure rfl) (fills_own KX nc) (.inr (.inr ⟨by simp, .of_pure ci.fills, PySem.W.looks_subIn KX s1, slotpy_own KX nc, .of_pure rfl, _, .of_pure ci.rl⟩))
        (try_own KX Ja nc.at_ nc.fn (go cl (.cons rx (.cons ry .nil)) (.cons vx (.cons vy .nil)) q))
    · exact q.elim
  · exact q.elim
  · exact hb pins s σ H F L S x y v u dx dy Q I wr rx ry vx vy q
theorem xo_opL {op : Operator} {nm id rid : String} {base : G2} (h : KOp X.prog X.w X.K X.mg X.base gd k c nm m) (hop : op.info.2 = nm) (ci : IntOp nm id rid) (hr : Room k X.A) (hG : GdOk gd X.A) (tk : Takes X W) (hb : OpM X W (binaryOp op) base) : OpM X W (binaryOp op) (gNumL c m base) := by
  obtain ⟨C, f, hc, nc, s1, s2, cl⟩ := h.ex
  exact om_numL hop hc nc ci s1 cl hr hG tk hb
theorem xo_op {op : Operator} {nm id rid : String} {base : G2} (h : KOp X.prog X.w X.K X.mg X.base gd k c nm m) (h' : KRo X.prog X.w X.K X.mg X.base gd k c nm mr) (hop : op.info.2 = nm) (ci : IntOp nm id rid) (hr : Room k X.A) (hG : GdOk gd X.A) (tk : Takes X W) (hb : OpM X W (binaryOp op) base) : OpM X W (binaryOp op) (gNum c m mr base) := by
  obtain ⟨C, f, hc, nc, s1, s2, cl⟩ := h.ex
  obtain ⟨C', f', hc', nr, cr⟩ := h'.ex
  rw [hc] at hc'
  cases hc'
  exact om_num hop hc nc nr ci s1 s2 cl cr hr hG tk hb
theorem xu_neg (h : KSp X.prog X.w X.K X.mg X.base gd k c "__neg__" m) (hr : Room k X.A) (hG : GdOk gd X.A) (tk : Takes X W) : UnM X W (unaryOp .USub) (gNeg c m) := by
  obtain ⟨C, f, hc, hs, hf, cl⟩ := h.ex
  exact um_neg hc hs hf cl hr hG tk
theorem xe_fn (h : KFn X.prog X.w X.K X.mg X.base gd k x [] m) (hr : Room k X.A) (hG : GdOk gd X.A) (tk : Takes X W) (hg : Gl X x) (ha : dA X W (e :: es) a)
    (hdb : (x == ("__debug__" : Str)) = false := by decide) (he : starEach (e :: es) X.env = (false, eval e X.env) :: starEach es X.env := by rfl) (hpl : (backTo pos (starEach es X.env)).any (·.1) = false := by rfl) : dE X W (.Call (.Name x p) (e :: es) [] pos) (eCall m a) := by
  obtain ⟨f, hm, hk, cl⟩ := h.ex
  exact de_callR (callm_fn cl hr hG tk) hg hm hk ha hdb he hpl
theorem xe_fn0 (h : KFn X.prog X.w X.K X.mg X.base gd k x [] m) (hr : Room k X.A) (hG : GdOk gd X.A) (tk : Takes X W) (hg : Gl X x) (hdb : (x == ("__debug__" : Str)) = false := by decide) : dE X W (.Call (.Name x p) [] [] pos) (eCall m aNil) := by
  obtain ⟨f, hm, hk, cl⟩ := h.ex
  exact de_callR0 (callm_fn cl hr hG tk) hg hm hk hdb
theorem xe_mk (h : KMk X.prog X.w X.K X.mg X.base gd k c [] m) (hx : cn c = x) (hr : Room (k + 1) X.A) (hG : GdOk gd X.A) (tk : Takes X W) (hg : Gl X x) (ha : dA X W (e :: es) a)
    (hdb : (x == ("__debug__" : Str)) = false := by decide) (he : starEach (e :: es) X.env = (false, eval e X.env) :: starEach es X.env := by rfl) (hpl : (backTo pos (starEach es X.env)).any (·.1) = false := by rfl) : dE X W (.Call (.Name x p) (e :: es) [] pos) (eCall (mkM c m) a) := by
  obtain ⟨C, f, hm, M, cl⟩ := h.ex
  exact de_callR (callkm_mk hm M cl hr hG tk).pos hg (by rw [← hx]; exact hm) M.kp ha hdb he hpl
theorem xe_mkK {ks : List Str} {kws : List Keyword} {ak : Ar} (h : KMk X.prog X.w X.K X.mg X.base gd k c ks m) (hx : cn c = x) (hr : Room (k + 1) X.A) (hG : GdOk gd X.A) (tk : Takes X W) (hg : Gl X x) (hkw : dK X W kws ak) (hall : (backToKw pos (keywordEach kws X.env)).all (·.1.isSome) = true := by rfl) (hks : (backToKw pos (keywordEach kws X.env)).filterMap (·.1) = ks := by rfl)
    (hlen : kws.length = ks.length := by rfl) (hdb : (x == ("__debug__" : Str)) = false := by decide) (hpl : ((backTo pos (starEach [] X.env)).any (·.1) || (backToKw pos (keywordEach kws X.env)).any (·.1.isNone)) = false := by rfl) : dE X W (.Call (.Name x p) [] kws pos) (eCall (fun ds S => if ds.length = ks.length then mkM c m ds S else .bad) ak) := by
  obtain ⟨C, f, hm, M, cl⟩ := h.ex
  exact de_callRK0 (callkm_mk hm M cl hr hG tk) hg (by rw [← hx]; exact hm) M.kp hkw hall hks hlen hdb hpl
theorem xe_mkV {i : Nat} (h : KMk X.prog X.w X.K X.mg X.base gd k c [] m) (hr : Room (k + 1) X.A) (hG : GdOk gd X.A) (tk : Takes X W) (hv : PE X (.Name x p) (tVar i)) (ha : dA X W (e :: es) a)
    (he : starEach (e :: es) X.env = (false, eval e X.env) :: starEach es X.env := by rfl) (hpl : (backTo pos (starEach es X.env)).any (·.1) = false := by rfl) : dE X W (.Call (.Name x p) (e :: es) [] pos) (eCallV i c (mkM c m) a) := by
  obtain ⟨C, f, hm, M, cl⟩ := h.ex
  exact de_callV (callkm_mk hm M cl hr hG tk).pos hm M.kp hv ha he hpl
theorem xe_mt {mo : Ex} (h : KMt X.prog X.w X.K X.mg X.base gd k c x [] m) (hr : Room k X.A) (hG : GdOk gd X.A) (tk : Takes X W) (ho : dE X W o mo) (ha : dA X W (e :: es) a)
    (hst : starEach (e :: es) X.env = (false, eval e X.env) :: starEach es X.env := by rfl) (hpl : (backTo pos (starEach es X.env)).any (·.1) = false := by rfl)
    (ht : eval (.Call (.Attribute o x apos) (e :: es) [] pos) X.env = (do
      let ov ← eval o X.env
      standAt apos.atName
      let (f, first) ← holding [ov] (getMethod ov x pl)
      callWith pos f first (backTo pos (starEach (e :: es) X.env)) (backToKw pos (keywordEach [] X.env))) := by rfl) : dE X W (.Call (.Attribute o x apos) (e :: es) [] pos) (eMeth c m mo a) := by
  obtain ⟨C, f, hm, cls, M, cl⟩ := h.ex
  exact de_meth hm cls M cl hr hG tk ho ha hst hpl ht
theorem xe_mt0 {mo : Ex} (h : KMt X.prog X.w X.K X.mg X.base gd k c x [] m) (hr : Room k X.A) (hG : GdOk gd X.A) (tk : Takes X W) (ho : dE X W o mo)
    (ht : eval (.Call (.Attribute o x apos) [] [] pos) X.env = (do
      let ov ← eval o X.env
      standAt apos.atName
      let (f, first) ← holding [ov] (getMethod ov x pl)
      callWith pos f first (backTo pos (starEach [] X.env)) (backToKw pos (keywordEach [] X.env))) := by rfl) : dE X W (.Call (.Attribute o x apos) [] [] pos) (eMeth c m mo aNil) := by
  obtain ⟨C, f, hm, cls, M, cl⟩ := h.ex
  exact de_meth0 hm cls M cl hr hG tk ho ht
theorem xe_mtK {mo : Ex} {ks : List Str} {kws : List Keyword} {ak : Ar} (h : KMt X.prog X.w X.K X.mg X.base gd k c x ks m) (hr : Room k X.A) (hG : GdOk gd X.A) (tk : Takes X W) (ho : dE X W o mo) (hkw : dK X W kws ak)
    (hall : (backToKw pos (keywordEach kws X.env)).all (·.1.isSome) = true := by rfl) (hks : (backToKw pos (keywordEach kws X.env)).filterMap (·.1) = ks := by rfl) (hpl : ((backTo pos (starEach [] X.env)).any (·.1) || (backToKw pos (keywordEach kws X.env)).any (·.1.isNone)) = false := by rfl)
    (ht : eval (.Call (.Attribute o x apos) [] kws pos) X.env = (do
      let ov ← eval o X.env
      standAt apos.atName
      let (f, first) ← holding [ov] (getMethod ov x pl)
      callWith pos f first (backTo pos (starEach [] X.env)) (backToKw pos (keywordEach kws X.env))) := by rfl) : dE X W (.Call (.Attribute o x apos) [] kws pos) (eMeth c (fun ds S => if ds.length = ks.length + 1 then m ds S else .bad) mo ak) := by
  obtain ⟨C, f, hm, cls, M, cl⟩ := h.ex
  exact de_methK0 hm cls M cl hr hG tk ho hkw hall hks hpl ht
theorem xe_pr {mo : Ex} (h : KPr X.prog X.w X.K X.mg X.base gd k c x m) (hr : Room (k + 1) X.A) (hG : GdOk gd X.A) (ho : dE X W o mo) (hab : attributeBase o x X.env (eval o X.env) = eval o X.env := by rfl) : dE X W (.Attribute o x pos) (eProp c m mo) := by
  obtain ⟨C, pp, f, hm, cls, M, cl⟩ := h.ex
  exact de_prop hm cls M cl hr hG ho hab
theorem xe_cm {y : Str} (h : KCm X.prog X.w X.K X.mg X.base gd k c y m) (hx : cn c = x) (hr : Room k X.A) (hG : GdOk gd X.A) (tk : Takes X W) (hg : Gl X x) (ha : dA X W (e :: es) a)
    (hdb : (x == ("__debug__" : Str)) = false := by decide)
    (hst : starEach (e :: es) X.env = (false, eval e X.env) :: starEach es X.env := by rfl) (hpl : (backTo pos (starEach es X.env)).any (·.1) = false := by rfl)
    (ht : eval (.Call (.Attribute (.Name x p) y apos) (e :: es) [] pos) X.env = (do
      let ov ← eval (.Name x p) X.env
      standAt apos.atName
      let (f, first) ← holding [ov] (getMethod ov y pl)
      callWith pos f first (backTo pos (starEach (e :: es) X.env)) (backToKw pos (keywordEach [] X.env))) := by rfl) : dE X W (.Call (.Attribute (.Name x p) y apos) (e :: es) [] pos) (eCm c m a) := by
  obtain ⟨C, mc, pp, f, hm, r, M, cl⟩ := h.ex
  exact de_cmeth hg hx (by rw [← hx]; exact hm) r M cl hr hG tk ha hdb hst hpl ht
theorem xe_cm0 {y : Str} (h : KCm X.prog X.w X.K X.mg X.base gd k c y m) (hx : cn c = x) (hr : Room k X.A) (hG : GdOk gd X.A) (tk : Takes X W) (hg : Gl X x)
    (hdb : (x == ("__debug__" : Str)) = false := by decide)
    (ht : eval (.Call (.Attribute (.Name x p) y apos) [] [] pos) X.env = (do
      let ov ← eval (.Name x p) X.env
      standAt apos.atName
      let (f, first) ← holding [ov] (getMethod ov y pl)
      callWith pos f first (backTo pos (starEach [] X.env)) (backToKw pos (keywordEach [] X.env))) := by rfl) : dE X W (.Call (.Attribute (.Name x p) y apos) [] [] pos) (eCm c m aNil) := by
  obtain ⟨C, mc, pp, f, hm, r, M, cl⟩ := h.ex
  exact de_cmeth0 hg hx (by rw [← hx]; exact hm) r M cl hr hG tk hdb ht
theorem xe_fd {f : Str} {i : Nat} {mo : Ex} (h : KFd X.K X.mg c f) (ho : dE X W o mo) (hb : attributeBase o f X.env (eval o X.env) = eval o X.env := by rfl) : dE X W (.Attribute o f pos) (eFld c f i mo) := by
  obtain ⟨C, hm, cl, _⟩ := h.ex
  exact de_fld hm cl ho hb
theorem xs_fd {f : Str} {mo me : Ex} (h : KFd X.K X.mg c f) (ho : dE X W o mo) (he : dE X W e me) (hs : swapsWith e (some (.Attribute o f apos)) pos.line X.env = pure false := by rfl) : dS X W (.Assign [.Attribute o f apos] e pos) (sFldM c f mo me) := by
  obtain ⟨C, hm, cl, nf⟩ := h.ex
  exact ds_fld hm cl nf ho he hs
theorem xm_str (h : KSp X.prog X.w X.K X.mg X.base gd k c "__str__" m) (dg : DigF X.K) (hr : Room (k + 2) X.A) (hG : GdOk gd X.A) : CallM X W (.type "str") (strM c m) := by
  obtain ⟨C, f, hc, hs, hf, cl⟩ := h.ex
  exact cm_str dg hc hs hf cl hr hG
theorem xm_repr (h : KSp X.prog X.w X.K X.mg X.base false k c "__repr__" m) (dg : DigF X.K) (hr : Room (k + 2) X.A) (hg : GdOk true X.A) : CallM X W (.builtin "repr") (reprM c m (rpO c m rpB)) := by
  obtain ⟨C, f, hc, hs, hf, cl⟩ := h.ex
  exact cm_repr dg hc hs hf cl hr .no hg (rp_own hc hs hf cl (rp_base dg k))
end
end DL
set_option Elab.async false
set_option linter.all false
set_option maxRecDepth 100000
set_option maxHeartbeats 4000000
namespace DL
open PySem PySem.Spec PyProof.Rows L2 ClX
section
variable {Pg : Program} {w : World} {K : PySem.W.Frag} {mg : Str → Option Value} {base : Heap} {x qual : Str} {params : Arguments} {body : List Stmt} {scope : Scope} {dvs : List V} {f : Addr} {fd : FuncData} {gd : Bool} {k n : Nat} {ps ks : List Str} {m m1 m2 : Fm} {ord : List Nat}
/-- keywords, some parameters by their defaults -/
theorem kwb_d (F : FunD K x qual params body scope dvs [] f fd) (hd : dvs ≠ [])
    (h : ∀ (T : Addr) (kV doc pm : Value) (an : Option Addr) (cdv ct : Value) (us its ws : List Value), us.length = n → its.length = dvs.length → ws.length = ks.length →
      ∃ k, bindArgs (PySem.W.fnOf x qual params body scope (.ref T) kV doc pm an cdv ct) ⟨us, ks.zip ws⟩ = seqItems? (.ref T) >>= k ∧ k (some its.toArray) = pure (ps.zip (pick ord ((us ++ ws) ++ its)))) :
    ∃ dsV, Vals dvs dsV ∧ ∀ (s : Shared) (us ws : List Value), K.In s.heap → us.length = n → ws.length = ks.length → BindsTo s fd ⟨us, ks.zip ws⟩ (ps.zip (pick ord ((us ++ ws) ++ dsV))) := by
  obtain ⟨oc, od, dV, kV, doc, pm, an, cdv, ct, osl, rfl, lk, hcd, hD, hK⟩ := F.ex
  rcases hD with ⟨e, _⟩ | ⟨_, T, o, its, m, rfl, lT, oT, rT⟩
  · exact absurd e hd
  · refine ⟨its, rT, fun s us ws X l1 l2 => ?_⟩
    obtain ⟨k, e1, e2⟩ := h T kV doc pm an cdv ct us its ws l1 rT.length.symm l2
    refine BindsTo.of_looks fun M => ?_
    rw [e1]
    exact looks_items X lT oT (.of_pure e2)
theorem kwb_n (F : FunD K x qual params body scope [] [] f fd)
    (h : ∀ (kV doc pm : Value) (an : Option Addr) (cdv ct : Value) (us ws : List Value), us.length = n → ws.length = ks.length → bindArgs (PySem.W.fnOf x qual params body scope .none kV doc pm an cdv ct) ⟨us, ks.zip ws⟩ = pure (ps.zip (pick ord ((us ++ ws) ++ [])))) :
    ∀ (s : Shared) (us ws : List Value), K.In s.heap → us.length = n → ws.length = ks.length → BindsTo s fd ⟨us, ks.zip ws⟩ (ps.zip (pick ord ((us ++ ws) ++ []))) := by
  obtain ⟨oc, od, dV, kV, doc, pm, an, cdv, ct, osl, rfl, lk, hcd, hD, hK⟩ := F.ex
  intro s us ws X l1 l2
  rcases hD with ⟨_, rfl⟩ | ⟨e, _⟩
  · exact .of_eq (h kV doc pm an cdv ct us ws l1 l2)
  · exact absurd rfl e
/-- by the number of the values -/
def lenM2 (n : Nat) (m1 m2 : Fm) : Fm := fun ds S => if ds.length = n then m1 ds S else m2 ds S
theorem Cal.len (n : Nat) (c1 : Cal Pg w K mg base gd k f ks m1) (c2 : Cal Pg w K mg base gd k f ks m2) : Cal Pg w K mg base gd k f ks (lenM2 n m1 m2) := by
  intro A outer s H us ws vs zs Q E hr hG e0 r rz hl ⟨F, L, S, ds, wr, vr, q⟩
  unfold lenM2 at q
  by_cases h : ds.length = n
  · rw [if_pos h] at q
    exact c1 A outer s H us ws vs zs Q E hr hG e0 r rz hl ⟨F, L, S, ds, wr, vr, q⟩
  · rw [if_neg h] at q
    exact c2 A outer s H us ws vs zs Q E hr hG e0 r rz hl ⟨F, L, S, ds, wr, vr, q⟩
theorem Cal.gd0 (c : Cal Pg w K mg base false k f ks m) : Cal Pg w K mg base gd k f ks m := fun A outer s H us ws vs zs Q E hr hG e0 r rz hl sp => c A outer s H us ws vs zs Q E hr .no e0 r rz hl sp
end
/-- a def's text in K -/
abbrev TxD (K : PySem.W.Frag) (x qual : Str) (st : Stmt) (dvs : List V) (f : Addr) : Prop := ∃ fd, FunD K x qual (defArgs st) (defBody st) (defScope st) dvs [] f fd
theorem txd {K : PySem.W.Frag} {x qual : Str} {st : Stmt} {f : Addr} {oc : Value} {od an : Option Addr} {osl : Array (Option Value)} {kV doc pm cdv ct : Value} (l : K.lookup f = some ⟨oc, od, .func (PySem.W.fnOf x qual (defArgs st) (defBody st) (defScope st) .none kV doc pm an cdv ct), osl⟩)
    (c : PySem.W.codeIn K cdv qual = true) (k : PySem.W.keepIn K (.ref f) = true) : TxD K x qual st [] f :=
  ⟨_, ⟨⟨oc, od, .none, kV, doc, pm, an, cdv, ct, osl, rfl, l, c, .inl ⟨rfl, rfl⟩, .inl rfl⟩, k⟩⟩
/-- .. with one default, an int -/
theorem txd1 {K : PySem.W.Frag} {x qual : Str} {st : Stmt} {f T : Addr} {i : Int} {t : Tok} {oc : Value} {od od2 an : Option Addr} {osl osl2 : Array (Option Value)} {kV doc pm cdv ct : Value} {n : Nat} (l : K.lookup f = some ⟨oc, od, .func (PySem.W.fnOf x qual (defArgs st) (defBody st) (defScope st) (.ref T) kV doc pm an cdv ct), osl⟩)
    (c : PySem.W.codeIn K cdv qual = true) (k : PySem.W.keepIn K (.ref f) = true) (lT : K.lookup T = some ⟨.type "tuple", od2, .seq #[.int i t] n, osl2⟩) : TxD K x qual st [.int i] f :=
  ⟨_, ⟨⟨oc, od, .ref T, kV, doc, pm, an, cdv, ct, osl, rfl, l, c, .inr ⟨by simp, T, _, [.int i t], n, rfl, lT, rfl, .cons ⟨t, rfl⟩ .nil⟩, .inl rfl⟩, k⟩⟩
end DL
namespace DL
open PySem PySem.Spec PyProof.Rows L2 ClX
section
variable {X : Cx} {W : WX}
theorem xe_cls {c : Nat} {cs : List Nat} {x : Str} {pos : Pos} (T : IsiF X.K X.mg cs) (hc : c ∈ cs) (hg : Gl X x) (hx : cn c = x) (hd : (x == ("__debug__" : Str)) = false := by decide) : dE X W (.Name x pos) (eK (.cls c)) := by
  obtain ⟨C, cf⟩ := T.cls c hc
  exact de_cls hg hx (by rw [← hx]; exact cf.at_) hd
end
def natAt (ρ : Slots) (i : Nat) : Nat := match ρ[i]? with
  | some (some (.dat (.int z))) => z.natAbs
  | _ => 0
theorem numc_of {K : PySem.W.Frag} {C f : Addr} {nm : String} (sf : PySem.W.selfFirst K C = true) (a : PySem.W.findIn K (.ref C) (dunder nm) = some (some (.ref f))) (i : PySem.W.isFn K (.ref f) = true)
    (r : PySem.W.findIn K (.ref C) (dunderR nm) = some none ∨ ∃ g, PySem.W.findIn K (.ref C) (dunderR nm) = some (some (.ref g))) : NumC K C nm f := by
  refine ⟨?_, a, i, r⟩
  unfold PySem.W.selfFirst at sf
  cases e : PySem.W.clsIn K C with
  | none => rw [e] at sf; cases sf
  | some cd =>
    rw [e] at sf
    simp only [Option.any_some] at sf
    cases e2 : cd.mro with
    | nil => rw [e2] at sf; cases sf
    | cons v r =>
      rw [e2] at sf
      simp at sf
      exact ⟨cd, r, rfl, by rw [e2, sf]⟩
theorem isi1 {K : PySem.W.Frag} {mg : Str → Option Value} {c : Nat} {C : Addr} (h : ClsF K mg c C) : IsiF K mg [c] := by
  refine ⟨fun d hd => ?_, fun d hd e he hne => ?_⟩
  · simp at hd
    subst hd
    exact ⟨C, h⟩
  · simp at hd he
    exact absurd (hd.trans he.symm) hne
theorem clsf_mk {K : PySem.W.Frag} {mg : Str → Option Value} {c : Nat} {C : Addr} (at_ : mg (cn c) = some (.ref C)) (cl : Cls K C) (ha : PySem.W.findIn K (.ref C) "__class__" = some (some (.builtin "object.__class__"))) (hn : PySem.W.specialIn K (.builtin "object.__class__") "__get__" = some (some (.builtin "getset_descriptor.__get__")))
    (htk : PySem.W.takesIn K (.builtin "object.__class__") = some true) (hm : PySem.W.mroIn K C (.type "object") = some true)
    (t1 : PySem.W.kitOne K (.ref C) (.type "int") = some false) (t2 : PySem.W.kitOne K (.ref C) (.type "bool") = some false) (t3 : PySem.W.kitOne K (.ref C) (.type "str") = some false) (t4 : PySem.W.kitOne K (.ref C) (.type "list") = some false) (t5 : PySem.W.kitOne K (.ref C) (.type "tuple") = some false) (t6 : PySem.W.kitOne K (.ref C) (.type "dict") = some false)
    (o1 : PySem.W.kitOne K (.type "NoneType") (.ref C) = some false) (o2 : PySem.W.kitOne K (.type "bool") (.ref C) = some false) (o3 : PySem.W.kitOne K (.type "int") (.ref C) = some false) (o4 : PySem.W.kitOne K (.type "str") (.ref C) = some false) (o5 : PySem.W.kitOne K (.type "list") (.ref C) = some false) (o6 : PySem.W.kitOne K (.type "tuple") (.ref C) = some false) (o7 : PySem.W.kitOne K (.type "dict") (.ref C) = some false) : ClsF K mg c C := by
  refine ⟨at_, cl, ha, hn, htk, hm, fun n hn => ?_, fun n hn => ?_⟩
  · simp [isB] at hn
    rcases hn with rfl | rfl | rfl | rfl | rfl | rfl <;> assumption
  · simp [isAll] at hn
    rcases hn with rfl | rfl | rfl | rfl | rfl | rfl | rfl <;> assumption
end DL
namespace DL
open PySem PySem.Spec PyProof.Rows L2 ClX
theorem star_b {K : PySem.W.Frag} {x qual : Str} {params : Arguments} {body : List Stmt} {scope : Scope} {f : Addr} {fd : FuncData} {ps : List Str} {pv : Str} (F : FunD K x qual params body scope [] [] f fd)
    (h : ∀ (kV doc pm : Value) (an : Option Addr) (cdv ct : Value) (us rest : List Value), us.length = ps.length → bindArgs (PySem.W.fnOf x qual params body scope .none kV doc pm an cdv ct) ⟨us ++ rest, []⟩ = (newTuple rest >>= fun t => pure (ps.zip us ++ [(pv, t)]))) :
    ∀ us rest : List Value, us.length = ps.length → bindArgs fd ⟨us ++ rest, []⟩ = (newTuple rest >>= fun t => pure (ps.zip us ++ [(pv, t)])) := by
  obtain ⟨oc, od, dV, kV, doc, pm, an, cdv, ct, osl, rfl, lk, hcd, hD, hK⟩ := F.ex
  intro us rest hl
  rcases hD with ⟨_, rfl⟩ | ⟨e, _⟩
  · exact h kV doc pm an cdv ct us rest hl
  · exact absurd rfl e
end DL
namespace DL
open PySem PySem.Spec PyProof.Rows L2 ClX
def pStrI : P → Option P
  | .int i => if i.natAbs < bigL then some (.str (txtI i)) else none
  | _ => none
theorem cm_strI {X : Cx} {W : WX} (hc : X.calm = true) (dg : DigF X.K) : CallM X W (.type "str") (fm1 pStrI) := by
  intro pins s σ H F L S xs us ds Q I wr rv vr q
  unfold fm1 at q
  split at q
  · rename_i p
    cases p with
    | int i =>
      unfold pStrI at q
      by_cases hi : i.natAbs < bigL
      · simp only [if_pos hi] at q
        cases vr with
        | cons vx vr =>
          cases vr
          cases vx with
          | dat r =>
            cases r
            obtain ⟨u, rfl, tk, rfl⟩ := vals1 rv
            exact str_of_int_or (I.ok.hd hc) (dg.at I.kIn I.nolimit) (fun _ => ⟨.str _, H, I.tok _, ⟨_, rfl⟩, q _ F L H .refl wr (.dat (.str _))⟩) fun hge h' tk e hx => bigL_no hi hge
      · simp only [if_neg hi] at q
        exact q.elim
    | _ => exact q.elim
  · exact q.elim
end DL
set_option Elab.async false
set_option linter.all false
set_option maxRecDepth 100000
set_option maxHeartbeats 4000000
namespace DL
open PySem PySem.Spec PyProof.Rows L2
/-! ### names of the module that hold a text, an int -/
def GStr (mg : Str → Option Value) (x z : Str) : Prop := ∃ t, mg x = some (.str z t)
def GInt (mg : Str → Option Value) (x : Str) (i : Int) : Prop := ∃ t, mg x = some (.int i t)
section
variable {X : Cx} {W : WX} {pos : Pos} {x z : Str} {i : Int}
theorem xe_gstr (h : GStr X.mg x z) (hg : Gl X x) (hd : (x == ("__debug__" : Str)) = false := by decide) : dE X W (.Name x pos) (eK (.str z)) := by
  obtain ⟨t, e⟩ := h
  exact de_K (pe_glob (v := .str z) hg e ⟨t, rfl⟩ hd) fun F => .str z
theorem xe_gint (h : GInt X.mg x i) (hg : Gl X x) (hd : (x == ("__debug__" : Str)) = false := by decide) : dE X W (.Name x pos) (eK (.int i)) := by
  obtain ⟨t, e⟩ := h
  exact de_K (pe_glob (v := .int i) hg e ⟨t, rfl⟩ hd) fun F => .int i
end
/-! ### a op b op c -/
def eChain (g g' : G2) (a b c : Ex) : Ex := fun ρ S => (a ρ S).bind fun x S1 => (b ρ S1).bind fun y S2 => (g x y S2).bind fun z S3 => match z with
  | .dat (.bl k) => if k = true then (c ρ S3).bind fun w S4 => g' y w S4 else .ok (.dat (.bl false)) S3
  | _ => .bad
section
variable {X : Cx} {W : WX} {pos : Pos} {a b c : Expr} {op op' : CmpOp} {g g' : G2} {ma mb mc : Ex}
theorem de_chain (ho : OpM X W (compareOp op) g) (ho' : OpM X W (compareOp op') g') (ha : dE X W a ma) (hb : dE X W b mb) (hc : dE X W c mc)
    (hm : lastMarks [op, op'] [b, c] = false := by with_unfolding_all rfl) : dE X W (.Compare a [op, op'] [b, c] pos) (eChain g g' ma mb mc) := by
  refine ⟨fun pins s σ H Q I h => ?_⟩
  obtain ⟨F, L, S, ρ, wr, er, q⟩ := h
  refine Compare_chain (thn (ha.run pins s σ H (fun x H1 => ∃ F1 L1 S1 dx, WR X.K X.mg F1 L1 H1 S1 ∧ ER X.K X.mg F1 L1 σ ρ ∧ VR X.K X.mg F1 L1 x dx ∧ Pv X.K X.mg F1 L1 H1 ((mb ρ S1).bind fun y S2 => (g dx y S2).bind fun z S3 => match z with
      | .dat (.bl k) => if k = true then (mc ρ S3).bind fun w S4 => g' y w S4 else .ok (.dat (.bl false)) S3
      | _ => .bad) Q (fun c d H' => W c d σ H')) I
    (ev_then wr er q fun d S1 v F1 L1 H1 _ x1 wr1 er1 vr1 q1 => ⟨F1, L1, S1, d, wr1, er1, vr1, q1⟩)) fun v s1 ⟨x, H1, I1, r1, F1, L1, S1, dx, wr1, er1, vr1, q1⟩ => chain_link ?_) hm
  refine thn (hb.run pins s1 σ H1 (fun y H2 => ∃ F2 L2 S2 dy, WR X.K X.mg F2 L2 H2 S2 ∧ ER X.K X.mg F2 L2 σ ρ ∧ VR X.K X.mg F2 L2 x dx ∧ VR X.K X.mg F2 L2 y dy ∧ Pv X.K X.mg F2 L2 H2 ((g dx dy S2).bind fun z S3 => match z with
      | .dat (.bl k) => if k = true then (mc ρ S3).bind fun w S4 => g' dy w S4 else .ok (.dat (.bl false)) S3
      | _ => .bad) Q (fun c d H' => W c d σ H')) I1
    (ev_then wr1 er1 q1 fun d S2 v F2 L2 H2 _ x2 wr2 er2 vr2 q2 => ⟨F2, L2, S2, d, wr2, er2, vr1.mono x2.fr x2.lp, vr2, q2⟩)) fun u s2 ⟨y, H2, I2, r2, F2, L2, S2, dy, wr2, er2, vr1', vr2, q2⟩ => ?_
  refine thn (ho pins s2 σ H2 F2 L2 S2 x y v u dx dy (fun z H3 => ∃ k F3 L3 S3, z = .bl k ∧ WR X.K X.mg F3 L3 H3 S3 ∧ ER X.K X.mg F3 L3 σ ρ ∧ VR X.K X.mg F3 L3 y dy ∧ Pv X.K X.mg F3 L3 H3 (if k = true then (mc ρ S3).bind fun w S4 => g' dy w S4 else .ok (.dat (.bl false)) S3) Q (fun c d H' => W c d σ H')) I2 wr2 r1 r2 vr1' vr2 ?_) fun d s3 ⟨z, H3, I3, r3, k, F3, L3, S3, e, wr3, er3, vr2', q3⟩ => ?_
  · cases e : g dx dy S2 with
    | bad => rw [e] at q2; exact q2.elim
    | exc c fs S3 => rw [e] at q2; exact q2
    | ok z S3 =>
      rw [e] at q2
      intro w F3 L3 H3 x3 wr3 vr3
      cases vr3 with
      | loc _ => exact q2.elim
      | dat r =>
        cases r with
        | bl k => exact ⟨k, F3, L3, S3, rfl, wr3, er2.mono x3.fr x3.lp, vr2.mono x3.fr x3.lp, Pv.from x3 q2⟩
        | _ => exact q2.elim
  · subst e
    cases r3
    refine wpAny_truthy_bool ?_
    cases k with
    | false => exact ite_ff ⟨.bl false, H3, I3, rfl, q3 _ F3 L3 H3 .refl wr3 (.dat (.bl _))⟩
    | true =>
      refine ite_tt (chain_last (thn (hc.run pins s3 σ H3 (fun w H4 => ∃ F4 L4 S4 dw, WR X.K X.mg F4 L4 H4 S4 ∧ VR X.K X.mg F4 L4 y dy ∧ VR X.K X.mg F4 L4 w dw ∧ Pv X.K X.mg F4 L4 H4 (g' dy dw S4) Q (fun c d H' => W c d σ H')) I3
        (ev_then wr3 er3 q3 fun d S4 v F4 L4 H4 _ x4 wr4 er4 vr4 q4 => ⟨F4, L4, S4, d, wr4, vr2'.mono x4.fr x4.lp, vr4, q4⟩)) fun w' s4 ⟨z', H4, I4, r4, F4, L4, S4, dw, wr4, vry, vrw, q4⟩ => ho' pins s4 σ H4 F4 L4 S4 y z' u w' dy dw Q I4 wr4 r2 r4 vry vrw q4))
theorem dt_chain (ho : OpM X W (compareOp op) g) (ho' : OpM X W (compareOp op') g') (ha : dE X W a ma) (hb : dE X W b mb) (hc : dE X W c mc)
    (hm : lastMarks [op, op'] [b, c] = false := by with_unfolding_all rfl) : dT X W (.Compare a [op, op'] [b, c] pos) (tVal (eChain g g' ma mb mc)) := by
  refine ⟨fun pins s σ H Q I h => ?_⟩
  obtain ⟨F, L, S, ρ, wr, er, q⟩ := h
  have q : Pt X.K X.mg F L H ((ma ρ S).bind fun x S1 => ((mb ρ S1).bind fun y S2 => (g x y S2).bind fun z S3 => match z with
      | .dat (.bl k) => if k = true then (mc ρ S3).bind fun w S4 => g' y w S4 else .ok (.dat (.bl false)) S3
      | _ => .bad).bind fun v S5 => match truOf S5 v with | some b => .ok b S5 | none => .bad) Q (fun c d H' => W c d σ H') := by
    unfold tVal eChain at q
    cases e : ma ρ S with
    | ok x S1 => rw [e] at q; exact q
    | exc c fs S1 => rw [e] at q; exact q
    | bad => rw [e] at q; exact q
  refine isTrue_chain (thn (ha.run pins s σ H (fun x H1 => ∃ F1 L1 S1 dx, WR X.K X.mg F1 L1 H1 S1 ∧ ER X.K X.mg F1 L1 σ ρ ∧ VR X.K X.mg F1 L1 x dx ∧ Pt X.K X.mg F1 L1 H1 ((mb ρ S1).bind fun y S2 => ((g dx y S2).bind fun z S3 => match z with
      | .dat (.bl k) => if k = true then (mc ρ S3).bind fun w S4 => g' y w S4 else .ok (.dat (.bl false)) S3
      | _ => .bad).bind fun v S5 => match truOf S5 v with | some b => .ok b S5 | none => .bad) Q (fun c d H' => W c d σ H')) I
    (ev_thenT wr er q fun d S1 v F1 L1 H1 _ x1 wr1 er1 vr1 q1 => ⟨F1, L1, S1, d, wr1, er1, vr1, ?_⟩)) fun v s1 ⟨x, H1, I1, r1, F1, L1, S1, dx, wr1, er1, vr1, q1⟩ => test_link ?_) hm
  · cases e : mb ρ S1 with
    | ok x S1 => rw [e] at q1; exact q1
    | exc c fs S1 => rw [e] at q1; exact q1
    | bad => rw [e] at q1; exact q1
  refine thn (hb.run pins s1 σ H1 (fun y H2 => ∃ F2 L2 S2 dy, WR X.K X.mg F2 L2 H2 S2 ∧ ER X.K X.mg F2 L2 σ ρ ∧ VR X.K X.mg F2 L2 x dx ∧ VR X.K X.mg F2 L2 y dy ∧ Pt X.K X.mg F2 L2 H2 (((g dx dy S2).bind fun z S3 => match z with
      | .dat (.bl k) => if k = true then (mc ρ S3).bind fun w S4 => g' dy w S4 else .ok (.dat (.bl false)) S3
      | _ => .bad).bind fun v S5 => match truOf S5 v with | some b => .ok b S5 | none => .bad) Q (fun c d H' => W c d σ H')) I1
    (ev_thenT wr1 er1 q1 fun d S2 v F2 L2 H2 _ x2 wr2 er2 vr2 q2 => ⟨F2, L2, S2, d, wr2, er2, vr1.mono x2.fr x2.lp, vr2, q2⟩)) fun u s2 ⟨y, H2, I2, r2, F2, L2, S2, dy, wr2, er2, vr1', vr2, q2⟩ => ?_
  refine thn (ho pins s2 σ H2 F2 L2 S2 x y v u dx dy (fun z H3 => ∃ k F3 L3 S3, z = .bl k ∧ WR X.K X.mg F3 L3 H3 S3 ∧ ER X.K X.mg F3 L3 σ ρ ∧ VR X.K X.mg F3 L3 y dy ∧ Pt X.K X.mg F3 L3 H3 ((if k = true then (mc ρ S3).bind fun w S4 => g' dy w S4 else .ok (.dat (.bl false)) S3).bind fun v S5 => match truOf S5 v with | some b => .ok b S5 | none => .bad) Q (fun c d H' => W c d σ H')) I2 wr2 r1 r2 vr1' vr2 ?_) fun d s3 ⟨z, H3, I3, r3, k, F3, L3, S3, e, wr3, er3, vr2', q3⟩ => ?_
  · cases e : g dx dy S2 with
    | bad => rw [e] at q2; exact q2.elim
    | exc c fs S3 => rw [e] at q2; exact q2
    | ok z S3 =>
      rw [e] at q2
      intro w F3 L3 H3 x3 wr3 vr3
      cases vr3 with
      | loc _ => exact q2.elim
      | dat r =>
        cases r with
        | bl k => exact ⟨k, F3, L3, S3, rfl, wr3, er2.mono x3.fr x3.lp, vr2.mono x3.fr x3.lp, Pt.from x3 q2⟩
        | _ => exact q2.elim
  · subst e
    cases r3
    refine wpAny_truthy_bool ?_
    cases k with
    | false => exact ite_ff ⟨H3, I3, q3 F3 L3 H3 .refl wr3⟩
    | true =>
      have q3 : Pt X.K X.mg F3 L3 H3 ((mc ρ S3).bind fun w S4 => (g' dy w S4).bind fun v S5 => match truOf S5 v with | some b => .ok b S5 | none => .bad) Q (fun c d H' => W c d σ H') := by
        cases e : mc ρ S3 with
        | ok x S1 => simp only [e, if_true] at q3; exact q3
        | exc c fs S1 => simp only [e, if_true] at q3; exact q3
        | bad => simp only [e, if_true] at q3; exact q3
      refine ite_tt (test_last (thn (hc.run pins s3 σ H3 (fun w H4 => ∃ F4 L4 S4 dw, WR X.K X.mg F4 L4 H4 S4 ∧ VR X.K X.mg F4 L4 y dy ∧ VR X.K X.mg F4 L4 w dw ∧ Pt X.K X.mg F4 L4 H4 ((g' dy dw S4).bind fun v S5 => match truOf S5 v with | some b => .ok b S5 | none => .bad) Q (fun c d H' => W c d σ H')) I3
        (ev_thenT wr3 er3 q3 fun d S4 v F4 L4 H4 _ x4 wr4 er4 vr4 q4 => ⟨F4, L4, S4, d, wr4, vr2'.mono x4.fr x4.lp, vr4, q4⟩)) fun w' s4 ⟨z', H4, I4, r4, F4, L4, S4, dw, wr4, vry, vrw, q4⟩ => ?_))
      refine thn (ho' pins s4 σ H4 F4 L4 S4 y z' u w' dy dw (fun z H5 => ∃ k, TruV X.K z H5 k ∧ Q k H5) I4 wr4 r2 r4 vry vrw ?_) fun d' s5 ⟨z2, H5, I5, r5, q5⟩ => tru_ok pins s5 σ H5 z2 d' Q I5 r5 q5
      cases e : g' dy dw S4 with
      | bad => rw [e] at q4; exact q4.elim
      | exc c fs S5 => rw [e] at q4; exact q4
      | ok z S5 =>
        rw [e] at q4
        intro w F5 L5 H5 x5 wr5 vr5
        have q4 : Pt X.K X.mg F4 L4 H4 (match truOf S5 z with | some b => .ok b S5 | none => .bad) Q (fun c d H' => W c d σ H') := q4
        cases e2 : truOf S5 z with
        | none => rw [e2] at q4; exact q4.elim
        | some b =>
          rw [e2] at q4
          exact ⟨b, truOf_ok wr5 vr5 e2, q4 F5 L5 H5 x5 wr5⟩
end
end DL
set_option Elab.async false
set_option linter.all false
set_option maxRecDepth 100000
set_option maxHeartbeats 4000000
namespace DL
open PySem PySem.Spec PyProof.Rows L2
/-! ### keys -/
def keyP : Key → P
  | .inl i => .int i
  | .inr x => .str x
def pKey : P → Option Key
  | .int i => some (.inl i)
  | .str x => some (.inr x)
  | _ => none
theorem rep_key {K : PySem.W.Frag} {mg : Str → Option Value} {F : Hp} (k : Key) : Rep K mg F (kV k) (keyP k) := by
  cases k with
  | inl i => exact .int i
  | inr x => exact .str x
theorem key_rep {K : PySem.W.Frag} {mg : Str → Option Value} {F : Hp} {v : V} {p : P} {k : Key} (r : Rep K mg F v p) (h : pKey p = some k) : v = kV k := by
  cases r with
  | int i => cases h; rfl
  | str x => cases h; rfl
  | _ => cases h
theorem RepK.get {K : PySem.W.Frag} {mg : Str → Option Value} {F : Hp} : ∀ {kvs : List (Key × V)} {kps : List (Key × P)} {i : Nat} {k : Key} {p : P}, RepK K mg F kvs kps → kps[i]? = some (k, p) → ∃ v, kvs[i]? = some (k, v) ∧ Rep K mg F v p
  | _, _, _, _, _, .nil, e => by simp at e
  | _, _, 0, _, _, .cons h _, e => by
    simp at e
    obtain ⟨rfl, rfl⟩ := e
    exact ⟨_, rfl, h⟩
  | _, _, i + 1, k, p, .cons _ r, e => by
    obtain ⟨v, h1, h2⟩ := RepK.get (i := i) (k := k) (p := p) r (by simpa using e)
    exact ⟨v, by simpa using h1, h2⟩
/-- the value of a key -/
def valP (kps : List (Key × P)) (k : Key) : Option P := (kps.find? fun kv => decide (kv.1 = k)).map (·.2)
def putKP (kps : List (Key × P)) (k : Key) (p : P) : List (Key × P) :=
  if (kps.any fun kv => decide (kv.1 = k)) = true then kps.map (fun kv => if kv.1 = k then (kv.1, p) else kv) else kps ++ [(k, p)]
section
variable {K : PySem.W.Frag} {mg : Str → Option Value} {F : Hp}
theorem RepK.val (k : Key) : ∀ {kvs : List (Key × V)} {kps : List (Key × P)}, RepK K mg F kvs kps → (valP kps k = none ∧ valV kvs k = none) ∨ ∃ v p, valP kps k = some p ∧ valV kvs k = some v ∧ Rep K mg F v p
  | _, _, .nil => .inl ⟨rfl, rfl⟩
  | _, _, @RepK.cons _ _ _ k' v p vs ps h r => by
    by_cases e : k' = k
    · exact .inr ⟨v, p, by simp [valP, e], valV_pos e, h⟩
    · have e1 : valP ((k', p) :: ps) k = valP ps k := by simp [valP, List.find?_cons, e]
      have e2 : valV ((k', v) :: vs) k = valV vs k := valV_neg e
      rw [e1, e2]
      exact RepK.val k r
theorem RepK.any (k : Key) : ∀ {kvs : List (Key × V)} {kps : List (Key × P)}, RepK K mg F kvs kps → (kvs.any fun kv => decide (kv.1 = k)) = (kps.any fun kv => decide (kv.1 = k))
  | _, _, .nil => rfl
  | _, _, .cons h r => by
    rw [List.any_cons, List.any_cons, RepK.any k r]
theorem RepK.map {k : Key} {u : V} {x : P} (hu : Rep K mg F u x) : ∀ {kvs : List (Key × V)} {kps : List (Key × P)}, RepK K mg F kvs kps → RepK K mg F (kvs.map fun kv => if kv.1 = k then (kv.1, u) else kv) (kps.map fun kv => if kv.1 = k then (kv.1, x) else kv)
  | _, _, .nil => .nil
  | _, _, @RepK.cons _ _ _ k' v p vs ps h r => by
    rw [List.map_cons, List.map_cons]
    by_cases e : k' = k
    · simp only [e, if_true]
      exact .cons hu (RepK.map hu r)
    · simp only [e, if_false]
      exact .cons h (RepK.map hu r)
theorem RepK.append : ∀ {v v' : List (Key × V)} {p p' : List (Key × P)}, RepK K mg F v p → RepK K mg F v' p' → RepK K mg F (v ++ v') (p ++ p')
  | _, _, _, _, .nil, s => s
  | _, _, _, _, .cons h r, s => .cons h (RepK.append r s)
theorem RepK.put {k : Key} {u : V} {x : P} {kvs : List (Key × V)} {kps : List (Key × P)} (r : RepK K mg F kvs kps) (hu : Rep K mg F u x) : RepK K mg F (putK kvs k u) (putKP kps k x) := by
  unfold putK putKP
  rw [RepK.any k r]
  split
  · exact RepK.map hu r
  · exact r.append (.cons hu .nil)
theorem RepK.keys : ∀ {kvs : List (Key × V)} {kps : List (Key × P)}, RepK K mg F kvs kps → kvs.map (·.1) = kps.map (·.1)
  | _, _, .nil => rfl
  | _, _, .cons h r => by rw [List.map_cons, List.map_cons, RepK.keys r]
end
/-! ### behind an expression, a thing may be locked -/
def tLk (t : TE) : TE := fun σ H Q => t σ H fun x H1 => Q x H1 ∨ ∃ d u, H1 d = some u ∧ Mut (some u) ∧ ∀ od, Q x (upd H1 d (.frz od u))
theorem pe_lk {X : Cx} {e : Expr} {t : TE} (h : PE X e t) : PE X e (tLk t) := by
  refine ⟨fun pins s σ H Q I q => ?_⟩
  refine thn (h.run pins s σ H _ I q) fun v s1 ⟨x, H1, I1, r1, q1⟩ => ?_
  rcases q1 with q1 | ⟨d, u, hd, mu, q1⟩
  · exact ⟨x, H1, I1, r1, q1⟩
  · obtain ⟨od, I2⟩ := I1.lock hd mu
    exact ⟨x, _, I2, r1, q1 od⟩
/-! ### what a for walks: a text, a dict's keys, a dict's items -/
def signsP (x : Str) : List P := x.cps.toList.map fun c => .str ⟨#[c]⟩
def iStrM (m : Ex) : Im := fun ρ S => (m ρ S).bind fun v S1 => match v with
  | .dat (.str x) => .ok (signsP x) S1
  | _ => .bad
def iKeysD (m : Ex) : Im := fun ρ S => (m ρ S).bind fun v S1 => match v with
  | .dat (.dic kps) => .ok (kps.map fun kv => keyP kv.1) S1
  | _ => .bad
def iItemsD (m : Ex) : Im := fun ρ S => (m ρ S).bind fun v S1 => match v with
  | .dat (.dic kps) => .ok (kps.map fun kv => .tup [keyP kv.1, kv.2]) S1
  | _ => .bad
section
variable {X : Cx} {W : WX} {tg e : Expr} {m : Ex}
theorem it_str {K : PySem.W.Frag} {mg : Str → Option Value} {F H : Hp} {L : List Addr} {x : Str} : ItOk K mg (Its x) F L H (signsP x) := by
  refine ⟨fun i p F1 L1 H1 S1 e x1 wr1 => ?_, fun i F1 L1 H1 S1 e x1 wr1 => by show x.cps.size ≤ i; simpa [signsP] using e⟩
  unfold signsP at e
  rw [List.getElem?_map] at e
  cases q : x.cps.toList[i]? with
  | none => rw [q] at e; cases e
  | some c =>
    rw [q] at e
    cases e
    have q' : x.cps[i]? = some c := by rw [← Array.getElem?_toList]; exact q
    refine ⟨(Array.getElem?_eq_some_iff.mp q').1, fun v H' y => ?_⟩
    obtain ⟨rfl, c', e1, rfl⟩ := y
    rw [q'] at e1
    cases e1
    exact ⟨F1, .refl, wr1, .str _⟩
theorem di_str (h : dE X W e m) : dI X W tg e (iStrM m) := by
  refine imI (pi_str h) fun σ H Q ⟨F, L, S, ρ, wr, er, q⟩ => ?_
  refine ev_thenI wr er q fun d S1 v F1 L1 H1 _ x1 wr1 er1 vr1 q1 => ?_
  split at q1
  · rename_i x _
    cases vr1 with
    | dat r =>
      cases r
      exact ⟨_, rfl, q1 _ F1 L1 H1 .refl wr1 it_str⟩
  · exact q1.elim
/-- the dict of the data, locked -/
theorem dic_lk {K : PySem.W.Frag} {mg : Str → Option Value} {F H : Hp} {L : List Addr} {S : Store} {a : Addr} {kvs : List (Key × V)} {Q : Hp → Prop} (wr : WR K mg F L H S) (hF : F a = some (.dK kvs))
    (h : ∀ H' o, H' a = some (.frz o (.dK kvs)) → Xt F L H F L H' → WR K mg F L H' S → Q H') : Q H ∨ ∃ d u, H d = some u ∧ Mut (some u) ∧ ∀ od, Q (upd H d (.frz od u)) := by
  rcases wr.sub a _ hF with q | ⟨_, ob, _, q⟩
  · exact .inr ⟨a, _, q, trivial, fun od => h _ od upd_same (.lock hF q) (wr.lock hF)⟩
  · exact .inl (h H ob q .refl wr)
theorem it_keys {K : PySem.W.Frag} {mg : Str → Option Value} {F H : Hp} {L : List Addr} {a : Addr} {o : Obj} {kvs : List (Key × V)} {kps : List (Key × P)} (hF : F a = some (.dK kvs)) (hH : H a = some (.frz o (.dK kvs))) (r : RepK K mg F kvs kps) : ItOk K mg (Itk a o kvs) F L H (kps.map fun kv => keyP kv.1) := by
  refine ⟨fun i p F1 L1 H1 S1 e x1 wr1 => ?_, fun i F1 L1 H1 S1 e x1 wr1 => ⟨x1.locked hH hF, by rw [r.length]; simpa using e⟩⟩
  rw [List.getElem?_map] at e
  cases q : kps[i]? with
  | none => rw [q] at e; cases e
  | some kp =>
    obtain ⟨k, p'⟩ := kp
    rw [q] at e
    cases e
    obtain ⟨v, hv, rv⟩ := r.get q
    refine ⟨⟨x1.locked hH hF, (List.getElem?_eq_some_iff.mp hv).1⟩, fun u H' y => ?_⟩
    obtain ⟨rfl, k', v', e1, rfl⟩ := y
    rw [hv] at e1
    cases e1
    exact ⟨F1, .refl, wr1, rep_key k⟩
theorem it_items {K : PySem.W.Frag} {mg : Str → Option Value} {F H : Hp} {L : List Addr} {a : Addr} {o : Obj} {kvs : List (Key × V)} {kps : List (Key × P)} (hF : F a = some (.dK kvs)) (hH : H a = some (.frz o (.dK kvs))) (r : RepK K mg F kvs kps) : ItOk K mg (Iti a o kvs) F L H (kps.map fun kv => .tup [keyP kv.1, kv.2]) := by
  refine ⟨fun i p F1 L1 H1 S1 e x1 wr1 => ?_, fun i F1 L1 H1 S1 e x1 wr1 => ⟨x1.locked hH hF, by rw [r.length]; simpa using e⟩⟩
  rw [List.getElem?_map] at e
  cases q : kps[i]? with
  | none => rw [q] at e; cases e
  | some kp =>
    obtain ⟨k, p'⟩ := kp
    rw [q] at e
    cases e
    obtain ⟨v, hv, rv⟩ := r.get q
    refine ⟨⟨x1.locked hH hF, (List.getElem?_eq_some_iff.mp hv).1⟩, fun u H' y => ?_⟩
    obtain ⟨T, k', v', e1, rfl, hT, rfl⟩ := y
    rw [hv] at e1
    cases e1
    have s := same_upd (o := .tup [kV k, v]) (wr1.fnone hT)
    exact ⟨upd F1 T (.tup [kV k, v]), .alloc wr1 hT, wr1.alloc hT, .tup (SqT.of upd_same) (.cons (rep_key k) (.cons (rv.mono (x1.fr.trans s)) .nil))⟩
theorem di_keys (h : dE X W e m) : dI X W tg e (iKeysD m) := by
  refine imI (pi_keys (pe_lk h)) fun σ H Q ⟨F, L, S, ρ, wr, er, q⟩ => ?_
  refine ev_thenI wr er q fun d S1 v F1 L1 H1 _ x1 wr1 er1 vr1 q1 => ?_
  split at q1
  · rename_i kps _
    cases vr1 with
    | dat r =>
      cases r with
      | dic hF rk =>
        refine dic_lk (Q := fun H1 => ∃ d o, V.ref _ = V.ref d ∧ ((∃ kvs, H1 d = some (HO.frz o (HO.dK kvs)) ∧ Q (Itk d o kvs) H1) ∨ ∃ kvs, H1 d = some (HO.frz o (HO.dT kvs)) ∧ Q (Itkt d o kvs) H1)) wr1 hF fun H' o hH x2 wr2 => ?_
        exact ⟨_, o, rfl, .inl ⟨_, hH, q1 _ F1 L1 H' x2 wr2 (it_keys hF hH rk)⟩⟩
  · exact q1.elim
theorem di_items {elts : List Expr} {kk : Nat} {tpos apos cpos : Pos} (h : dE X W e m) (hbase : attributeBase e "items" X.env (eval e X.env) = eval e X.env := by rfl) (hline : (apos.endLine == cpos.line) = true := by rfl) :
    dI X W (.Tuple elts kk tpos) (.Call (.Attribute e "items" apos) [] [] cpos) (iItemsD m) := by
  refine imI (pi_items (pe_lk h) hbase hline) fun σ H Q ⟨F, L, S, ρ, wr, er, q⟩ => ?_
  refine ev_thenI wr er q fun d S1 v F1 L1 H1 _ x1 wr1 er1 vr1 q1 => ?_
  split at q1
  · rename_i kps _
    cases vr1 with
    | dat r =>
      cases r with
      | dic hF rk =>
        refine dic_lk (Q := fun H1 => ∃ d o kvs, V.ref _ = V.ref d ∧ H1 d = some (HO.frz o (HO.dK kvs)) ∧ Q (Iti d o kvs) H1) wr1 hF fun H' o hH x2 wr2 => ?_
        exact ⟨_, o, _, rfl, hH, q1 _ F1 L1 H' x2 wr2 (it_items hF hH rk)⟩
  · exact q1.elim
end
end DL
set_option Elab.async false
set_option linter.all false
set_option maxRecDepth 100000
set_option maxHeartbeats 4000000
namespace DL
open PySem PySem.Spec PyProof.Rows L2
/-! ### {}, {k: v, ..} -/
section
variable {X : Cx} {W : WX} {pos : Pos}
theorem de_dic0 : dE X W (.Dict [] [] pos) (eK (.dic [])) := imE pe_dnewK fun σ H Q ⟨F, L, S, ρ, wr, er, q⟩ => fun p hp =>
  q _ (upd F p (.dK [])) L _ (.alloc wr hp) (wr.alloc hp) (.dat (.dic upd_same .nil))
end
def aPairs : List (Ex × Ex) → Slots → Store → Rs (List (Val × Val))
  | [], _, S => .ok [] S
  | (k, v) :: r, ρ, S => (k ρ S).bind fun x S1 => (v ρ S1).bind fun y S2 => (aPairs r ρ S2).bind fun ps S3 => .ok ((x, y) :: ps) S3
def kpairs : List (Val × Val) → Option (List (Key × P))
  | [] => some []
  | (.dat p, .dat q) :: r => (pKey p).bind fun k => (kpairs r).map fun ps => (k, q) :: ps
  | _ :: _ => none
def mergeKP (kps more : List (Key × P)) : List (Key × P) := more.foldl (fun acc kv => putKP acc kv.1 kv.2) kps
def eDisp (ms : List (Ex × Ex)) : Ex := fun ρ S => (aPairs ms ρ S).bind fun ps S1 => match kpairs ps with
  | some kps => if kps.length ≤ 15 then .ok (.dat (.dic (mergeKP [] kps))) S1 else .bad
  | none => .bad
section
variable {K : PySem.W.Frag} {mg : Str → Option Value}
inductive VRP (K : PySem.W.Frag) (mg : Str → Option Value) (F : Hp) (L : List Addr) : List (V × V) → List (Val × Val) → Prop where
  | nil : VRP K mg F L [] []
  | cons {a b x y vs ds} : VR K mg F L a x → VR K mg F L b y → VRP K mg F L vs ds → VRP K mg F L ((a, b) :: vs) ((x, y) :: ds)
theorem RepK.merge {F : Hp} : ∀ {more : List (Key × V)} {mps : List (Key × P)} {kvs : List (Key × V)} {kps : List (Key × P)}, RepK K mg F more mps → RepK K mg F kvs kps → RepK K mg F (mergeK kvs more) (mergeKP kps mps)
  | _, _, _, _, .nil, r => r
  | _, _, _, _, @RepK.cons _ _ _ k v p vs ps h t, r => by
    show RepK K mg F (mergeK (putK _ k v) vs) (mergeKP (putKP _ k p) ps)
    exact RepK.merge t (r.put h)
theorem kpairs_ok {F : Hp} {L : List Addr} : ∀ {ps : List (V × V)} {ds : List (Val × Val)} {kps : List (Key × P)}, VRP K mg F L ps ds → kpairs ds = some kps → ∃ kvs : List (Key × V), ps = kvs.map (fun kv => (kV kv.1, kv.2)) ∧ RepK K mg F kvs kps
  | _, _, _, .nil, e => by cases e; exact ⟨[], rfl, .nil⟩
  | _, _, _, .cons (.dat rk) (.dat rv) t, e => by
    rw [kpairs] at e
    obtain ⟨k, e1, e2⟩ := Option.bind_eq_some_iff.mp e
    obtain ⟨ps, e3, e4⟩ := Option.map_eq_some_iff.mp e2
    cases e4
    obtain ⟨kvs, rfl, r⟩ := kpairs_ok t e3
    exact ⟨(k, _) :: kvs, by rw [List.map_cons, key_rep rk e1], .cons rv r⟩
  | _, _, _, .cons (.dat _) (.loc _) t, e => by cases e
  | _, _, _, .cons (.loc _) _ t, e => by cases e
/-- the pairs run -/
theorem pairs_run {W : WX} {σ : L2.St} {ρ : Slots} : ∀ (ms : List (Ex × Ex)) (F : Hp) (L : List Addr) (S : Store) (H : Hp) (k : List (Val × Val) → Store → Rs Val) (Q : VK) (Q' : List (V × V) → Hp → Prop), WR K mg F L H S → ER K mg F L σ ρ → Pv K mg F L H ((aPairs ms ρ S).bind k) Q (fun c d H' => W c d σ H') →
    (∀ ds S1 ps F1 L1 H1, aPairs ms ρ S = .ok ds S1 → Xt F L H F1 L1 H1 → WR K mg F1 L1 H1 S1 → VRP K mg F1 L1 ps ds → Q' ps H1) → tPairs (ms.map fun kv => (tE K mg W kv.1, tE K mg W kv.2)) σ H Q'
  | [], F, L, S, H, k, Q, Q', wr, er, q, hk => hk [] S [] F L H rfl .refl wr .nil
  | (mk, mv) :: r, F, L, S, H, k, Q, Q', wr, er, q, hk => by
    have q1 : Pv K mg F L H ((mk ρ S).bind fun x S1 => ((mv ρ S1).bind fun y S2 => (aPairs r ρ S2).bind fun ps S3 => k ((x, y) :: ps) S3)) Q (fun c d H' => W c d σ H') := by
      rw [aPairs] at q
      cases e : mk ρ S with
      | bad => rw [e] at q; exact q
      | exc _ _ _ => rw [e] at q; exact q
      | ok x S1 =>
        rw [e] at q
        show Pv K mg F L H ((mv ρ S1).bind fun y S2 => (aPairs r ρ S2).bind fun ps S3 => k ((x, y) :: ps) S3) Q _
        cases e1 : mv ρ S1 with
        | bad => simp only [Rs.bind, e1] at q ⊢; exact q
        | exc _ _ _ => simp only [Rs.bind, e1] at q ⊢; exact q
        | ok y S2 =>
          show Pv K mg F L H ((aPairs r ρ S2).bind fun ps S3 => k ((x, y) :: ps) S3) Q _
          cases e2 : aPairs r ρ S2 with
          | bad => simp only [Rs.bind, e1, e2] at q ⊢; exact q
          | exc _ _ _ => simp only [Rs.bind, e1, e2] at q ⊢; exact q
          | ok ps S3 => simp only [Rs.bind, e1, e2] at q ⊢; exact q
    refine ev_then wr er q1 fun x S1 v F1 L1 H1 ek x1 wr1 er1 vr1 q2 => ?_
    refine ev_then wr1 er1 q2 fun y S2 u F2 L2 H2 ev x2 wr2 er2 vr2 q3 => ?_
    exact pairs_run r F2 L2 S2 H2 (fun ps S3 => k ((x, y) :: ps) S3) Q _ wr2 er2 q3 fun ds S3 ps F3 L3 H3 ep x3 wr3 vp => hk _ S3 _ F3 L3 H3 (by have ek' : mk ρ S = .ok x S1 := ek; have ev' : mv ρ S1 = .ok y S2 := ev; simp only [aPairs, ek', ev', ep, Rs.bind]) ((x1.trans x2).trans x3) wr3 (.cons (vr1.mono (x2.trans x3).fr (x2.trans x3).lp) (vr2.mono x3.fr x3.lp) vp)
end
section
variable {X : Cx} {W : WX} {pos : Pos}
theorem dp_nil : PPs X pos [] [] (([] : List (Ex × Ex)).map fun kv => (tE X.K X.mg W kv.1, tE X.K X.mg W kv.2)) := pps_nil
theorem dp_cons {k v : Expr} {ks : List (Option Expr)} {vs : List Expr} {mk mv : Ex} {ms : List (Ex × Ex)} (hk : dE X W k mk) (hv : dE X W v mv) (hr : PPs X pos ks vs (ms.map fun kv => (tE X.K X.mg W kv.1, tE X.K X.mg W kv.2))) :
    PPs X pos (some k :: ks) (v :: vs) (((mk, mv) :: ms).map fun kv => (tE X.K X.mg W kv.1, tE X.K X.mg W kv.2)) := pps_cons hk hv hr
theorem de_disp {keys : List (Option Expr)} {values : List Expr} {ms : List (Ex × Ex)} (h : PPs X pos keys values (ms.map fun kv => (tE X.K X.mg W kv.1, tE X.K X.mg W kv.2))) (hall : keys.all (·.isSome) = true := by rfl) (hl : keys.length = values.length := by rfl) (h0 : keys ≠ [] := by simp)
    (h15 : keys.length ≤ 15 := by decide) : dE X W (.Dict keys values pos) (eDisp ms) := by
  refine imE (pe_disp h hall hl h0 h15) fun σ H Q ⟨F, L, S, ρ, wr, er, q⟩ => fun p hp => ?_
  refine pairs_run (W := W) (ρ := ρ) ms F L S _ (fun ps S1 => match kpairs ps with
    | some kps => if kps.length ≤ 15 then .ok (.dat (.dic (mergeKP [] kps))) S1 else .bad
    | none => .bad) Q _ (wr.other hp) er (Pv.from (Xt.other hp) q) fun ds S1 ps F1 L1 H1 ea x1 wr1 vp => ?_
  unfold eDisp at q
  rw [ea] at q
  have q1 : Pv X.K X.mg F L H (match kpairs ds with
    | some kps => if kps.length ≤ 15 then .ok (.dat (.dic (mergeKP [] kps))) S1 else .bad
    | none => .bad) Q (fun c d H' => W c d σ H') := q
  cases e : kpairs ds with
  | none => simp only [e] at q1; exact q1.elim
  | some kps =>
    simp only [e] at q1
    by_cases hle : kps.length ≤ 15
    · rw [if_pos hle] at q1
      obtain ⟨kvs, rfl, rk⟩ := kpairs_ok vp e
      obtain ⟨h1, h2, h3⟩ := x1.keep (a := p) (o := .dK []) upd_same (wr.notin hp) (wr.fnone hp)
      refine ⟨h1, kvs, rfl, by rw [rk.length]; exact hle, ?_⟩
      have wr2 := wr1.beside (o := .dK (mergeK [] kvs)) h3 h2
      have x2 := (((Xt.other (o := .dK []) hp).trans x1).beside (o := .dK (mergeK [] kvs)) hp)
      exact q1 _ (upd F1 p (.dK (mergeK [] kvs))) L1 _ (x2.adopt h3 hp) (wr2.adopt h3 upd_same h2) (.dat (.dic upd_same ((RepK.merge rk .nil).mono (same_upd h3))))
    · rw [if_neg hle] at q1
      exact q1.elim
end
/-! ### d[k], d.get(k, x), k in d -/
/-- a dict: data, or in the store -/
def dicOf (S : Store) : Val → Option (List (Key × P))
  | .dat (.dic kps) => some kps
  | .loc n => (match S[n]? with | some (.dic kps) => some kps | _ => none)
  | _ => none
def keyOf : Val → Option Key
  | .dat p => pKey p
  | _ => none
theorem dicOf_ok {K : PySem.W.Frag} {mg : Str → Option Value} {F H : Hp} {L : List Addr} {S : Store} {v : V} {d : Val} {kps : List (Key × P)} (wr : WR K mg F L H S) (vr : VR K mg F L v d) (h : dicOf S d = some kps) : ∃ a kvs, v = .ref a ∧ Rd H a (.dK kvs) ∧ RepK K mg F kvs kps := by
  cases vr with
  | dat r =>
    cases r with
    | dic q rs =>
      cases h
      exact ⟨_, _, rfl, wr.sub.dic q, rs⟩
    | _ => cases h
  | loc e =>
    rename_i a n
    cases e2 : S[n]? with
    | none => simp only [dicOf, e2] at h; cases h
    | some c =>
      simp only [dicOf, e2] at h
      split at h
      · rename_i ys hc
        cases hc
        cases h
        obtain ⟨_, o, ho, cr⟩ := wr.own n a _ e e2 (by simp)
        cases cr with
        | dic r => exact ⟨a, _, rfl, .inl ho, r⟩
      · cases h
theorem keyOf_ok {K : PySem.W.Frag} {mg : Str → Option Value} {F : Hp} {L : List Addr} {v : V} {d : Val} {k : Key} (vr : VR K mg F L v d) (h : keyOf d = some k) : v = kV k := by
  cases vr with
  | dat r => exact key_rep r h
  | loc _ => cases h
def gDGet : G2 := fun x y S => match dicOf S x, keyOf y with
  | some kps, some k => (match valP kps k with | some p => .ok (.dat p) S | none => .bad)
  | _, _ => .bad
def gDIn (neg : Bool) : G2 := fun y x S => match dicOf S x, keyOf y with
  | some kps, some k => .ok (.dat (.bl (if neg then !(valP kps k).isSome else (valP kps k).isSome))) S
  | _, _ => .bad
def eDGet2 (d k x : Ex) : Ex := fun ρ S => (d ρ S).bind fun vd S1 => match dicOf S1 vd with
  | some _ => (k ρ S1).bind fun vk S2 => (x ρ S2).bind fun vx S3 => match dicOf S3 vd, keyOf vk with
    | some kps, some k => (match valP kps k with | some p => .ok (.dat p) S3 | none => .ok vx S3)
    | _, _ => .bad
  | none => .bad
section
variable {X : Cx} {W : WX} {pos : Pos} {o i f : Expr} {mo mi mf : Ex}
theorem de_dget (hu : X.A.units + 1 < cLine) (ho : dE X W o mo) (hi : dE X W i mi) (hs : NoSl i) : dE X W (.Subscript o i pos) (eOp gDGet mo mi) := by
  refine imE (pe_dget hu ho hi hs) fun σ H Q ⟨F, L, S, ρ, wr, er, q⟩ => ?_
  refine ev_then wr er q fun d S1 v F1 L1 H1 _ x1 wr1 er1 vr1 q1 => ?_
  refine ev_then wr1 er1 q1 fun d2 S2 v2 F2 L2 H2 _ x2 wr2 er2 vr2 q2 => ?_
  unfold gDGet at q2
  split at q2
  · rename_i kps k h1 h2
    obtain ⟨a, kvs, rfl, hr, rk⟩ := dicOf_ok wr2 (vr1.mono x2.fr x2.lp) h1
    have := keyOf_ok vr2 h2
    subst this
    rcases rk.val k with ⟨e1, e2⟩ | ⟨u, p, e1, e2, ru⟩
    · rw [e1] at q2; exact q2.elim
    · rw [e1] at q2
      exact ⟨a, u, rfl, .inl ⟨kvs, k, hr, rfl, e2.symm⟩, q2 u F2 L2 H2 .refl wr2 (.dat ru)⟩
  · exact q2.elim
theorem din_q {K : PySem.W.Frag} {mg : Str → Option Value} {F H : Hp} {L : List Addr} {S : Store} {neg : Bool} {v u : V} {dv du : Val} {Q : VK} {E : XK} (wr : WR K mg F L H S) (vv : VR K mg F L v dv) (vu : VR K mg F L u du) (q : Pv K mg F L H (gDIn neg dv du S) Q E) :
    ∃ a o, u = .ref a ∧ DGet H a v o ∧ Q (.bl (if neg then !o.isSome else o.isSome)) H := by
  unfold gDIn at q
  split at q
  · rename_i kps k h1 h2
    obtain ⟨a, kvs, rfl, hr, rk⟩ := dicOf_ok wr vu h1
    have := keyOf_ok vv h2
    subst this
    refine ⟨a, valV kvs k, rfl, .inl ⟨kvs, k, hr, rfl, rfl⟩, ?_⟩
    have e : (valV kvs k).isSome = (valP kps k).isSome := by
      rcases rk.val k with ⟨e1, e2⟩ | ⟨u, p, e1, e2, ru⟩ <;> rw [e1, e2] <;> rfl
    rw [e]
    exact q _ F L H .refl wr (.dat (.bl _))
  · exact q.elim
theorem de_din (hu : X.A.units + 1 < cLine) (hi : dE X W i mi) (ho : dE X W o mo) (hm : behindInMarks .In o = false := by rfl) : dE X W (.Compare i [.In] [o] pos) (eOp (gDIn false) mi mo) := by
  refine imE (pe_cmp (pc_din hu hi ho) hm) fun σ H Q ⟨F, L, S, ρ, wr, er, q⟩ => ?_
  refine ev_then wr er q fun d S1 v F1 L1 H1 _ x1 wr1 er1 vr1 q1 => ?_
  refine ev_then wr1 er1 q1 fun d2 S2 v2 F2 L2 H2 _ x2 wr2 er2 vr2 q2 => ?_
  exact din_q (neg := false) wr2 (vr1.mono x2.fr x2.lp) vr2 q2
theorem de_dnotin (hu : X.A.units + 1 < cLine) (hi : dE X W i mi) (ho : dE X W o mo) (hm : behindInMarks .NotIn o = false := by rfl) : dE X W (.Compare i [.NotIn] [o] pos) (eOp (gDIn true) mi mo) := by
  refine imE (pe_cmp (pc_dnotin hu hi ho) hm) fun σ H Q ⟨F, L, S, ρ, wr, er, q⟩ => ?_
  refine ev_then wr er q fun d S1 v F1 L1 H1 _ x1 wr1 er1 vr1 q1 => ?_
  refine ev_then wr1 er1 q1 fun d2 S2 v2 F2 L2 H2 _ x2 wr2 er2 vr2 q2 => ?_
  exact din_q (neg := true) wr2 (vr1.mono x2.fr x2.lp) vr2 q2
theorem de_dget2 {apos cpos : Pos} (hu : X.A.units + 1 < cLine) (ho : dE X W o mo) (hi : dE X W i mi) (hf : dE X W f mf) (mm : M2 X o "get" apos i f cpos) : dE X W (.Call (.Attribute o "get" apos) [i, f] [] cpos) (eDGet2 mo mi mf) := by
  refine imE (pe_dget2 hu ho hi hf mm) fun σ H Q ⟨F, L, S, ρ, wr, er, q⟩ => ?_
  refine ev_then wr er q fun d S1 v F1 L1 H1 _ x1 wr1 er1 vr1 q1 => ?_
  split at q1
  · rename_i kps0 h0
    obtain ⟨a0, kvs0, rfl, hr0, rk0⟩ := dicOf_ok wr1 vr1 h0
    refine ⟨a0, rfl, .inl ⟨kvs0, hr0⟩, ?_⟩
    refine ev_then wr1 er1 q1 fun d2 S2 v2 F2 L2 H2 _ x2 wr2 er2 vr2 q2 => ?_
    refine ev_then wr2 er2 q2 fun d3 S3 v3 F3 L3 H3 _ x3 wr3 er3 vr3 q3 => ?_
    split at q3
    · rename_i kps k h1 h2
      obtain ⟨a, kvs, ea, hr, rk⟩ := dicOf_ok wr3 ((vr1.mono x2.fr x2.lp).mono x3.fr x3.lp) h1
      cases ea
      have := keyOf_ok vr2 h2
      subst this
      refine ⟨valV kvs k, .inl ⟨kvs, k, hr, rfl, rfl⟩, ?_⟩
      rcases rk.val k with ⟨e1, e2⟩ | ⟨u, p, e1, e2, ru⟩
      · rw [e1] at q3; rw [e2]; exact q3 _ F3 L3 H3 .refl wr3 vr3
      · rw [e1] at q3; rw [e2]; exact q3 _ F3 L3 H3 .refl wr3 (.dat ru)
    · exact q3.elim
  · exact q1.elim
end
end DL
set_option Elab.async false
set_option linter.all false
set_option maxRecDepth 100000
set_option maxHeartbeats 4000000
namespace DL
open PySem PySem.Spec PyProof.Rows L2
/-! ### {k: v for x in xs if t} -/
def dcL (g : Gm) (tt : Ts) (mk mv : Ex) (ρ : Slots) : List P → List (Key × P) → Store → Rs (List (Key × P))
  | [], acc, S => .ok acc S
  | x :: r, acc, S => match g (.dat x) ρ S with
    | .nx ρ1 S1 => (match tt ρ1 S1 with
      | .ok true S2 => (match mk ρ1 S2 with
        | .ok vk S3 => (match mv ρ1 S3 with
          | .ok (.dat p) S4 => (match keyOf vk with | some k => dcL g tt mk mv ρ r (putKP acc k p) S4 | none => .bad)
          | _ => .bad)
        | _ => .bad)
      | .ok false S2 => dcL g tt mk mv ρ r acc S2
      | _ => .bad)
    | _ => .bad
def eDc (m : Im) (own : List Nat) (g : Gm) (tt : Ts) (mk mv : Ex) : Ex := fun ρ S => (m ρ S).bind fun xs S1 => if xs.length ≤ sizeLine then (dcL g tt mk mv (wipeP ρ own) xs [] S1).bind fun ps S2 => .ok (.dat (.dic ps)) S2 else .bad
theorem putKP_len (kps : List (Key × P)) (k : Key) (p : P) : (putKP kps k p).length ≤ kps.length + 1 := by
  unfold putKP
  split
  · simp
  · simp
section
variable {K : PySem.W.Frag} {mg : Str → Option Value} {F F' H H' : Hp} {L L' : List Addr} {S : Store} {p : Addr} {o : HO}
theorem dc_turn {W : WX} {m : Im} {own : List Nat} {g : Gm} {tt : Ts} {mk mv : Ex} {σ : L2.St} {Q : VK} (h : tE K mg W (eDc m own g tt mk mv) σ H Q) : tDc (tI K mg W m) (tG K mg own g) (tTs K mg Wno tt) (tE K mg Wno mk) (tE K mg Wno mv) own σ H Q := by
  obtain ⟨F, L, S, ρ, wr, er, q⟩ := h
  refine ⟨F, L, S, ρ, wr, er, ?_⟩
  unfold eDc at q
  cases e : m ρ S with
  | bad => rw [e] at q; exact q
  | exc c fs S1 => rw [e] at q; exact q
  | ok xs S1 =>
    rw [e] at q
    intro J F1 L1 H1 x1 wr1 it D hD
    have q1 := Pv.from x1 q
    simp only [Rs.bind] at q1
    by_cases hsz : xs.length ≤ sizeLine
    · rw [if_pos hsz] at q1
      refine ⟨fun i m' H' => m' = xs.length - i ∧ i ≤ xs.length ∧ ∃ F2 L2 S2 accV accP, Xt F1 L1 H1 F2 L2 H' ∧ WR K mg F2 L2 H' S2 ∧ H' D = some (.dK accV) ∧ F2 D = none ∧ D ∉ L2 ∧ RepK K mg F2 accV accP ∧ accP.length ≤ i ∧
          Pv K mg F1 L1 H1 ((dcL g tt mk mv (wipeP ρ own) (xs.drop i) accP S2).bind fun ps S3 => .ok (.dat (.dic ps)) S3) Q (fun c d H' => W c d σ H'),
        ⟨xs.length, by simp, Nat.zero_le _, F1, L1, S1, [], [], (Xt.refl).beside hD, wr1.beside (wr1.fnone hD) (wr1.notin hD), upd_same, wr1.fnone hD, wr1.notin hD, .nil, Nat.zero_le _, ?_⟩, ?_⟩
      · simp only [List.drop_zero]
        exact q1
      · rintro i m' H2 ⟨rfl, hi', F2, L2, S2, accV, accP, x2, wr2, hDl, hDF, hDL, ra, hal, q2⟩
        by_cases hlt : i < xs.length
        · right
          have hx : xs[i]? = some xs[i] := List.getElem?_eq_getElem hlt
          have hdrop : xs.drop i = xs[i] :: xs.drop (i + 1) := List.drop_eq_getElem_cons hlt
          rw [hdrop] at q2
          unfold dcL at q2
          obtain ⟨hgo, hy⟩ := it.go i xs[i] F2 L2 H2 S2 hx x2 wr2
          refine ⟨hgo, fun H' => i + 1 ≤ xs.length ∧ ∃ F3 L3 S3 accV accP, Xt F1 L1 H1 F3 L3 H' ∧ WR K mg F3 L3 H' S3 ∧ H' D = some (.dK accV) ∧ F3 D = none ∧ D ∉ L3 ∧ RepK K mg F3 accV accP ∧ accP.length ≤ i + 1 ∧
              Pv K mg F1 L1 H1 ((dcL g tt mk mv (wipeP ρ own) (xs.drop (i + 1)) accP S3).bind fun ps S3 => .ok (.dat (.dic ps)) S3) Q (fun c d H' => W c d σ H'),
            fun H' h => ⟨xs.length - (i + 1), by omega, rfl, h⟩, fun v H' y => ?_⟩
          obtain ⟨F3, x3, wr3, rv⟩ := hy v H' y
          have er3 : ER K mg F3 L2 (wipe σ own) (wipeP ρ own) := ER.wipe ((er.mono x1.fr x1.lp).mono (x2.trans x3).fr (x2.trans x3).lp) own
          refine ⟨F3, L2, S2, wipeP ρ own, .dat xs[i], wr3, er3, .dat rv, ?_⟩
          cases e2 : g (.dat xs[i]) (wipeP ρ own) S2 with
          | nx ρ4 S4 =>
            simp only [e2] at q2
            intro σ4 F4 L4 H4 x4 wr4 er4 ew
            refine ⟨ew.trans (wipe_wipe own), F4, L4, S4, ρ4, wr4, er4, ?_⟩
            have k4 := (x3.trans x4).keep hDl hDL hDF
            cases e3 : tt ρ4 S4 with
            | bad => simp only [e3] at q2; exact q2.elim
            | exc _ _ _ => simp only [e3] at q2; exact q2.elim
            | ok b S5 =>
              cases b with
              | false =>
                simp only [e3] at q2
                intro F5 L5 H5 x5 wr5
                have k5 := x5.keep k4.1 k4.2.1 k4.2.2
                exact ⟨by omega, F5, L5, S5, accV, accP, ((x2.trans x3).trans x4).trans x5, wr5, k5.1, k5.2.2, k5.2.1, ra.mono ((x3.trans x4).trans x5).fr, Nat.le_succ_of_le hal, q2⟩
              | true =>
                simp only [e3] at q2
                intro F5 L5 H5 x5 wr5
                have k5 := x5.keep k4.1 k4.2.1 k4.2.2
                refine ⟨F5, L5, S5, ρ4, wr5, er4.mono x5.fr x5.lp, ?_⟩
                cases e4 : mk ρ4 S5 with
                | bad => simp only [e4] at q2; exact q2.elim
                | exc _ _ _ => simp only [e4] at q2; exact q2.elim
                | ok dk S6 =>
                  simp only [e4] at q2
                  intro yk F6 L6 H6 x6 wr6 vr6
                  have k6 := x6.keep k5.1 k5.2.1 k5.2.2
                  refine ⟨F6, L6, S6, ρ4, wr6, (er4.mono x5.fr x5.lp).mono x6.fr x6.lp, ?_⟩
                  cases e5 : mv ρ4 S6 with
                  | bad => simp only [e5] at q2; exact q2.elim
                  | exc _ _ _ => simp only [e5] at q2; exact q2.elim
                  | ok dv S7 =>
                    cases dv with
                    | loc _ => simp only [e5] at q2; exact q2.elim
                    | dat p =>
                      simp only [e5] at q2
                      intro y F7 L7 H7 x7 wr7 vr7
                      have k7 := x7.keep k6.1 k6.2.1 k6.2.2
                      cases ek : keyOf dk with
                      | none => simp only [ek] at q2; exact q2.elim
                      | some k =>
                        simp only [ek] at q2
                        have := keyOf_ok vr6 ek
                        subst this
                        cases vr7 with
                        | dat r7 =>
                          have hl := putKP_len accP k p
                          refine ⟨accV, k, rfl, k7.1, by rw [ra.length]; omega, by omega, F7, L7, S7, putK accV k y, putKP accP k p, (((((x2.trans x3).trans x4).trans x5).trans x6).trans x7).beside hD, wr7.beside k7.2.2 k7.2.1, upd_same, k7.2.2, k7.2.1, (ra.mono ((((x3.trans x4).trans x5).trans x6).trans x7).fr).put r7, by omega, q2⟩
          | rt _ _ => simp only [e2] at q2; exact q2.elim
          | bk _ _ => simp only [e2] at q2; exact q2.elim
          | ct _ _ => simp only [e2] at q2; exact q2.elim
          | exc _ _ _ _ => simp only [e2] at q2; exact q2.elim
          | bad => simp only [e2] at q2; exact q2.elim
        · left
          have hi2 : i = xs.length := by omega
          subst hi2
          refine ⟨it.stop _ F2 L2 H2 S2 (Nat.le_refl _) x2 wr2, ?_⟩
          rw [List.drop_length] at q2
          simp only [dcL, Rs.bind] at q2
          exact q2 _ _ _ _ (x2.adopt hDF hD) (wr2.adopt hDF hDl hDL) (.dat (.dic upd_same (ra.mono (same_upd hDF))))
    · rw [if_neg hsz] at q1
      exact q1.elim
end
section
variable {X : Cx} {W : WX}
theorem de_dc {kx vx tg iter : Expr} {ifs : List Expr} {scope : Scope} {own : List (Str × Nat)} {pos : Pos} {m : Im} {g : Gm} {tt : Ts} {mk mv : Ex} (hc : X.calm = true) (hN : X.N.Nodup) (hi : dI X W tg iter m) (ok : BlkOk X.N X.env.scope scope own)
    (hg : ∀ (s : Shared) (H : Hp) (C : Addr) (cl : List (Str × Addr)) (fp : List Addr), dG (X.blk s H scope (compEnvC scope cl C X.env) fp) (own.map (·.2)) tg g) (ht : ∀ (s : Shared) (H : Hp) (C : Addr) (cl : List (Str × Addr)) (fp : List Addr), PTs (X.blk s H scope (compEnvC scope cl C X.env) fp) ifs (tTs X.K X.mg Wno tt))
    (hk : ∀ (s : Shared) (H : Hp) (C : Addr) (cl : List (Str × Addr)) (fp : List Addr), dE (X.blk s H scope (compEnvC scope cl C X.env) fp) Wno kx mk)
    (he : ∀ (s : Shared) (H : Hp) (C : Addr) (cl : List (Str × Addr)) (fp : List Addr), dE (X.blk s H scope (compEnvC scope cl C X.env) fp) Wno vx mv) (hs : ∀ x, foldedSetIterable iter X.env x = pure x := by intro _; rfl) :
    dE X W (.DictComp kx vx [⟨tg, iter, ifs, 0⟩] scope pos) (eDc m (own.map (·.2)) g tt mk mv) :=
  imE (pe_dc (g := tG X.K X.mg (own.map (·.2)) g) (tk := tE X.K X.mg Wno mk) (tv := tE X.K X.mg Wno mv) hc hN hi ok hg ht hk he hs) fun σ H Q h => dc_turn h
theorem swd_true {kx vx : Expr} {gs : List Comprehension} {scope : Scope} {pos py : Pos} {y : Str} {l : Nat} {env : Env} (hk : env.scope.kind = .function) (hy : env.scope.names.lookup y = some .local) (hl : (py.line == pos.line) = true)
    (ha : (scope.names.any fun (n, k) => n == y && (k == .local || k == .cell)) = false) : swapsWith (.DictComp kx vx gs scope pos) (some (.Name y py)) l env = pure true := by
  have ky : env.kindOf y = some .local := hy
  have hb : env.blockKind = .function := by unfold Env.blockKind; rw [hk]; rfl
  unfold swapsWith
  simp only [hb, ky, ha, Expr.pos, hl]
  rfl
theorem ds_setDc {i : Nat} {y : Str} {py : Pos} {kx vx tg iter : Expr} {ifs : List Expr} {scope : Scope} {own : List (Str × Nat)} {pos spos : Pos} {m : Im} {g : Gm} {tt : Ts} {mk mv : Ex} (hc : X.calm = true) (hN : X.N.Nodup) (hy : X.N[i]? = some y) (hyl : X.env.scope.names.lookup y = some .local)
    (hsw : swapsWith (.DictComp kx vx [⟨tg, iter, ifs, 0⟩] scope pos) (some (.Name y py)) spos.line X.env = pure true) (hi : dI X W tg iter m) (ok : BlkOk X.N X.env.scope scope own)
    (hg : ∀ (s : Shared) (H : Hp) (C : Addr) (cl : List (Str × Addr)) (fp : List Addr), dG (X.blk s H scope (compEnvC scope cl C X.env) fp) (own.map (·.2)) tg g) (ht : ∀ (s : Shared) (H : Hp) (C : Addr) (cl : List (Str × Addr)) (fp : List Addr), PTs (X.blk s H scope (compEnvC scope cl C X.env) fp) ifs (tTs X.K X.mg Wno tt))
    (hk : ∀ (s : Shared) (H : Hp) (C : Addr) (cl : List (Str × Addr)) (fp : List Addr), dE (X.blk s H scope (compEnvC scope cl C X.env) fp) Wno kx mk)
    (he : ∀ (s : Shared) (H : Hp) (C : Addr) (cl : List (Str × Addr)) (fp : List Addr), dE (X.blk s H scope (compEnvC scope cl C X.env) fp) Wno vx mv) (hs : ∀ x, foldedSetIterable iter X.env x = pure x := by intro _; rfl) :
    dS X W (.Assign [.Name y py] (.DictComp kx vx [⟨tg, iter, ifs, 0⟩] scope pos) spos) (sSet i (eDc m (own.map (·.2)) g tt mk mv)) := by
  refine ⟨fun pins s σ H D I h => ?_⟩
  rw [exec_Assign_Name_used _ _ _ _ hsw]
  refine wpAny_bind (wpAny_standAt (wpAny_bind ?_))
  show wpAny _ X.A (do let _ ← comprehension (.DictComp kx vx [⟨tg, iter, ifs, 0⟩] scope pos) scope X.env (firstIterPos [⟨tg, iter, ifs, 0⟩] pos) newDict false (eval iter X.env) (some (assign (.Name y py) X.env))) _ _ s
  have h : tDc (tI X.K X.mg W m) (tG X.K X.mg (own.map (·.2)) g) (tTs X.K X.mg Wno tt) (tE X.K X.mg Wno mk) (tE X.K X.mg Wno mv) (own.map (·.2)) σ H (fun x H1 => gName i x σ H1 D.nx) := by
    obtain ⟨F, L, S, ρ, wr, er, q⟩ := h
    exact dc_turn (ev_out wr er q fun d S1 v F1 L1 H1 _ x1 wr1 er1 vr1 q1 => q1 _ F1 L1 H1 .refl wr1 (er1.set vr1))
  refine wpAny_bind (thn (dc_core (Qf := fun _ s' => SP X pins D .next s') hc hN I hi ok hg ht hk he hs h fun L C s' m H' I' q hn f => ?_) fun _ s' hq => wpAny_pure (wpAny_pure hq))
  show wpAny _ _ (assign (.Name y py) X.env (.ref L)) _ _ _
  refine wpAny_assign_Name (store_ok2 (v := V.ref L) I' hN hy (.inl hyl) rfl (fun s2 I2 ⟨a, sb, ha⟩ => ?_) (.inr hyl))
  obtain ⟨f0, f1, f2, f3, f4, f5⟩ := f
  have haC : C ≠ a := by
    rcases ha with z | z
    · rw [z]; exact f1
    · exact fun e => f4 y a z e.symm
  refine ⟨m, hn.sameBut sb haC, fun h3 sb3 => ?_⟩
  exact ⟨_, H', I2.turned (t' := s2.toks) (fun b o hb e => (sb3.2 b hb).trans e) f0 f1 f3 f4 f5, q⟩
end
end DL
set_option Elab.async false
set_option linter.all false
set_option maxRecDepth 100000
set_option maxHeartbeats 4000000
namespace DL
open PySem PySem.Spec PyProof.Rows L2
/-! ### sorted texts -/
def leS (a b : Str) : Bool := !ltCps b.cps.toList a.cps.toList
def insS (x : Str) : List Str → List Str
  | [] => [x]
  | y :: r => if leS x y = true then x :: y :: r else y :: insS x r
def srtS : List Str → List Str
  | [] => []
  | x :: r => insS x (srtS r)
theorem ltCps_irr : ∀ a : List Nat, ltCps a a = false
  | [] => rfl
  | x :: r => by simp [ltCps, ltCps_irr r]
theorem ltCps_asym : ∀ a b : List Nat, ltCps a b = true → ltCps b a = false
  | [], [], h => by simp [ltCps] at h
  | [], _ :: _, _ => by simp [ltCps]
  | _ :: _, [], h => by simp [ltCps] at h
  | x :: r, y :: t, h => by
    simp only [ltCps, Bool.or_eq_true, decide_eq_true_eq, Bool.and_eq_true, beq_iff_eq] at h
    simp only [ltCps, Bool.or_eq_false_iff, decide_eq_false_iff_not, Bool.and_eq_false_iff]
    rcases h with h | ⟨rfl, h⟩
    · exact ⟨by omega, .inl (by simp; omega)⟩
    · exact ⟨by omega, .inr (ltCps_asym r t h)⟩
theorem ltCps_tri : ∀ a b : List Nat, ltCps a b = false → ltCps b a = false → a = b
  | [], [], _, _ => rfl
  | [], _ :: _, h, _ => by simp [ltCps] at h
  | _ :: _, [], _, h => by simp [ltCps] at h
  | x :: r, y :: t, h1, h2 => by
    simp only [ltCps, Bool.or_eq_false_iff, decide_eq_false_iff_not, Bool.and_eq_false_iff] at h1 h2
    have e : x = y := by omega
    subst e
    have h1' : ltCps r t = false := by simpa using h1.2
    have h2' : ltCps t r = false := by simpa using h2.2
    rw [ltCps_tri r t h1' h2']
theorem ltCps_trans : ∀ a b c : List Nat, ltCps a b = false → ltCps b c = false → ltCps a c = false
  | [], [], c, _, h => h
  | [], _ :: _, _, h, _ => by simp [ltCps] at h
  | _ :: _, _, [], _, _ => by simp [ltCps]
  | _ :: _, [], _ :: _, _, h => by simp [ltCps] at h
  | x :: r, y :: t, z :: u, h1, h2 => by
    simp only [ltCps, Bool.or_eq_false_iff, decide_eq_false_iff_not, Bool.and_eq_false_iff] at h1 h2 ⊢
    refine ⟨by omega, ?_⟩
    by_cases e : x = z
    · subst e
      have e2 : x = y := by omega
      subst e2
      exact .inr (ltCps_trans r t u (by simpa using h1.2) (by simpa using h2.2))
    · exact .inl (by simpa using e)
theorem str_ext {a b : Str} (h : a.cps.toList = b.cps.toList) : a = b := by
  cases a; cases b
  simp only [Str.mk.injEq]
  exact Array.toList_inj.mp h
theorem leS_anti {a b : Str} (h1 : leS a b = true) (h2 : leS b a = true) : a = b := by
  unfold leS at h1 h2
  exact str_ext (ltCps_tri _ _ (by simpa using h2) (by simpa using h1))
theorem leS_trans {a b c : Str} (h1 : leS a b = true) (h2 : leS b c = true) : leS a c = true := by
  unfold leS at *
  rw [Bool.not_eq_true'] at *
  exact ltCps_trans _ _ _ h2 h1
theorem leS_total {a b : Str} (h : leS a b = false) : leS b a = true := by
  unfold leS at *
  rw [Bool.not_eq_false'] at h
  rw [Bool.not_eq_true']
  exact ltCps_asym _ _ h
theorem ins_perm (x : Str) : ∀ l, (insS x l).Perm (x :: l)
  | [] => .refl _
  | y :: r => by
    rw [insS]
    split
    · exact .refl _
    · exact ((ins_perm x r).cons y).trans (.swap x y r)
theorem srt_perm : ∀ l, (srtS l).Perm l
  | [] => .refl _
  | x :: r => (ins_perm x (srtS r)).trans ((srt_perm r).cons x)
theorem ins_sorted (x : Str) : ∀ l : List Str, l.Pairwise (fun a b => leS a b = true) → (insS x l).Pairwise (fun a b => leS a b = true)
  | [], _ => by simp [insS]
  | y :: r, h => by
    rw [insS]
    rw [List.pairwise_cons] at h
    split
    · rename_i hxy
      refine List.pairwise_cons.mpr ⟨fun z hz => ?_, List.pairwise_cons.mpr h⟩
      rcases List.mem_cons.mp hz with rfl | hz
      · exact hxy
      · exact leS_trans hxy (h.1 z hz)
    · rename_i hxy
      refine List.pairwise_cons.mpr ⟨fun z hz => ?_, ins_sorted x r h.2⟩
      rcases List.mem_cons.mp ((ins_perm x r).mem_iff.mp hz) with rfl | hz
      · exact leS_total (by simpa using hxy)
      · exact h.1 z hz
theorem srt_sorted : ∀ l, (srtS l).Pairwise (fun a b => leS a b = true)
  | [] => .nil
  | x :: r => ins_sorted x _ (srt_sorted r)
theorem rising_pw : ∀ (l : List Str) (p : Str), risingS p l = true → (p :: l).Pairwise (fun a b => leS a b = true)
  | [], p, _ => by simp
  | x :: r, p, h => by
    rw [risingS, Bool.and_eq_true] at h
    have ih := rising_pw r x h.2
    refine List.pairwise_cons.mpr ⟨fun z hz => ?_, ih⟩
    rcases List.mem_cons.mp hz with rfl | hz
    · exact h.1
    · exact leS_trans h.1 ((List.pairwise_cons.mp ih).1 z hz)
theorem sorted_pw {l : List Str} (h : sortedS l = true) : l.Pairwise (fun a b => leS a b = true) := by
  cases l with
  | nil => exact .nil
  | cons x r => exact rising_pw r x h
theorem perm_unique : ∀ (l m : List Str), l.Perm m → l.Pairwise (fun a b => leS a b = true) → m.Pairwise (fun a b => leS a b = true) → l = m
  | [], m, p, _, _ => by rw [List.nil_perm.mp p]
  | x :: r, m, p, h1, h2 => by
    cases m with
    | nil => exact absurd p.length_eq (by simp)
    | cons y t =>
      have hx : x ∈ y :: t := p.mem_iff.mp List.mem_cons_self
      have hy : y ∈ x :: r := p.mem_iff.mpr List.mem_cons_self
      have e : x = y := by
        rcases List.mem_cons.mp hx with e | hx
        · exact e
        · rcases List.mem_cons.mp hy with e | hy
          · exact e.symm
          · exact leS_anti ((List.pairwise_cons.mp h1).1 y hy) ((List.pairwise_cons.mp h2).1 x hx)
      subst e
      rw [perm_unique r t p.cons_inv (List.pairwise_cons.mp h1).2 (List.pairwise_cons.mp h2).2]
theorem sorted_is {ys ks : List Str} (p : ys.Perm ks) (h : sortedS ys = true) : ys = srtS ks := perm_unique _ _ (p.trans (srt_perm ks).symm) (sorted_pw h) (srt_sorted ks)
/-! ### sorted, dict, list -/
def strsOf : List P → Option (List Str)
  | [] => some []
  | .str x :: r => (strsOf r).map fun xs => x :: xs
  | _ :: _ => none
def strKeys : List (Key × P) → Option (List Str)
  | [] => some []
  | (.inr x, _) :: r => (strKeys r).map fun xs => x :: xs
  | (.inl _, _) :: _ => none
theorem strsOf_ok {K : PySem.W.Frag} {mg : Str → Option Value} {F : Hp} : ∀ {vs : List V} {ps : List P} {xs : List Str}, Reps K mg F vs ps → strsOf ps = some xs → vs = xs.map V.str
  | _, _, _, .nil, e => by cases e; rfl
  | _, _, _, @Reps.cons _ _ _ v p vs ps r t, e => by
    cases p with
    | str b =>
      rw [strsOf] at e
      obtain ⟨cs, e1, e2⟩ := Option.map_eq_some_iff.mp e
      cases e2
      rw [rep_str r, strsOf_ok t e1]
      rfl
    | _ => cases e
theorem strKeys_ok : ∀ {kps : List (Key × P)} {xs : List Str}, strKeys kps = some xs → kps.map (·.1) = xs.map Sum.inr
  | [], _, e => by cases e; rfl
  | (.inr x, p) :: r, _, e => by
    rw [strKeys] at e
    obtain ⟨cs, e1, e2⟩ := Option.map_eq_some_iff.mp e
    cases e2
    rw [List.map_cons, strKeys_ok e1]
    rfl
  | (.inl _, _) :: _, _, e => by cases e
theorem reps_strs {K : PySem.W.Frag} {mg : Str → Option Value} {F : Hp} : ∀ xs : List Str, Reps K mg F (xs.map V.str) (xs.map P.str)
  | [] => .nil
  | x :: r => .cons (.str x) (reps_strs r)
def sortM : Fms := fun ds S => match ds with
  | [x] => (match dicOf S x with
    | some kps => (match strKeys kps with | some ks => if ks.length < 64 then .ok (.dat (.lst ((srtS ks).map P.str))) S else .bad | none => .bad)
    | none => (match lstOf S x with
      | some ps => (match strsOf ps with | some ks => if ks.length < 64 then .ok (.dat (.lst ((srtS ks).map P.str))) S else .bad | none => .bad)
      | none => .bad))
  | _ => .bad
section
variable {X : Cx} {W : WX}
theorem cm_sorted (hc : X.calm = true) : CallM X W (.builtin "sorted") sortM := by
  intro pins s σ H F L S xs us ds Q I wr rv vr q
  have new : ∀ (ys : List Str) (p : Addr), H p = none → Pv X.K X.mg F L H (.ok (.dat (.lst (ys.map P.str))) S) Q (fun c d H' => W c d σ H') → Q (.ref p) (upd H p (.lst (ys.map V.str))) := fun ys p hp q =>
    q _ (upd F p (.lst (ys.map V.str))) L _ (.alloc wr hp) (wr.alloc hp) (.dat (.lst (SqL.of upd_same) (reps_strs ys)))
  unfold sortM at q
  split at q
  · rename_i x
    cases vr with
    | cons vx vr =>
      cases vr
      split at q
      · rename_i kps hk
        split at q
        · rename_i ks hks
          split at q
          · rename_i hl
            obtain ⟨a, kvs, rfl, hr, rk⟩ := dicOf_ok wr vx hk
            exact call_sortedD hc pins s σ H _ us Q I rv ⟨a, kvs, ks, rfl, hr, by rw [rk.keys]; exact strKeys_ok hks, hl, fun ys p hp hs h0 => by
              rw [sorted_is hp hs]
              exact new _ p h0 q⟩
          · exact q.elim
        · exact q.elim
      · split at q
        · rename_i ps hps
          split at q
          · rename_i ks hks
            split at q
            · rename_i hl
              obtain ⟨a, vs, rfl, hq, rs⟩ := lstOf_ok wr vx hps
              rw [strsOf_ok rs hks] at hq
              exact cr_sortedS pins s σ H _ us Q I rv ⟨a, ks, rfl, hq, hl, fun ys p hp hs h0 => by
                rw [sorted_is hp hs]
                exact new _ p h0 q⟩
            · exact q.elim
          · exact q.elim
        · exact q.elim
  · exact q.elim
/-- dict(d), dict([(k, v), ..]) -/
def pairsOfP : List P → Option (List (Key × P))
  | [] => some []
  | .tup [k, v] :: r => (pKey k).bind fun k => (pairsOfP r).map fun ps => (k, v) :: ps
  | _ :: _ => none
def dictM : Fms := fun ds S => match ds with
  | [x] => (match dicOf S x with
    | some kps => .ok (.dat (.dic kps)) S
    | none => (match lstOf S x with
      | some ps => (match pairsOfP ps with | some kps => .ok (.dat (.dic (mergeKP [] kps))) S | none => .bad)
      | none => .bad))
  | _ => .bad
theorem pairsOf_ok {K : PySem.W.Frag} {mg : Str → Option Value} {F H : Hp} (s : SubF F H) : ∀ {vs : List V} {ps : List P} {kps : List (Key × P)}, Reps K mg F vs ps → pairsOfP ps = some kps → ∃ (as : List Addr) (kvs : List (Key × V)), vs = as.map V.ref ∧ Paired (fun p (kv : Key × V) => SqT K H p [kV kv.1, kv.2]) as kvs ∧ RepK K mg F kvs kps
  | _, _, _, .nil, e => by cases e; exact ⟨[], [], rfl, .nil, .nil⟩
  | _, _, _, @Reps.cons _ _ _ v p vs ps r t, e => by
    unfold pairsOfP at e
    split at e
    · rename_i heq
      cases heq
    · rename_i k u r' heq
      cases heq
      obtain ⟨key, e1, e2⟩ := Option.bind_eq_some_iff.mp e
      obtain ⟨kps', e3, e4⟩ := Option.map_eq_some_iff.mp e2
      cases e4
      obtain ⟨as, kvs, rfl, pr, rk⟩ := pairsOf_ok s t e3
      cases r with
      | tup hq rs =>
        rename_i a vs'
        cases rs with
        | cons rk' rs =>
          cases rs with
          | cons rv' rs =>
            cases rs
            have := key_rep rk' e1
            subst this
            exact ⟨a :: as, (key, _) :: kvs, rfl, .cons (s.sqt hq) pr, .cons rv' rk⟩
    · cases e
theorem cm_dict (hc : X.calm = true) : CallM X W (.type "dict") dictM := by
  intro pins s σ H F L S xs us ds Q I wr rv vr q
  unfold dictM at q
  split at q
  · rename_i x
    cases vr with
    | cons vx vr =>
      cases vr
      split at q
      · rename_i kps hk
        obtain ⟨a, kvs, rfl, hr, rk⟩ := dicOf_ok wr vx hk
        exact call_dictD pins s σ H _ us Q I rv ⟨a, kvs, rfl, hr, fun p hp => q _ (upd F p (.dK kvs)) L _ (.alloc wr hp) (wr.alloc hp) (.dat (.dic upd_same (rk.mono (same_upd (wr.fnone hp)))))⟩
      · split at q
        · rename_i ps hps
          split at q
          · rename_i kps hks
            obtain ⟨a, vs, rfl, hq, rs⟩ := lstOf_ok wr vx hps
            obtain ⟨as, kvs, rfl, pr, rk⟩ := pairsOf_ok wr.sub rs hks
            exact call_dictP hc pins s σ H _ us Q I rv ⟨a, as, kvs, rfl, hq, pr, fun p hp => q _ (upd F p (.dK (mergeK [] kvs))) L _ (.alloc wr hp) (wr.alloc hp) (.dat (.dic upd_same ((RepK.merge rk .nil).mono (same_upd (wr.fnone hp)))))⟩
          · exact q.elim
        · exact q.elim
  · exact q.elim
/-- list(d), list(xs) -/
def listM : Fms := fun ds S => match ds with
  | [x] => (match dicOf S x with
    | some kps => .ok (.dat (.lst (kps.map fun kv => keyP kv.1))) S
    | none => (match seqOf S x with
      | some ps => .ok (.dat (.lst ps)) S
      | none => .bad))
  | _ => .bad
theorem reps_keys {K : PySem.W.Frag} {mg : Str → Option Value} {F F' : Hp} : ∀ {kvs : List (Key × V)} {kps : List (Key × P)}, RepK K mg F kvs kps → Reps K mg F' (kvs.map fun kv => kV kv.1) (kps.map fun kv => keyP kv.1)
  | _, _, .nil => .nil
  | _, _, .cons _ r => .cons (rep_key _) (reps_keys r)
theorem cm_list (hc : X.calm = true) : CallM X W (.type "list") listM := by
  intro pins s σ H F L S xs us ds Q I wr rv vr q
  unfold listM at q
  split at q
  · rename_i x
    cases vr with
    | cons vx vr =>
      cases vr
      split at q
      · rename_i kps hk
        obtain ⟨a, kvs, rfl, hr, rk⟩ := dicOf_ok wr vx hk
        exact call_listD hc pins s σ H _ us Q I rv ⟨a, kvs, rfl, hr, fun p hp => q _ (upd F p _) L _ (.alloc wr hp) (wr.alloc hp) (.dat (.lst (SqL.of upd_same) (reps_keys rk)))⟩
      · split at q
        · rename_i ps hps
          obtain ⟨a, vs, rfl, hq, rs⟩ := seqOf_ok wr vx hps
          exact call_list_of pins s σ H _ us Q I rv ⟨a, vs, rfl, hq, fun p hp => q _ (upd F p (.lst vs)) L _ (.alloc wr hp) (wr.alloc hp) (.dat (.lst (SqL.of upd_same) (rs.mono (same_upd (wr.fnone hp)))))⟩
        · exact q.elim
  · exact q.elim
end
/-! ### len of a dict -/
def lenD : Fms := fun ds S => match ds with
  | [x] => (match dicOf S x with | some kps => .ok (.dat (.int kps.length)) S | none => lenM [x] S)
  | _ => .bad
section
variable {X : Cx} {W : WX}
theorem cm_lenD : CallM X W (.builtin "len") lenD := by
  intro pins s σ H F L S xs us ds Q I wr rv vr q
  unfold lenD at q
  split at q
  · rename_i x
    split at q
    · rename_i kps hk
      cases vr with
      | cons vx vr =>
        cases vr
        obtain ⟨a, kvs, rfl, hr, rk⟩ := dicOf_ok wr vx hk
        obtain ⟨u, rfl, ru⟩ := vals1 rv
        cases ru
        exact d_len I hr fun t s' I' => ⟨.int kvs.length, H, I', ⟨t, rfl⟩, by rw [rk.length]; exact q _ F L H .refl wr (.dat (.int _))⟩
    · exact cm_len pins s σ H F L S xs us _ Q I wr rv vr q
  · exact q.elim
/-! ### s.join(xs) -/
def eJn (o e : Ex) : Ex := fun ρ S => (o ρ S).bind fun v S1 => match v with
  | .dat (.str a) => (e ρ S1).bind fun w S2 => (match seqOf S2 w with
    | some ps => (match strsOf ps with
      | some ys => if (ys.map (·.length)).sum + ys.length * a.length ≤ 16777216 then .ok (.dat (.str (Txt.join a ys))) S2 else .bad
      | none => .bad)
    | none => .bad)
  | _ => .bad
theorem de_join {o e : Expr} {mo me : Ex} {apos pos : Pos} (ho : dE X W o mo) (he : dE X W e me) (hs : starEach [e] X.env = [(false, eval e X.env)] := by rfl) (hbase : attributeBase o "join" X.env (eval o X.env) = eval o X.env := by rfl) (hline : (apos.endLine == pos.line) = true := by rfl) :
    dE X W (.Call (.Attribute o "join" apos) [e] [] pos) (eJn mo me) := by
  refine imE (pe_join ho he hs hbase hline) fun σ H Q ⟨F, L, S, ρ, wr, er, q⟩ => ?_
  refine ev_then wr er q fun d S1 v F1 L1 H1 _ x1 wr1 er1 vr1 q1 => ?_
  split at q1
  · rename_i a _
    cases vr1 with
    | dat r =>
      cases r
      refine ⟨⟨a, rfl⟩, ?_⟩
      refine ev_then wr1 er1 q1 fun d2 S2 v2 F2 L2 H2 _ x2 wr2 er2 vr2 q2 => ?_
      split at q2
      · rename_i ps hps
        split at q2
        · rename_i ys hys
          split at q2
          · rename_i hl
            obtain ⟨b, vs, rfl, hq, rs⟩ := seqOf_ok wr2 vr2 hps
            rw [strsOf_ok rs hys] at hq
            exact ⟨a, b, ys, rfl, rfl, hq, hl, q2 _ F2 L2 H2 .refl wr2 (.dat (.str _))⟩
          · exact q2.elim
        · exact q2.elim
      · exact q2.elim
  · exact q1.elim
/-! ### x[lo:hi] -/
def cutP (xs : List P) (lo hi : Option Int) : List P := (xs.drop (HT.sIx xs.length 0 lo)).take (HT.sIx xs.length xs.length hi - HT.sIx xs.length 0 lo)
abbrev Po1 := Slots → Store → Rs (Option Int)
def pNone : Po1 := fun _ S => .ok none S
def pSome (m : Ex) : Po1 := fun ρ S => (m ρ S).bind fun v S1 => match v with | .dat (.int i) => .ok (some i) S1 | _ => .bad
def gSl (v : Val) (lo hi : Option Int) (S : Store) : Rs Val := match lstOf S v with
  | some xs => .ok (.dat (.lst (cutP xs lo hi))) S
  | none => (match v with
    | .dat (.str z) => if z.length ≤ sizeLine then .ok (.dat (.str (cutS z lo hi))) S else .bad
    | _ => .bad)
def eSl (e : Ex) (lo hi : Po1) : Ex := fun ρ S => (e ρ S).bind fun v S1 => (lo ρ S1).bind fun l S2 => (hi ρ S2).bind fun h S3 => gSl v l h S3
def PoP (K : PySem.W.Frag) (mg : Str → Option Value) (F : Hp) (L : List Addr) (H : Hp) (r : Rs (Option Int)) (Q : Option Int → Hp → Prop) (E : XK) : Prop := match r with
  | .ok d S' => ∀ F' L' H', Xt F L H F' L' H' → WR K mg F' L' H' S' → Q d H'
  | .exc c fs S' => XQ K mg F L H c fs S' E
  | .bad => False
def tPo (K : PySem.W.Frag) (mg : Str → Option Value) (W : WX) (m : Po1) : TO := fun σ H Q => ∃ F L S ρ, WR K mg F L H S ∧ ER K mg F L σ ρ ∧ PoP K mg F L H (m ρ S) Q fun c d H' => W c d σ H'
abbrev dO (X : Cx) (W : WX) (o : Option Expr) (m : Po1) : Prop := PO X o (tPo X.K X.mg W m)
theorem imO {o : Option Expr} {t t' : TO} (h : PO X o t) (i : ∀ σ H Q, t' σ H Q → t σ H Q) : PO X o t' := ⟨fun pins s σ H Q I q => h.run pins s σ H Q I (i σ H Q q)⟩
theorem do_none : dO X W none pNone := imO po_none fun σ H Q ⟨F, L, S, ρ, wr, er, q⟩ => q F L H .refl wr
theorem do_some {e : Expr} {m : Ex} (h : dE X W e m) : dO X W (some e) (pSome m) := by
  refine imO (po_some h) fun σ H Q ⟨F, L, S, ρ, wr, er, q⟩ => ?_
  refine ⟨F, L, S, ρ, wr, er, ?_⟩
  unfold pSome at q
  cases e1 : m ρ S with
  | bad => rw [e1] at q; exact q
  | exc c fs S1 => rw [e1] at q; exact q
  | ok d S1 =>
    rw [e1] at q
    intro v F1 L1 H1 x1 wr1 vr1
    cases vr1 with
    | loc _ => exact q.elim
    | dat r =>
      cases r with
      | int i => exact ⟨i, rfl, q F1 L1 H1 x1 wr1⟩
      | _ => exact q.elim
theorem po_then {K : PySem.W.Frag} {mg : Str → Option Value} {F H : Hp} {L : List Addr} {S : Store} {σ : L2.St} {ρ : Slots} {m : Po1} {k : Option Int → Store → Rs Val} {Q : VK} {Q' : Option Int → Hp → Prop} (wr : WR K mg F L H S) (er : ER K mg F L σ ρ) (h : Pv K mg F L H ((m ρ S).bind k) Q fun c d H' => W c d σ H')
    (hk : ∀ d S1 F1 L1 H1, Xt F L H F1 L1 H1 → WR K mg F1 L1 H1 S1 → ER K mg F1 L1 σ ρ → Pv K mg F1 L1 H1 (k d S1) Q (fun c d H' => W c d σ H') → Q' d H1) : tPo K mg W m σ H Q' := by
  refine ⟨F, L, S, ρ, wr, er, ?_⟩
  cases e : m ρ S with
  | ok d S1 =>
    rw [e] at h
    exact fun F1 L1 H1 x wr1 => hk d S1 F1 L1 H1 x wr1 (er.mono x.fr x.lp) (Pv.from x h)
  | exc c fs S1 => rw [e] at h; exact h
  | bad => rw [e] at h; exact h
theorem reps_cut {K : PySem.W.Frag} {mg : Str → Option Value} {F : Hp} {vs : List V} {ps : List P} (r : Reps K mg F vs ps) (lo hi : Option Int) : Reps K mg F (cutV vs lo hi) (cutP ps lo hi) := by
  have dr : ∀ (n : Nat) {vs : List V} {ps : List P}, Reps K mg F vs ps → Reps K mg F (vs.drop n) (ps.drop n) := by
    intro n
    induction n with
    | zero => intro vs ps r; exact r
    | succ n ih =>
      intro vs ps r
      cases r with
      | nil => exact .nil
      | cons _ r => exact ih r
  have tk : ∀ (n : Nat) {vs : List V} {ps : List P}, Reps K mg F vs ps → Reps K mg F (vs.take n) (ps.take n) := by
    intro n
    induction n with
    | zero => intro vs ps r; exact .nil
    | succ n ih =>
      intro vs ps r
      cases r with
      | nil => exact .nil
      | cons h r => exact .cons h (ih r)
  unfold cutV cutP
  rw [r.length]
  exact tk _ (dr _ r)
theorem de_slice {e : Expr} {lo hi : Option Expr} {m : Ex} {ml mh : Po1} {p2 pos : Pos} (he : dE X W e m) (hl : dO X W lo ml) (hh : dO X W hi mh) : dE X W (.Subscript e (.Slice lo hi none p2) pos) (eSl m ml mh) := by
  refine imE (pe_slice (SlR.or sl_list sl_str) he hl hh) fun σ H Q ⟨F, L, S, ρ, wr, er, q⟩ => ?_
  refine ev_then wr er q fun d S1 v F1 L1 H1 _ x1 wr1 er1 vr1 q1 => ?_
  refine po_then wr1 er1 q1 fun l S2 F2 L2 H2 x2 wr2 er2 q2 => ?_
  refine po_then wr2 er2 q2 fun h S3 F3 L3 H3 x3 wr3 er3 q3 => ?_
  have vr3 := (vr1.mono x2.fr x2.lp).mono x3.fr x3.lp
  unfold gSl at q3
  split at q3
  · rename_i xs hx
    obtain ⟨a, vs, rfl, hq, rs⟩ := lstOf_ok wr3 vr3 hx
    exact .inl ⟨a, vs, rfl, hq, fun p hp => q3 _ (upd F3 p _) L3 _ (.alloc wr3 hp) (wr3.alloc hp) (.dat (.lst (SqL.of upd_same) ((reps_cut rs l h).mono (same_upd (wr3.fnone hp)))))⟩
  · split at q3
    · rename_i z _
      split at q3
      · rename_i hz
        cases vr3 with
        | dat r =>
          cases r
          exact .inr ⟨_, rfl, hz, q3 _ F3 L3 H3 .refl wr3 (.dat (.str _))⟩
      · exact q3.elim
    · exact q3.elim
/-- f(k = v, ..) -/
theorem xe_fnK {gd : Bool} {k : Nat} {x : Str} {ks : List Str} {kws : List Keyword} {ak : Ar} {m : Fm} {p pos : Pos} (h : KFn X.prog X.w X.K X.mg X.base gd k x ks m) (hr : Room k X.A) (hG : GdOk gd X.A) (tk : Takes X W) (hg : Gl X x) (hkw : dK X W kws ak) (hall : (backToKw pos (keywordEach kws X.env)).all (·.1.isSome) = true := by rfl) (hks : (backToKw pos (keywordEach kws X.env)).filterMap (·.1) = ks := by rfl)
    (hlen : kws.length = ks.length := by rfl) (hdb : (x == ("__debug__" : Str)) = false := by decide) (hpl : ((backTo pos (starEach [] X.env)).any (·.1) || (backToKw pos (keywordEach kws X.env)).any (·.1.isNone)) = false := by rfl) :
    dE X W (.Call (.Name x p) [] kws pos) (eCall (fun ds S => if ds.length = ks.length then m ds S else .bad) ak) := by
  obtain ⟨f, hm, hk, c⟩ := h.ex
  exact de_callRK0 (callkm_fn c hr hG tk) hg hm hk hkw hall hks hlen hdb hpl
end
end DL
set_option Elab.async false
set_option linter.all false
set_option maxRecDepth 100000
set_option maxHeartbeats 4000000
namespace DL
open PySem PySem.Spec PyProof.Rows L2 ClX
theorem u1 {k : Nat} {A : Around} (h : Room k A) : A.units + 1 < cLine := by
  have := h.units
  omega
theorem isi2 {K : PySem.W.Frag} {mg : Str → Option Value} {c d : Nat} {C D : Addr} (h : ClsF K mg c C) (h' : ClsF K mg d D) (t1 : PySem.W.kitOne K (.ref C) (.ref D) = some false) (t2 : PySem.W.kitOne K (.ref D) (.ref C) = some false) : IsiF K mg [c, d] := by
  refine ⟨fun e he => ?_, fun x hx y hy hne Cx Cy e1 e2 => ?_⟩
  · simp at he
    rcases he with rfl | rfl
    · exact ⟨C, h⟩
    · exact ⟨D, h'⟩
  · simp at hx hy
    rcases hx with rfl | rfl <;> rcases hy with rfl | rfl
    · exact absurd rfl hne
    · have a := h.at_; rw [a] at e1; cases e1
      have b := h'.at_; rw [b] at e2; cases e2
      exact t1
    · have a := h'.at_; rw [a] at e1; cases e1
      have b := h.at_; rw [b] at e2; cases e2
      exact t2
    · exact absurd rfl hne
/-- two defaults: None and an int -/
theorem txd2 {K : PySem.W.Frag} {x qual : Str} {st : Stmt} {f T : Addr} {i : Int} {t : Tok} {oc : Value} {od od2 an : Option Addr} {osl osl2 : Array (Option Value)} {kV doc pm cdv ct : Value} {n : Nat} (l : K.lookup f = some ⟨oc, od, .func (PySem.W.fnOf x qual (defArgs st) (defBody st) (defScope st) (.ref T) kV doc pm an cdv ct), osl⟩)
    (c : PySem.W.codeIn K cdv qual = true) (k : PySem.W.keepIn K (.ref f) = true) (lT : K.lookup T = some ⟨.type "tuple", od2, .seq #[.none, .int i t] n, osl2⟩) : TxD K x qual st [.non, .int i] f :=
  ⟨_, ⟨⟨oc, od, .ref T, kV, doc, pm, an, cdv, ct, osl, rfl, l, c, .inr ⟨by simp, T, _, [.none, .int i t], n, rfl, lT, rfl, .cons rfl (.cons ⟨t, rfl⟩ .nil)⟩, .inl rfl⟩, k⟩⟩
end DL
set_option Elab.async false
set_option linter.all false
set_option maxRecDepth 100000
set_option maxHeartbeats 4000000
namespace DL
open PySem PySem.Spec PyProof.Rows L2 ClX
open PySem.W (Looks InstAt)
/-! ### == by an own class -/
section
variable {prog : Program} {w : World} {A : Around} {E : Value → Shared → Prop} {s : Shared} {K : PySem.W.Frag} {x y C f : Addr} {oy : Obj} {od : Option Obj}
/-- a == y, a of a built-in type that says NotImplemented, y by its own method -/
theorem rc_right {a : Value} {Ta ida : String} {Q : Value → Shared → Prop} (hu : A.units < cLine) (X : K.In s.heap) (ha : s.TypeIs a Ta) (J : InstAt s.heap y oy C od) (hsub : PySem.W.subIn K (.ref C) (.type Ta) = some false) (h1 : Slot Ta (cmpInfo .Eq).2.1 ida)
    (hc1 : ∀ Q' : Value → Shared → Prop, Q' .notImplemented s → wpAny (model prog w) A (call (.builtin ida) [a, .ref y]) Q' E s)
    (hs : PySem.W.findIn K (.ref C) "__eq__" = some (some (.ref f))) (hf : PySem.W.isFn K (.ref f) = true)
    (h : wpAny (model prog w) A (call (.ref f) [.ref y, a]) (PySem.W.CmpBack Q) E s) : wpAny (model prog w) A (richCompare .Eq a (.ref y)) Q E s := by
  have two : wpAny (model prog w) A (tryCompare (.ref y) "__eq__" a) (fun r s' => ∃ v, r = some v ∧ Q v s') E s := by
    unfold tryCompare
    refine wpAny_bind (PySem.W.ifBound_K X J hs hf (wpAny_mono h (fun v s' hv => ?_) fun _ _ e => e))
    cases v <;> first | exact hv.elim | exact wpAny_pure ⟨_, rfl, hv⟩
  rcases hi : cmpInfo CmpOp.Eq with ⟨sym, g, r⟩
  have hr : r = "__eq__" := by cases hi; rfl
  rw [hi] at h1
  simp only [richCompare, hi, ha.oneThing_none]
  try with_reducible refine wpAny_holding ?_
  refine wpAny_bind (wpAny_cRoomFor hu ?_)
  refine wpAny_bind (wpAny_typeOf ha (wpAny_bind (J.type.here ?_)))
  simp only [show (Value.type Ta != Value.ref C) = true from by simp, if_true]
  refine wpAny_bind ((PySem.W.looks_subIn X hsub).here ?_)
  simp only [Bool.false_eq_true, if_false, Bool.not_false, if_true]
  refine wpAny_bind (m := tryCompare a _ (.ref y)) (wpAny_tryCompare_declines ha h1 (hc1 _ ⟨rfl, ?_⟩))
  subst hr
  refine wpAny_bind (m := tryCompare (.ref y) _ a) (wpAny_mono two (fun r s' z => ?_) fun _ _ e => e)
  obtain ⟨v, rfl, hq⟩ := z
  exact wpAny_pure hq
theorem dec_int {i : Int} {t : Tok} {Q : Value → Shared → Prop} (hb : s.heap.get? y = some oy) (hd : oy.data = .plain) (q : Q .notImplemented s) : wpAny (model prog w) A (call (.builtin "int.__eq__") [.int i t, .ref y]) Q E s := by
  refine wpAny_call (codeAny_call_builtin F.slot_int_eq.plain F.entry_int_eq (F.slot_int_eq.check _ _ _ _ _ _ _ _ (typeIs_int s i t) (F.args_int_eq_2 _ _) ?_))
  obtain ⟨hp, g, d, tk, os⟩ := s
  obtain ⟨oc, odd, odt, osl⟩ := oy
  simp only at hd
  subst hd
  unfold Builtin.«int.__eq__»
  wp_walk using wpAny_load hb
  exact q
theorem dec_bool {b : Bool} {Q : Value → Shared → Prop} (hb : s.heap.get? y = some oy) (hd : oy.data = .plain) (q : Q .notImplemented s) : wpAny (model prog w) A (call (.builtin "int.__eq__") [.bool b, .ref y]) Q E s := by
  refine wpAny_call (codeAny_call_builtin F.slot_bool_eq.plain F.entry_int_eq (F.slot_bool_eq.check _ _ _ _ _ _ _ _ (PySem.typeIs_bool s b) (F.args_int_eq_2 _ _) ?_))
  obtain ⟨hp, g, d, tk, os⟩ := s
  obtain ⟨oc, odd, odt, osl⟩ := oy
  simp only at hd
  subst hd
  unfold Builtin.«int.__eq__»
  wp_walk using wpAny_load hb
  exact q
theorem dec_str {z : Str} {t : Tok} {Q : Value → Shared → Prop} (hb : s.heap.get? y = some oy) (hd : oy.data = .plain) (q : Q .notImplemented s) : wpAny (model prog w) A (call (.builtin "str.__eq__") [.str z t, .ref y]) Q E s := by
  refine wpAny_call (codeAny_call_builtin F.slot_str_eq.plain F.entry_str_eq (F.slot_str_eq.check _ _ _ _ _ _ _ _ (typeIs_str s z t) (F.args_str_eq_2 _ _) ?_))
  obtain ⟨hp, g, d, tk, os⟩ := s
  obtain ⟨oc, odd, odt, osl⟩ := oy
  simp only at hd
  subst hd
  unfold Builtin.«str.__eq__»
  wp_walk using wpAny_load hb
  exact q
theorem dec_none {Q : Value → Shared → Prop} (q : Q .notImplemented s) : wpAny (model prog w) A (call (.builtin "NoneType.__eq__") [.none, .ref y]) Q E s := by
  refine wpAny_call (codeAny_call_builtin F.slot_NoneType_eq.plain F.entry_NoneType_eq (F.slot_NoneType_eq.check _ _ _ _ _ _ _ _ (typeIs_none s) (F.args_NoneType_eq_2 _ _) ?_))
  obtain ⟨hp, g, d, tk, os⟩ := s
  unfold Builtin.«NoneType.__eq__»
  wp_walk
  exact q
theorem not_inst {T : String} {Q : Bool → Shared → Prop} (X : K.In s.heap) (J : InstAt s.heap y oy C od) (hsub : PySem.W.subIn K (.ref C) (.type T) = some false) (q : Q false s) : wpAny (model prog w) A (isInstance (.ref y) (.type T)) Q E s := by
  unfold isInstance
  exact wpAny_bind (J.type.here ((PySem.W.looks_subIn X hsub).here q))
theorem dec_list {l : Addr} {ol : Obj} {Q : Value → Shared → Prop} (X : K.In s.heap) (hl : s.heap.get? l = some ol) (hlc : ol.cls = .type "list") (J : InstAt s.heap y oy C od) (hsub : PySem.W.subIn K (.ref C) (.type "list") = some false) (q : Q .notImplemented s) : wpAny (model prog w) A (call (.builtin "list.__eq__") [.ref l, .ref y]) Q E s := by
  refine wpAny_call (codeAny_call_builtin F.slot_list_eq.plain F.entry_list_eq (F.slot_list_eq.check _ _ _ _ _ _ _ _ ⟨ol, hl, hlc⟩ (F.args_list_eq_2 _ _) ?_))
  unfold Builtin.«list.__eq__»
  wp_walk using not_inst X J hsub
  exact q
theorem dec_tuple {l : Addr} {ol : Obj} {Q : Value → Shared → Prop} (X : K.In s.heap) (hl : s.heap.get? l = some ol) (hlc : ol.cls = .type "tuple") (J : InstAt s.heap y oy C od) (hsub : PySem.W.subIn K (.ref C) (.type "tuple") = some false) (q : Q .notImplemented s) : wpAny (model prog w) A (call (.builtin "tuple.__eq__") [.ref l, .ref y]) Q E s := by
  refine wpAny_call (codeAny_call_builtin F.slot_tuple_eq.plain F.entry_tuple_eq (F.slot_tuple_eq.check _ _ _ _ _ _ _ _ ⟨ol, hl, hlc⟩ (F.args_tuple_eq_2 _ _) ?_))
  unfold Builtin.«tuple.__eq__»
  wp_walk using not_inst X J hsub
  exact q
theorem dec_dict {l : Addr} {ol : Obj} {Q : Value → Shared → Prop} (X : K.In s.heap) (hl : s.heap.get? l = some ol) (hlc : ol.cls = .type "dict") (J : InstAt s.heap y oy C od) (hsub : PySem.W.subIn K (.ref C) (.type "dict") = some false) (q : Q .notImplemented s) : wpAny (model prog w) A (call (.builtin "dict.__eq__") [.ref l, .ref y]) Q E s := by
  refine wpAny_call (codeAny_call_builtin F.slot_dict_eq.plain F.entry_dict_eq (F.slot_dict_eq.check _ _ _ _ _ _ _ _ ⟨ol, hl, hlc⟩ (F.args_dict_eq_2 _ _) ?_))
  unfold Builtin.«dict.__eq__»
  wp_walk using not_inst X J hsub
  exact q
end
/-! ### types of values -/
section
variable {X : Cx} {pins : List (Addr × Obj)} {σ : L2.St} {H : Hp} {s : Shared}
theorem ty_is {x : V} {u : Value} {n : String} (I : Inv X pins σ H s) (rx : RelV x u) (ty : TyX X.K H x (.type n)) (hn : n ∈ isAll) : s.TypeIs u n := by
  generalize ht : Value.type n = t at ty
  cases ty with
  | base b =>
    cases b with
    | non => cases ht; cases (show u = Value.none from rx); exact typeIs_none s
    | bl y => cases ht; cases (show u = Value.bool y from rx); exact PySem.typeIs_bool s y
    | int i => cases ht; obtain ⟨t, q⟩ := (show ∃ t, u = Value.int i t from rx); cases q; exact typeIs_int s i t
    | str y => cases ht; obtain ⟨t, q⟩ := (show ∃ t, u = Value.str y t from rx); cases q; exact typeIs_str s y t
    | flt y => cases ht; simp [isAll] at hn
    | @lst a xs ea =>
      cases ht
      cases (show u = Value.ref a from rx)
      obtain ⟨_, _, m, _, h1⟩ := (show ObjOk X.prog X.w H s.heap a (.lst xs) from I.hok a _ ea)
      exact ⟨_, h1, rfl⟩
    | @frz a ob xs ea =>
      cases ht
      cases (show u = Value.ref a from rx)
      obtain ⟨_, _, _, m, _, h1⟩ := (show ObjOk X.prog X.w H s.heap a (.frz ob (.lst xs)) from I.hok a _ ea)
      exact ⟨_, h1, rfl⟩
    | @tup a xs ea =>
      cases ht
      cases (show u = Value.ref a from rx)
      obtain ⟨_, _, _, o, h1, h2, _⟩ := (show ObjOk X.prog X.w H s.heap a (.tup xs) from I.hok a _ ea)
      exact ⟨o, h1, h2⟩
    | @dK a kvs ea =>
      cases ht
      cases (show u = Value.ref a from rx)
      obtain ⟨_, _, vs, _, o, es, ep, h1, h2, _⟩ := (show ObjOk X.prog X.w H s.heap a (.dK kvs) from I.hok a _ ea)
      exact ⟨o, h1, h2.1⟩
    | @dT a kvs ea =>
      cases ht
      cases (show u = Value.ref a from rx)
      obtain ⟨_, _, xs, _, o, es, ep, h1, h2, _⟩ := (show ObjOk X.prog X.w H s.heap a (.dT kvs) from I.hok a _ ea)
      exact ⟨o, h1, h2.1⟩
    | ins _ _ _ _ _ _ => cases ht
  | byt b => cases ht; simp [isAll] at hn
  | set e => cases ht; simp [isAll] at hn
  | @kList a o e c =>
    cases ht
    cases (show u = Value.ref a from rx)
    exact ⟨o, I.kIn a o e, c⟩
  | @kTuple a o e c =>
    cases ht
    cases (show u = Value.ref a from rx)
    exact ⟨o, I.kIn a o e, c⟩
  | @kDict a o e c =>
    cases ht
    cases (show u = Value.ref a from rx)
    exact ⟨o, I.kIn a o e, c⟩
  | @fTuple a o xs e =>
    cases ht
    cases (show u = Value.ref a from rx)
    obtain ⟨_, _, _, _, o', h1, h2, _⟩ := (show ObjOk X.prog X.w H s.heap a (.frz o (.tup xs)) from I.hok a _ e)
    exact ⟨o', h1, h2⟩
  | @fDict a o kvs e =>
    cases ht
    cases (show u = Value.ref a from rx)
    obtain ⟨_, _, _, vs, _, o', es, ep, h1, h2, _⟩ := (show ObjOk X.prog X.w H s.heap a (.frz o (.dK kvs)) from I.hok a _ e)
    exact ⟨o', h1, h2.1⟩
end
/-! ### == and != of own classes -/
structure EqC (K : PySem.W.Frag) (C f : Addr) : Prop where
  at_ : PySem.W.findIn K (.ref C) "__eq__" = some (some (.ref f))
  fn : PySem.W.isFn K (.ref f) = true
  subB : ∀ n ∈ isAll, PySem.W.subIn K (.ref C) (.type n) = some false
  supB : ∀ n ∈ isAll, PySem.W.subIn K (.type n) (.ref C) = some false
def lookM (ms : List (Nat × Fm)) (c : Nat) : Option Fm := (ms.find? (·.1 == c)).map (·.2)
def tagIn (ms : List (Nat × Fm)) : Tg → Bool
  | .b _ => true
  | .o d => (lookM ms d).isSome
def boolRs (r : Rs Val) : Rs Val := match r with
  | .ok (.dat (.bl b)) S => .ok (.dat (.bl b)) S
  | .exc c fs S => .exc c fs S
  | _ => .bad
def gEqO (ms : List (Nat × Fm)) (base : G2) : G2 := fun x y S => match tgOf S x, tgOf S y with
  | some (.o c), some t => (match lookM ms c with
    | some m => if tagIn ms t = true then boolRs (m [x, y] S) else .bad
    | none => .bad)
  | some (.b _), some (.o c) => (match lookM ms c with | some m => boolRs (m [y, x] S) | none => .bad)
  | _, _ => base x y S
/-- what the classes of the table must have -/
structure EqTab (Pg : Program) (w : World) (K : PySem.W.Frag) (mg : Str → Option Value) (base : Heap) (gd : Bool) (k : Nat) (ms : List (Nat × Fm)) : Prop where
  cls : ∀ c m, lookM ms c = some m → ∃ C f, mg (cn c) = some (.ref C) ∧ EqC K C f ∧ Cal Pg w K mg base gd k f [] m
  two : ∀ c d, c ≠ d → (lookM ms c).isSome = true → (lookM ms d).isSome = true → ∀ C D, mg (cn c) = some (.ref C) → mg (cn d) = some (.ref D) → PySem.W.subIn K (.ref D) (.ref C) = some false
section
variable {X : Cx} {W : WX} {gd : Bool} {k : Nat} {ms : List (Nat × Fm)} {base : G2}
inductive Shp : String → Value → Prop where
  | non : Shp "NoneType" .none
  | bl (b) : Shp "bool" (.bool b)
  | int (i t) : Shp "int" (.int i t)
  | str (x t) : Shp "str" (.str x t)
  | lst (l) : Shp "list" (.ref l)
  | tup (l) : Shp "tuple" (.ref l)
  | dic (l) : Shp "dict" (.ref l)
theorem shp_of {K : PySem.W.Frag} {mg : Str → Option Value} {F : Hp} {L : List Addr} {S : Store} {x : V} {d : Val} {v : Value} {n : String} (vr : VR K mg F L x d) (r : RelV x v) (h : tgOf S d = some (.b n)) : Shp n v := by
  cases vr with
  | dat q =>
    cases q with
    | non => cases h; cases (show v = Value.none from r); exact .non
    | bl b => cases h; cases (show v = Value.bool b from r); exact .bl b
    | int i => cases h; obtain ⟨t, q⟩ := (show ∃ t, v = Value.int i t from r); cases q; exact .int i t
    | str i => cases h; obtain ⟨t, q⟩ := (show ∃ t, v = Value.str i t from r); cases q; exact .str i t
    | lst _ _ => cases h; cases (show v = Value.ref _ from r); exact .lst _
    | tup _ _ => cases h; cases (show v = Value.ref _ from r); exact .tup _
    | dic _ _ => cases h; cases (show v = Value.ref _ from r); exact .dic _
    | obj _ _ _ _ => cases h
    | cls _ => cases h
    | bty _ => cases h
  | loc e =>
    rename_i a m
    cases (show v = Value.ref a from r)
    cases e2 : S[m]? with
    | none => simp only [tgOf, e2] at h; cases h
    | some ct =>
      simp only [tgOf, e2] at h
      split at h
      · cases h; exact .lst _
      · cases h; exact .dic _
      · cases h
      · cases h
theorem looks_ty {M : Model} {s : Shared} {u : Value} {n : String} (t : s.TypeIs u n) : Looks M s.heap (typeOf u) (.type n) := by
  cases u with
  | ref a =>
    obtain ⟨o, h1, h2⟩ := t
    exact h2 ▸ (Looks.ld h1).andThen .now
  | _ => exact .of_pure t
theorem rel_notni' {v : V} {u : Value} (r : RelV v u) : u ≠ .notImplemented := rel_notni r
theorem cmpback {Q : Value → Shared → Prop} {v : Value} {s' : Shared} (hv : v ≠ .notImplemented) (q : Q v s') : PySem.W.CmpBack Q v s' := by
  cases v <;> first | exact absurd rfl hv | exact q
theorem om_eqO (T : EqTab X.prog X.w X.K X.mg X.base gd k ms) (hu : X.A.units < cLine) (hr : Room k X.A) (hG : GdOk gd X.A) (tk : Takes X W) (hb : OpM X W (compareOp .Eq) base) : OpM X W (compareOp .Eq) (gEqO ms base) := by
  intro pins s σ H F L S x y v u dx dy Q I wr rx ry vx vy q
  unfold gEqO at q
  have KX := I.kIn
  have go : ∀ {f : Addr} {m : Fm} {us : List Value} {vs : List V} {ds : List Val}, Cal X.prog X.w X.K X.mg X.base gd k f [] m → Vals vs us → VRs X.K X.mg F L vs ds → Pv X.K X.mg F L H (boolRs (m ds S)) Q (fun c d H' => W c d σ H') →
      wpAny (model X.prog X.w) X.A (call (.ref f) us) (PySem.W.CmpBack (EP X pins σ Q)) X.xe s := fun {f m us vs ds} cf r vr q =>
    thn (run_cal0 (Q := Q) cf (sub_here hr) hG tk I wr r vr (by
      unfold boolRs at q
      cases e : m ds S with
      | bad => rw [e] at q; exact q.elim
      | exc c fs S1 => rw [e] at q; exact q
      | ok z S1 =>
        rw [e] at q
        cases z with
        | loc _ => exact q.elim
        | dat p =>
          cases p with
          | bl b => exact q
          | _ => exact q.elim)) fun v s' e => cmpback (by obtain ⟨z, H', I', r', _⟩ := e; exact rel_notni r') e
  show wpAny (model X.prog X.w) X.A (richCompare .Eq v u) (EP X pins σ Q) X.xe s
  split at q
  · rename_i c t h1 h2
    split at q
    · rename_i m hm
      split at q
      · rename_i htg
        obtain ⟨C, f, hc, ec, cal⟩ := T.cls c m hm
        obtain ⟨a, da, oa, rfl, Ja⟩ := inst_at I wr vx rx h1 hc
        obtain ⟨mA, hF⟩ := I.fr
        have g := go cal (.cons rx (.cons ry .nil)) (.cons vx (.cons vy .nil)) q
        cases t with
        | b n =>
          obtain ⟨ty, hn⟩ := tgOf_b wr vy h2
          have ti := ty_is I ry ty hn
          refine PySem.W.cmp_K (op := .Eq) (tb := .type n) hu hF I.ok.mod.kin Ja (looks_ty ti) ?_ ec.at_ ec.fn g
          unfold PySem.W.notFirst
          rw [ec.supB n hn]
          simp
        | o d =>
          have hd : (lookM ms d).isSome = true := htg
          obtain ⟨md, hmd⟩ := Option.isSome_iff_exists.mp hd
          obtain ⟨D, f', hcd, ed, _⟩ := T.cls d md hmd
          obtain ⟨b, db, ob, rfl, Jb⟩ := inst_at I wr vy ry h2 hcd
          refine PySem.W.cmp_K (op := .Eq) (tb := .ref D) hu hF I.ok.mod.kin Ja Jb.type ?_ ec.at_ ec.fn g
          unfold PySem.W.notFirst
          by_cases e : c = d
          · subst e
            rw [hc] at hcd
            cases hcd
            simp
          · rw [T.two c d e (by rw [hm]; rfl) hd C D hc hcd]
            simp
      · exact q.elim
    · exact q.elim
  · rename_i n c h1 h2
    split at q
    · rename_i m hm
      obtain ⟨C, f, hc, ec, cal⟩ := T.cls c m hm
      obtain ⟨b, db, ob, rfl, Jb⟩ := inst_at I wr vy ry h2 hc
      obtain ⟨ty, hn⟩ := tgOf_b wr vx h1
      have ti := ty_is I rx ty hn
      have g := go cal (.cons ry (.cons rx .nil)) (.cons vy (.cons vx .nil)) q
      have hs := ec.subB n hn
      have pl : (PySem.W.instObj C db).data = .plain := rfl
      have fin : ∀ ida, Slot n (cmpInfo .Eq).2.1 ida → (∀ Q' : Value → Shared → Prop, Q' .notImplemented s → wpAny (model X.prog X.w) X.A (call (.builtin ida) [v, .ref b]) Q' X.xe s) → wpAny (model X.prog X.w) X.A (richCompare .Eq v (.ref b)) (EP X pins σ Q) X.xe s :=
        fun ida sl hd => rc_right hu KX ti Jb hs sl hd ec.at_ ec.fn g
      cases shp_of vx rx h1 with
      | non => exact fin _ PySem.F.slot_NoneType_eq fun Q' q' => dec_none q'
      | bl b' => exact fin _ PySem.F.slot_bool_eq fun Q' q' => dec_bool Jb.at_ pl q'
      | int i t => exact fin _ PySem.F.slot_int_eq fun Q' q' => dec_int Jb.at_ pl q'
      | str z t => exact fin _ PySem.F.slot_str_eq fun Q' q' => dec_str Jb.at_ pl q'
      | lst l =>
        obtain ⟨ol, h1, h2⟩ := ti
        exact fin _ PySem.F.slot_list_eq fun Q' q' => dec_list KX h1 h2 Jb hs q'
      | tup l =>
        obtain ⟨ol, h1, h2⟩ := ti
        exact fin _ PySem.F.slot_tuple_eq fun Q' q' => dec_tuple KX h1 h2 Jb hs q'
      | dic l =>
        obtain ⟨ol, h1, h2⟩ := ti
        exact fin _ PySem.F.slot_dict_eq fun Q' q' => dec_dict KX h1 h2 Jb hs q'
    · exact q.elim
  · exact hb pins s σ H F L S x y v u dx dy Q I wr rx ry vx vy q
end
end DL
set_option Elab.async false
set_option linter.all false
set_option maxRecDepth 100000
set_option maxHeartbeats 4000000
namespace DL
open PySem PySem.Spec PyProof.Rows L2 ClX
open PySem.W (Looks InstAt)
/-! ### != by an own class that has an own == alone -/
section
variable {M : Model} {prog : Program} {w : World} {A : Around} {E : Value → Shared → Prop} {s : Shared} {K : PySem.W.Frag} {x C f L : Addr} {ox : Obj} {od : Option Obj} {b tb : Value} {h₀ : Heap} {m : Str → Option Value}
theorem ifBound_objNe {args : List Value} {Q : Option Value → Shared → Prop} (X : K.In s.heap) (I : PySem.W.InstAt s.heap x ox C od) (hs : PySem.W.findIn K (.ref C) "__ne__" = some (some (.builtin "object.__ne__")))
    (h : wpAny M A (call (.builtin "object.__ne__") (.ref x :: args)) (fun v => Q (some v)) E s) : wpAny M A (callSpecialIfBound? (.ref x) "__ne__" args) Q E s := by
  simp only [callSpecialIfBound?, bindSpecialIfBound?]
  refine wpAny_holding (wpAny_bind (wpAny_bind (wpAny_bind (I.type.here ((PySem.W.looks_findIn X hs).here ?_)))))
  refine wpAny_bind (wpAny_askSetting (wpAny_ite ?_))
  have fin : wpAny M A (call (.builtin "object.__ne__") ([.ref x] ++ args) >>= fun v => pure (some v)) Q E s := wpAny_bind (wpAny_mono h (fun v s' h' => wpAny_pure h') fun _ _ h' => h')
  split
  · exact wpAny_bind (wpAny_of_eq (F.cmp_object.ne.bind _) (wpAny_pure (by exact fin)))
  · exact wpAny_tryCatch (wpAny_bind (wpAny_of_eq (F.cmp_object.ne.bind _) (wpAny_pure (by exact fin))))
theorem entry_ne {Q : Fin → Shared → Prop} (hu : A.units < cLine) (X : K.In s.heap) (I : PySem.W.InstAt s.heap x ox C od) (hs : PySem.W.findIn K (.ref C) "__eq__" = some (some (.ref f))) (hf : PySem.W.isFn K (.ref f) = true)
    (h : wpAny M A (call (.ref f) [.ref x, b]) (fun v s' => ∃ c, v = .bool c ∧ Q (.done (.ret (.bool (!c)))) s') E s) : wpAny M A (Builtin.«object.__ne__» ⟨[.ref x, b], []⟩) Q E s := by
  unfold Builtin.«object.__ne__»
  repeat (first
    | with_reducible refine wpAny_cRoomFor hu ?_
    | (refine wpAny_bind (m := callSpecialIfBound? (.ref x) _ [b])
        (PySem.W.ifBound_K X I hs hf (wpAny_mono h (fun r s' hr => by
          obtain ⟨c, rfl, hq⟩ := hr
          repeat (first | exact hq | exact wpAny_pure hq | exact wpAny_truthy_bool hq | (refine wpAny_bind (m := truthy (.bool _)) (wpAny_truthy_bool ?_)) | wp_step)) fun _ _ e => e)))
    | wp_step)
theorem cmp_KNe {Q : Value → Shared → Prop} (hu : A.units + 1 < cLine) (X : K.In s.heap) (I : PySem.W.InstAt s.heap x ox C od) (hb : Looks (model prog w) s.heap (typeOf b) tb) (hn : PySem.W.notFirst K C tb = true)
    (hne : PySem.W.findIn K (.ref C) "__ne__" = some (some (.builtin "object.__ne__"))) (hm : PySem.W.mroIn K C (.type "object") = some true)
    (hs : PySem.W.findIn K (.ref C) "__eq__" = some (some (.ref f))) (hf : PySem.W.isFn K (.ref f) = true)
    (h : wpAny (model prog w) A.in1 (call (.ref f) [.ref x, b]) (fun v s' => ∃ c, v = .bool c ∧ Q (.bool (!c)) s') E s) : wpAny (model prog w) A (richCompare .NotEq (.ref x) b) Q E s := by
  have one : wpAny (model prog w) A (tryCompare (.ref x) "__ne__" b) (fun r s' => ∃ v, r = some v ∧ Q v s') E s := by
    unfold tryCompare
    refine wpAny_bind (ifBound_objNe X I hne (wpAny_call (codeAny_call_builtin F.cmp_object.ne.plain F.cmpEntry_ne (PySem.W.check_slot F.cmpKind_ne F.cmpSplit_ne (I.type.andThen (PySem.W.looks_mroIn X hm)) (F.cmpArgs_ne _ _)
      (entry_ne (A := A.in1) hu X I hs hf (wpAny_mono h (fun v s' hv => ?_) fun _ _ e => e))))))
    obtain ⟨c, rfl, hq⟩ := hv
    first | exact ⟨c, rfl, wpAny_pure ⟨_, rfl, hq⟩⟩ | exact ⟨c, rfl, _, rfl, hq⟩
  unfold richCompare
  simp only [oneThing_ref]
  refine wpAny_holding (wpAny_bind (wpAny_cRoomFor (Nat.lt_of_succ_lt hu) ?_))
  rw [cmpInfo_NotEq]
  dsimp only
  refine wpAny_bind (I.type.here (wpAny_bind (hb.here ?_)))
  split
  · rename_i q
    have e : PySem.W.subIn K tb (.ref C) = some false := by
      rcases Bool.or_eq_true_iff.mp hn with e | e
      · rw [beq_iff_eq.mp e] at q; simp at q
      · exact beq_iff_eq.mp e
    refine wpAny_bind ((PySem.W.looks_subIn X e).here ?_)
    simp only [Bool.false_eq_true, if_false]
    refine wpAny_bind (wpAny_mono one (fun r s' z => ?_) fun _ _ e => e)
    obtain ⟨v, rfl, hq⟩ := z
    exact wpAny_pure hq
  · refine wpAny_bind (wpAny_pure ?_)
    simp only [Bool.false_eq_true, if_false]
    refine wpAny_bind (wpAny_mono one (fun r s' z => ?_) fun _ _ e => e)
    obtain ⟨v, rfl, hq⟩ := z
    exact wpAny_pure hq
end
/-! ### in, where the items' == may do things -/
section
open MeetsSeq
variable {prog : Program} {w : World} {A : Around} {R : Result → Shared → Prop}
theorem contains_loopG (l : Addr) (x : Value) (N : Nat) (I : Nat → Shared → Prop)
    (hl : ∀ i s, I i s → ∃ (items : Array Value) (n : Nat) (dd : Option Addr) (sl : Array (Option Value)), s.heap.get? l = some { cls := .type "list", dict := dd, data := .seq items n, slots := sl } ∧ items.size = N ∧
      ∀ (h : i < items.size), wpAny (model prog w) A.in1 (eqBool items[i] x) (fun r s' => if r = true then R (.ok (.ret (.bool true))) s' else I (i + 1) s') (fun e s' => R (.error e) s') s)
    (fin : ∀ s, I N s → R (.ok (.ret (.bool false))) s) (k : Nat) :
    ∀ i : Nat, N - i = k → i ≤ N → ∀ s, I i s →
      wpAny (model prog w) A.in1 (Builtin.«list.__contains__.loop» ⟨[.ref l, x, rawInt i], []⟩) (GQ.FinOf prog w A R) (fun e s' => R (.error e) s') s := by
  induction k with
  | zero =>
    intro i hk hi s h
    obtain ⟨items, n, dd, sl, hl1, hs1, _⟩ := hl _ _ h
    have hi' : i = N := by omega
    have hR : R (.ok (.ret (.bool false))) s := fin s (hi' ▸ h)
    obtain ⟨hp, g, d, tk, os⟩ := s
    wp_walk using AutoSeq1.wpAny_loadPart' hl1
    have hi1 : items[((i : Nat) : Int).toNat]? = none := by simp; omega
    rw [hi1]
    wp_walk
    exact hR
  | succ k ih =>
    intro i hk hi s h
    obtain ⟨items, n, dd, sl, hl1, hs1, turn⟩ := hl _ _ h
    have hlt : i < items.size := by omega
    have ht := turn hlt
    obtain ⟨hp, g, d, tk, os⟩ := s
    wp_walk using AutoSeq1.wpAny_loadPart' hl1
    have hi1 : items[((i : Nat) : Int).toNat]? = some items[i] := by simp [hlt]
    have hc : ((i : Int) + 1) = ((i + 1 : Nat) : Int) := by omega
    rw [hi1]
    refine wpAny_bind (wpAny_mono ht (fun r s2 h2 => ?_) fun _ _ x => x)
    cases r with
    | true =>
      have hR : R (.ok (.ret (.bool true))) s2 := by simpa using h2
      obtain ⟨hp2, g2, d2, tk2, os2⟩ := s2
      wp_walk
      exact hR
    | false =>
      have hrec := ih (i + 1) (by omega) (by omega) s2 (by simpa using h2)
      obtain ⟨hp2, g2, d2, tk2, os2⟩ := s2
      wp_walk
      rw [hc]
      exact ⟨plainId_quiet plain_contains_loop _, codeAny_builtin entry_contains_loop (by
        rw [Around.under_plainId plain_contains_loop _]
        exact hrec)⟩
end
section
open MeetsSeq
variable {prog : Program} {w : World} {A : Around} {E : Value → Shared → Prop} {s : Shared}
theorem call_containsG (l : Addr) (x : Value) (N : Nat) (I : Nat → Shared → Prop) {Q : Value → Shared → Prop}
    (hl : ∀ i s, I i s → ∃ (items : Array Value) (n : Nat) (dd : Option Addr) (sl : Array (Option Value)), s.heap.get? l = some { cls := .type "list", dict := dd, data := .seq items n, slots := sl } ∧ items.size = N ∧
      ∀ (h : i < items.size), wpAny (model prog w) A.in1 (eqBool items[i] x) (fun r s' => if r = true then Q (.bool true) s' else I (i + 1) s') E s)
    (fin : ∀ s, I N s → Q (.bool false) s) (h : I 0 s) : wpAny (model prog w) A (call (.builtin "list.__contains__") [.ref l, x]) Q E s := by
  obtain ⟨items, n, dd, sl, hl1, hs1, _⟩ := hl _ _ h
  refine GQ.call_here F.slot_list_contains ⟨_, hl1, rfl⟩ F.entry_list_contains (F.args_list_contains_2 _ _) ?_
  have hrec := contains_loopG (A := A) (R := wants Q E) l x N I hl fin _ 0 rfl (Nat.zero_le _) s h
  obtain ⟨hp, g, d, tk, os⟩ := s
  wp_walk using AutoSeq1.wpAny_loadPart' hl1
  exact ⟨plainId_quiet plain_contains_loop _, codeAny_builtin entry_contains_loop (by
    rw [Around.under_plainId plain_contains_loop _]
    exact hrec)⟩
end
/-! ### the rules for data -/
structure NeTab (K : PySem.W.Frag) (mg : Str → Option Value) (ms : List (Nat × Fm)) : Prop where
  at_ : ∀ c m, lookM ms c = some m → ∀ C, mg (cn c) = some (.ref C) → PySem.W.findIn K (.ref C) "__ne__" = some (some (.builtin "object.__ne__")) ∧ PySem.W.mroIn K C (.type "object") = some true
def negRs (r : Rs Val) : Rs Val := match r with
  | .ok (.dat (.bl b)) S => .ok (.dat (.bl (!b))) S
  | .exc c fs S => .exc c fs S
  | _ => .bad
def gNeO (ms : List (Nat × Fm)) (base : G2) : G2 := fun x y S => match tgOf S x, tgOf S y with
  | some (.o c), some t => (match lookM ms c with
    | some m => if tagIn ms t = true then negRs (m [x, y] S) else .bad
    | none => .bad)
  | _, _ => base x y S
/-- flat data that is told apart -/
def eqFl : P → P → Bool
  | .non, .non => true
  | .bl a, .bl b => a == b
  | .int a, .int b => decide (a = b)
  | .str a, .str b => decide (a = b)
  | _, _ => false
def flP : P → Bool
  | .non | .bl _ | .int _ | .str _ => true
  | _ => false
def eqFs : List (Str × P) → List (Str × P) → Bool
  | [], [] => true
  | (_, p) :: r, (_, q) :: t => eqFl p q && eqFs r t
  | _, _ => false
def flFs (fs : List (Str × P)) : Bool := fs.all fun kp => flP kp.2
open Classical in
/-- x in a list of objects of its class, one by one -/
noncomputable def inL (m : Fm) (c : Nat) (fs : List (Str × P)) : List P → Store → Rs Val
  | [], S => .ok (.dat (.bl false)) S
  | .obj d gs :: r, S => if d = c ∧ flFs gs = true then (match m [.dat (.obj d gs), .dat (.obj c fs)] S with
    | .ok (.dat (.bl b)) S1 => if S1 = S then (if b = true then .ok (.dat (.bl true)) S else if eqFs gs fs = true then .bad else inL m c fs r S) else .bad
    | _ => .bad) else .bad
  | _ :: _, _ => .bad
noncomputable def gInO (ms : List (Nat × Fm)) (base : G2) : G2 := fun x y S => match x, y with
  | .dat (.obj c fs), .dat (.lst ps) => (match lookM ms c with
    | some m => inL m c fs ps S
    | none => .bad)
  | _, _ => base x y S
section
variable {K : PySem.W.Frag} {mg : Str → Option Value} {F : Hp}
theorem rep_fl {v : V} {p q : P} (a : Rep K mg F v p) (b : Rep K mg F v q) (h : flP p = true) : eqFl p q = true := by
  cases a <;> first | (exfalso; revert h; simp [flP]; done) | (cases b <;> simp [eqFl])
theorem rep_objI {v : V} {c : Nat} {fs : List (Str × P)} (h : Rep K mg F v (.obj c fs)) : ∃ a C dx fv, v = .ref a ∧ mg (cn c) = some (.ref C) ∧ F a = some (.ins C dx fv) ∧ FsOk K C fv ∧ RepF K mg F fv fs := by
  cases h with
  | obj h1 h2 h3 h4 => exact ⟨_, _, _, _, rfl, h1, h2, h3, h4⟩
theorem rep_lstI {v : V} {ps : List P} (h : Rep K mg F v (.lst ps)) : ∃ a vs, v = .ref a ∧ SqL K F a vs ∧ Reps K mg F vs ps := by
  cases h with
  | lst h1 h2 => exact ⟨_, _, rfl, h1, h2⟩
theorem repF_fl : ∀ {vs : List (Str × V)} {fs gs : List (Str × P)}, RepF K mg F vs fs → RepF K mg F vs gs → flFs fs = true → eqFs fs gs = true
  | _, _, _, .nil, .nil, _ => rfl
  | _, _, _, .cons a r, .cons b t, h => by
    rw [flFs, List.all_cons, Bool.and_eq_true] at h
    rw [eqFs, rep_fl a b h.1, repF_fl r t h.2]
    rfl
end
section
variable {X : Cx} {W : WX} {gd : Bool} {k : Nat} {ms : List (Nat × Fm)} {base : G2}
theorem om_neO (T : EqTab X.prog X.w X.K X.mg X.base gd k ms) (N : NeTab X.K X.mg ms) (hr : Room (k + 1) X.A) (hG : GdOk gd X.A) (tk : Takes X W) (hb : OpM X W (compareOp .NotEq) base) : OpM X W (compareOp .NotEq) (gNeO ms base) := by
  intro pins s σ H F L S x y v u dx dy Q I wr rx ry vx vy q
  unfold gNeO at q
  have KX := I.kIn
  show wpAny (model X.prog X.w) X.A (richCompare .NotEq v u) (EP X pins σ Q) X.xe s
  split at q
  · rename_i c t h1 h2
    split at q
    · rename_i m hm
      split at q
      · rename_i htg
        obtain ⟨C, f, hc, ec, cal⟩ := T.cls c m hm
        obtain ⟨n1, n2⟩ := N.at_ c m hm C hc
        obtain ⟨a, da, oa, rfl, Ja⟩ := inst_at I wr vx rx h1 hc
        have hu : X.A.units + 1 < cLine := hr.in1.units0
        have g : wpAny (model X.prog X.w) X.A.in1 (call (.ref f) [.ref a, u]) (fun v s' => ∃ c, v = .bool c ∧ EP X pins σ Q (.bool (!c)) s') X.xe s := by
          refine thn (run_cal0 (Q := fun z H' => ∃ c, z = .bl c ∧ Q (.bl (!c)) H') cal (sub_here hr).in1 hG tk I wr (.cons rx (.cons ry .nil)) (.cons vx (.cons vy .nil)) ?_) fun v s' e => ?_
          · unfold negRs at q
            cases e : m [dx, dy] S with
            | bad => rw [e] at q; exact q.elim
            | exc c fs S1 => rw [e] at q; exact q
            | ok z S1 =>
              rw [e] at q
              cases z with
              | loc _ => exact q.elim
              | dat p =>
                cases p with
                | bl b =>
                  intro v F1 L1 H1 x1 w1 r1
                  cases r1 with
                  | dat r1 => cases r1; exact ⟨b, rfl, q (.bl (!b)) F1 L1 H1 x1 w1 (.dat (.bl _))⟩
                | _ => exact q.elim
          · obtain ⟨z, H', I', r', c, rfl, q'⟩ := e
            cases (show v = Value.bool c from r')
            exact ⟨c, rfl, .bl (!c), H', I', rfl, q'⟩
        cases t with
        | b n =>
          obtain ⟨ty, hn⟩ := tgOf_b wr vy h2
          have ti := ty_is I ry ty hn
          refine cmp_KNe (tb := .type n) hu KX Ja (looks_ty ti) ?_ n1 n2 ec.at_ ec.fn g
          unfold PySem.W.notFirst
          rw [ec.supB n hn]
          simp
        | o d =>
          have hd : (lookM ms d).isSome = true := htg
          obtain ⟨md, hmd⟩ := Option.isSome_iff_exists.mp hd
          obtain ⟨D, f', hcd, ed, _⟩ := T.cls d md hmd
          obtain ⟨b, db, ob, rfl, Jb⟩ := inst_at I wr vy ry h2 hcd
          refine cmp_KNe (tb := .ref D) hu KX Ja Jb.type ?_ n1 n2 ec.at_ ec.fn g
          unfold PySem.W.notFirst
          by_cases e : c = d
          · subst e
            rw [hc] at hcd
            cases hcd
            simp
          · rw [T.two c d e (by rw [hm]; rfl) hd C D hc hcd]
            simp
      · exact q.elim
    · exact q.elim
  · exact hb pins s σ H F L S x y v u dx dy Q I wr rx ry vx vy q
theorem om_inO (T : EqTab X.prog X.w X.K X.mg X.base gd k ms) (hr : Room (k + 1) X.A) (hG : GdOk gd X.A) (tk : Takes X W) (hb : OpM X W (compareOp .In) base) : OpM X W (compareOp .In) (gInO ms base) := by
  intro pins s σ H F L S x y v u dx dy Q I wr rx ry vx vy q
  unfold gInO at q
  split at q
  · rename_i c fs ps
    split at q
    · rename_i m hm
      obtain ⟨C, f, hc, ec, cal⟩ := T.cls c m hm
      cases vx with
      | dat vx =>
      cases vy with
      | dat vy =>
      obtain ⟨a, C', dx', fv, rfl, hc', hFa, fok, rf⟩ := rep_objI vx
      obtain ⟨l, vs, rfl, hS, rps⟩ := rep_lstI vy
      rw [hc] at hc'
      cases hc'
      cases (show v = Value.ref a from rx)
      cases (show u = Value.ref l from ry)
      have hu : X.A.units + 1 < cLine := hr.in1.units0
      obtain ⟨its, rv, hil, _⟩ := I.list (wr.sub.seq hS)
      refine In_slot (T := "list") (by obtain ⟨o, n, ho, hcl, _⟩ := hil; exact ⟨o, ho, hcl⟩) PySem.F.slot_list_contains
        (call_containsG l (.ref a) vs.length (fun i s' => ∃ F' L' H' S', Inv X pins σ H' s' ∧ Xt F L H F' L' H' ∧ WR X.K X.mg F' L' H' S' ∧ Pv X.K X.mg F' L' H' (inL m c fs (ps.drop i) S') Q fun c d H' => W c d σ H') ?_ ?_ ⟨F, L, H, S, I, .refl, wr, q⟩)
      · rintro i s' ⟨F', L', H', S', I', xt, wr', q'⟩
        obtain ⟨its, rv, ⟨⟨cls, dd, data, sl⟩, n, ho, hcl, hsl, hd⟩, _⟩ := I'.list (wr'.sub.seq (xt.fr.seq hS))
        simp only at hcl hd
        subst hcl hd
        refine ⟨its.toArray, n, dd, sl, ho, by rw [List.size_toArray, ← rv.length], fun h => ?_⟩
        have hi : i < vs.length := by rw [rv.length]; simpa using h
        have hip : i < ps.length := by rw [← rps.length]; exact hi
        obtain ⟨p, hp, rp⟩ := (rps.mono xt.fr).getV (List.getElem?_eq_getElem hi)
        have ed : ps.drop i = p :: ps.drop (i + 1) := by
          rw [List.getElem?_eq_getElem hip] at hp
          cases hp
          exact List.drop_eq_getElem_cons hip
        obtain ⟨u', hu', ru⟩ := rv.get (List.getElem?_eq_getElem hi)
        have ei : its.toArray[i] = u' := by
          have h1 : i < its.length := by simpa using h
          rw [List.getElem?_eq_getElem h1] at hu'
          cases hu'
          simp
        rw [ei]
        rw [ed] at q'
        cases p with
        | obj d gs =>
          rw [inL] at q'
          split at q'
          · rename_i hd
            obtain ⟨hd, hfl⟩ := hd
            subst hd
            obtain ⟨b, C2, dx2, fv2, eb, hc2, hFb, fok2, rf2⟩ := rep_objI rp
            rw [hc] at hc2
            cases hc2
            rw [eb] at ru rp
            cases (show u' = Value.ref b from ru)
            split at q'
            · rename_i bo S1 em
              split at q'
              · rename_i eS
                subst eS
                by_cases hab : b = a
                · subst hab
                  rw [xt.fr _ _ hFa] at hFb
                  cases hFb
                  have hbo : bo = true := by
                    cases bo with
                    | true => rfl
                    | false =>
                      rw [if_neg (by simp), repF_fl rf2 (rf.mono xt.fr) hfl, if_pos rfl] at q'
                      exact q'.elim
                  subst hbo
                  rw [if_pos rfl] at q'
                  unfold eqBool
                  refine wpAny_holding ?_
                  refine wpAny_ite_split (fun _ => ?_) (fun hne => absurd (by simp) hne)
                  refine wpAny_bind (wpAny_rule (wpAny_pure ?_))
                  show if (true : Bool) = true then _ else _
                  rw [if_pos rfl]
                  exact wpAny_truthy_bool ⟨.bl true, H', I', rfl, q' (.bl true) F' L' H' .refl wr' (.dat (.bl _))⟩
                · refine GQ.eqBool_refG hab ?_
                  obtain ⟨ab, dab, oab, eab, Jb⟩ := inst_at I' wr' (.dat rp) (rfl : RelV (.ref b) (.ref b)) (d := .dat (.obj d gs)) (c := d) rfl hc
                  cases eab
                  obtain ⟨aa, daa, oaa, eaa, Ja⟩ := inst_at I' wr' (.dat (vx.mono xt.fr)) (rfl : RelV (.ref a) (.ref a)) (d := .dat (.obj d fs)) (c := d) rfl hc
                  cases eaa
                  obtain ⟨mA, hF⟩ := I'.fr
                  refine PySem.W.cmp_K (op := .Eq) (tb := .ref C) hu hF I'.ok.mod.kin Jb Ja.type (by simp [PySem.W.notFirst]) ec.at_ ec.fn ?_
                  refine thn (run_cal0 (Q := fun z H2 => z = .bl bo ∧ ∃ F2 L2, Xt F' L' H' F2 L2 H2 ∧ WR X.K X.mg F2 L2 H2 S1) (vs := [.ref b, .ref a]) cal (sub_here hr).in1 hG tk I' wr' (.cons ru (.cons rx .nil)) (.cons (.dat rp) (.cons (.dat (vx.mono xt.fr)) .nil)) ?_) fun v2 s2 e2 => ?_
                  · rw [em]
                    intro v2 F2 L2 H2 x2 w2 r2
                    cases r2 with
                    | dat r2 =>
                      cases r2
                      exact ⟨rfl, F2, L2, x2, w2⟩
                  · obtain ⟨z, H2, I2, r2, rfl, F2, L2, x2, w2⟩ := e2
                    cases (show v2 = Value.bool bo from r2)
                    refine ⟨bo, rfl, ?_⟩
                    cases bo with
                    | true =>
                      rw [if_pos rfl] at q' ⊢
                      exact wpAny_truthy_bool ⟨.bl true, H2, I2, rfl, q' (.bl true) F2 L2 H2 x2 w2 (.dat (.bl _))⟩
                    | false =>
                      rw [if_neg (by simp)] at q' ⊢
                      split at q'
                      · exact q'.elim
                      · exact ⟨F2, L2, H2, S1, I2, xt.trans x2, w2, q'.from x2⟩
              · exact q'.elim
            · exact q'.elim
          · exact q'.elim
        | _ => exact q'.elim
      · rintro s' ⟨F', L', H', S', I', xt, wr', q'⟩
        rw [List.drop_of_length_le (by rw [rps.length]; exact Nat.le_refl _)] at q'
        exact wpAny_truthy_bool ⟨.bl false, H', I', rfl, q' (.bl false) F' L' H' .refl wr' (.dat (.bl _))⟩
    · exact q.elim
  · exact hb pins s σ H F L S x y v u dx dy Q I wr rx ry vx vy q
end
end DL
set_option Elab.async false
set_option linter.all false
set_option maxRecDepth 100000
set_option maxHeartbeats 4000000
namespace DL
open PySem PySem.Spec PyProof.Rows L2 ClX
/-! ### in a list of plain data -/
def pInD (neg : Bool) : P → P → Option P := fun a b => match toD a, b with
  | some d, .lst ps => (match toDs ps with
    | some ds => if SeqAt.shaped d && SeqAt.shaped (.list ds) then some (.bl (if neg then !(ds.any fun z => PyData.eqv z d) else (ds.any fun z => PyData.eqv z d))) else none
    | none => none)
  | _, _ => none
/-- repr of a truth -/
def reprB (g : Fms) : Fms := fun ds S => match ds with
  | [.dat (.bl b)] => .ok (.dat (.str (if b then "True" else "False"))) S
  | ds => g ds S
def iEnm (m : Ar) : Im := fun ρ S => (m ρ S).bind fun ds S1 => match ds with
  | [.dat (.lst xs)] => .ok (xs.mapIdx fun i x => .tup [.int (i : Nat), x]) S1
  | _ => .bad
/-- the list that the slot i holds becomes data behind a statement -/
def sFrz (i : Nat) (m : Sm) : Sm := fun ρ S => match m ρ S with
  | .nx ρ1 S1 => (match ρ1[i]? with
    | some (some v) => (match lstAt S1 v with
      | some (n, xs) => .nx (ρ1.set i (some (.dat (.lst xs)))) (S1.set n .dead)
      | none => .bad)
    | _ => .bad)
  | r => r
section
variable {X : Cx} {W : WX}
theorem om_inD (hu : X.A.units + 65 < cLine) : OpM X W (compareOp .In) (datOp (pInD false)) := opm_of (op_inD hu) fun F H L S x y z v u Q wr e rx ry q => by
  unfold pInD at e
  split at e
  · rename_i d ps h1
    split at e
    · rename_i ds h2
      split at e
      · rename_i h
        cases e
        rw [Bool.and_eq_true] at h
        exact ⟨d, ds, rep_dp wr.sub rx h1, rep_dp wr.sub ry (by rw [toD, h2]; rfl), h.1, h.2, q _ F H .refl wr (.bl _)⟩
      · cases e
    · cases e
  · cases e
theorem om_notinD (hu : X.A.units + 65 < cLine) : OpM X W (compareOp .NotIn) (datOp (pInD true)) := opm_of (op_notInD hu) fun F H L S x y z v u Q wr e rx ry q => by
  unfold pInD at e
  split at e
  · rename_i d ps h1
    split at e
    · rename_i ds h2
      split at e
      · rename_i h
        cases e
        rw [Bool.and_eq_true] at h
        exact ⟨d, ds, rep_dp wr.sub rx h1, rep_dp wr.sub ry (by rw [toD, h2]; rfl), h.1, h.2, q _ F H .refl wr (.bl _)⟩
      · cases e
    · cases e
  · cases e
theorem cm_reprB {g : Fms} (h : CallM X W (.builtin "repr") g) : CallM X W (.builtin "repr") (reprB g) := by
  intro pins s σ H F L S xs us ds Q I wr rv vr q
  unfold reprB at q
  split at q
  · rename_i b
    cases vr with
    | cons vx vr =>
      cases vr
      cases vx with
      | dat r =>
        cases r
        obtain ⟨u, rfl, ru⟩ := vals1 rv
        cases (show u = Value.bool b from ru)
        exact PySem.P.repr_of_bool ⟨.str _, H, I.tok _, ⟨_, rfl⟩, q _ F L H .refl wr (.dat (.str _))⟩
  · exact h pins s σ H F L S xs us _ Q I wr rv vr q
theorem it_enum {K : PySem.W.Frag} {mg : Str → Option Value} {F H : Hp} {L : List Addr} {a : Addr} {vs : List V} {xs : List P} (hq : SqL K F a vs) (rs : Reps K mg F vs xs) : ItOk K mg (Ite K a) F L H (xs.mapIdx fun i x => .tup [.int (i : Nat), x]) := by
  refine ⟨fun i x F1 L1 H1 S1 e x1 wr1 => ?_, fun i F1 L1 H1 S1 e x1 wr1 => ⟨vs, wr1.sub.seq (x1.fr.seq hq), by rw [rs.length]; simpa using e⟩⟩
  rw [List.getElem?_mapIdx] at e
  cases q : xs[i]? with
  | none => rw [q] at e; cases e
  | some p =>
    rw [q] at e
    cases e
    obtain ⟨v, hv, rv⟩ := rs.get q
    refine ⟨⟨vs, v, wr1.sub.seq (x1.fr.seq hq), hv⟩, fun u H' y => ?_⟩
    obtain ⟨T, v', rfl, hT, rfl, y⟩ := y
    have hu := y vs (wr1.sub.seq (x1.fr.seq hq))
    rw [hv] at hu
    cases hu
    have s := same_upd (o := .tup [.int (i : Nat), v]) (wr1.fnone hT)
    exact ⟨upd F1 T (.tup [.int (i : Nat), v]), .alloc wr1 hT, wr1.alloc hT, .tup (SqT.of upd_same) (.cons (.int _) (.cons (rv.mono (x1.fr.trans s)) .nil))⟩
theorem di_enum {e : Expr} {m : Ar} {p pos tpos : Pos} {elts : List Expr} {kk : Nat} (hg : Gl X "enumerate") (hm : X.mg "enumerate" = none) (ha : dA X W [e] m) (hs : starEach [e] X.env = [(false, eval e X.env)] := by rfl) : dI X W (.Tuple elts kk tpos) (.Call (.Name "enumerate" p) [e] [] pos) (iEnm m) := by
  refine imI (pi_enum hg hm ha hs) fun σ H Q ⟨F, L, S, ρ, wr, er, q⟩ => ?_
  refine ar_thenI wr er q fun ds S1 vs F1 L1 H1 _ x1 wr1 er1 vr1 q1 => ?_
  split at q1
  · cases vr1 with
    | cons v1 vr =>
      cases vr
      cases v1 with
      | dat r =>
        cases r with
        | lst hq rs => exact ⟨_, _, rfl, wr1.sub.seq hq, q1 _ F1 L1 H1 .refl wr1 (it_enum hq rs)⟩
  · exact q1.elim
theorem ER.setD {K : PySem.W.Frag} {mg : Str → Option Value} {F : Hp} {L : List Addr} {σ : L2.St} {ρ : Slots} {i : Nat} {v : V} {d : Val} (e : ER K mg F L σ ρ) (hv : σ[i]? = some (some v)) (h : VR K mg F L v d) : ER K mg F L σ (ρ.set i (some d)) := by
  refine ⟨by simp [e.len], fun j d' q => ?_⟩
  by_cases hj : i = j
  · subst hj
    by_cases hl : i < ρ.length
    · rw [List.getElem?_set_self hl] at q
      cases q
      exact ⟨v, hv, h⟩
    · rw [List.getElem?_eq_none (by simpa using hl)] at q
      cases q
  · rw [List.getElem?_set_ne hj] at q
    exact e.get j d' q
theorem ds_frz {st : Stmt} {m : Sm} {i : Nat} (h : dS X W st m) : dS X W st (sFrz i m) := by
  refine imS h fun D σ H ⟨F, L, S, ρ, wr, er, q⟩ => ⟨F, L, S, ρ, wr, er, ?_⟩
  unfold sFrz at q
  cases e : m ρ S with
  | nx ρ1 S1 =>
    rw [e] at q
    intro σ1 F1 L1 H1 x1 wr1 er1
    simp only at q
    split at q
    · rename_i v hv
      split at q
      · rename_i n xs hl
        obtain ⟨u, hu, vu⟩ := er1.get i v hv
        obtain ⟨a, vs, rfl, rfl, hL, hF, hH, rs⟩ := lstAt_ok wr1 vu hl
        have s := same_upd (o := .lst vs) hF
        exact q σ1 (upd F1 a (.lst vs)) L1 H1 (x1.trans (.freeze hL hF)) (wr1.freeze hL hF hH) ((er1.mono s (List.prefix_refl _)).setD hu (.dat (.lst (SqL.of upd_same) (rs.mono s))))
      · exact q.elim
    · exact q.elim
  | rt v S1 => rw [e] at q; exact q
  | bk ρ1 S1 => rw [e] at q; exact q
  | ct ρ1 S1 => rw [e] at q; exact q
  | exc c fs ρ1 S1 => rw [e] at q; exact q
  | bad => rw [e] at q; exact q
end
end DL
set_option Elab.async false
set_option linter.all false
set_option maxRecDepth 100000
set_option maxHeartbeats 4000000
namespace DL
open PySem PySem.Spec PyProof.Rows L2 ClX
theorem u65 {k : Nat} {A : Around} (h : Room k A) : A.units + 65 < cLine := by
  have := h.un
  omega
section
variable {Pr : Program} {w : World} {K : PySem.W.Frag} {mg : Str → Option Value} {base : Heap} {gd : Bool} {k c d : Nat} {C D f g : Addr} {m m' : Fm}
theorem supB_all : ∀ n ∈ isAll, PySem.W.subIn K (.type n) (.ref C) = some false := by
  have e : ∀ n ∈ isAll, ∃ l, fastBuiltinMro n = some l ∧ l.all (fun v => match v with | .type _ => true | _ => false) = true := by
    intro n hn
    simp only [isAll, List.mem_cons, List.not_mem_nil, or_false] at hn
    rcases hn with rfl | rfl | rfl | rfl | rfl | rfl | rfl <;> exact ⟨_, rfl, by decide +kernel⟩
  intro n hn
  obtain ⟨l, h1, h2⟩ := e n hn
  show (fastBuiltinMro n).map (·.contains (.ref C)) = some false
  rw [h1, Option.map_some]
  congr 1
  rw [List.all_eq_true] at h2
  refine Bool.eq_false_iff.mpr fun h => ?_
  have := h2 _ (List.contains_iff_mem.mp h)
  cases this
theorem eqc_mk (a : PySem.W.findIn K (.ref C) "__eq__" = some (some (.ref f))) (i : PySem.W.isFn K (.ref f) = true)
    (s1 : PySem.W.subIn K (.ref C) (.type "NoneType") = some false) (s2 : PySem.W.subIn K (.ref C) (.type "bool") = some false) (s3 : PySem.W.subIn K (.ref C) (.type "int") = some false) (s4 : PySem.W.subIn K (.ref C) (.type "str") = some false)
    (s5 : PySem.W.subIn K (.ref C) (.type "list") = some false) (s6 : PySem.W.subIn K (.ref C) (.type "tuple") = some false) (s7 : PySem.W.subIn K (.ref C) (.type "dict") = some false) : EqC K C f := by
  refine ⟨a, i, ?_, supB_all⟩
  intro n hn
  simp only [isAll, List.mem_cons, List.not_mem_nil, or_false] at hn
  rcases hn with rfl | rfl | rfl | rfl | rfl | rfl | rfl <;> assumption
theorem lookM_nil {e : Nat} {m : Fm} (h : lookM [] e = some m) : False := by cases h
theorem lookM_cons {r : List (Nat × Fm)} {e : Nat} {x : Fm} (h : lookM ((c, m) :: r) e = some x) : (c = e ∧ m = x) ∨ lookM r e = some x := by
  unfold lookM at h ⊢
  rw [List.find?_cons] at h
  by_cases hc : c = e
  · subst hc
    simp at h
    exact .inl ⟨rfl, h⟩
  · rw [show ((c, m).1 == e) = false from by simpa using hc] at h
    exact .inr h
theorem eqtab1 (gC : mg (cn c) = some (.ref C)) (e : EqC K C f) (cal : Cal Pr w K mg base gd k f [] m) : EqTab Pr w K mg base gd k [(c, m)] := by
  refine ⟨fun x y h => ?_, fun x y hn h1 h2 => ?_⟩
  · rcases lookM_cons h with ⟨rfl, rfl⟩ | h
    · exact ⟨C, f, gC, e, cal⟩
    · exact (lookM_nil h).elim
  · obtain ⟨_, h1⟩ := Option.isSome_iff_exists.mp h1
    obtain ⟨_, h2⟩ := Option.isSome_iff_exists.mp h2
    rcases lookM_cons h1 with ⟨rfl, _⟩ | h1
    · rcases lookM_cons h2 with ⟨rfl, _⟩ | h2
      · exact absurd rfl hn
      · exact (lookM_nil h2).elim
    · exact (lookM_nil h1).elim
theorem eqtab2 (gC : mg (cn c) = some (.ref C)) (e : EqC K C f) (cal : Cal Pr w K mg base gd k f [] m) (gD : mg (cn d) = some (.ref D)) (e' : EqC K D g) (cal' : Cal Pr w K mg base gd k g [] m')
    (s1 : PySem.W.subIn K (.ref C) (.ref D) = some false) (s2 : PySem.W.subIn K (.ref D) (.ref C) = some false) : EqTab Pr w K mg base gd k [(c, m), (d, m')] := by
  refine ⟨fun x y h => ?_, fun x y hn h1 h2 C' D' hC hD => ?_⟩
  · rcases lookM_cons h with ⟨rfl, rfl⟩ | h
    · exact ⟨C, f, gC, e, cal⟩
    · rcases lookM_cons h with ⟨rfl, rfl⟩ | h
      · exact ⟨D, g, gD, e', cal'⟩
      · exact (lookM_nil h).elim
  · obtain ⟨_, h1⟩ := Option.isSome_iff_exists.mp h1
    obtain ⟨_, h2⟩ := Option.isSome_iff_exists.mp h2
    rcases lookM_cons h1 with ⟨rfl, _⟩ | h1
    · rcases lookM_cons h2 with ⟨rfl, _⟩ | h2
      · exact absurd rfl hn
      · rcases lookM_cons h2 with ⟨rfl, _⟩ | h2
        · rw [gC] at hC
          rw [gD] at hD
          cases hC
          cases hD
          exact s2
        · exact (lookM_nil h2).elim
    · rcases lookM_cons h1 with ⟨rfl, _⟩ | h1
      · rcases lookM_cons h2 with ⟨rfl, _⟩ | h2
        · rw [gD] at hC
          rw [gC] at hD
          cases hC
          cases hD
          exact s1
        · rcases lookM_cons h2 with ⟨rfl, _⟩ | h2
          · exact absurd rfl hn
          · exact (lookM_nil h2).elim
      · exact (lookM_nil h1).elim
theorem netab0 : NeTab K mg [] := ⟨fun _ _ h => (lookM_nil h).elim⟩
theorem netabS {r : List (Nat × Fm)} (gC : mg (cn c) = some (.ref C)) (n : PySem.W.findIn K (.ref C) "__ne__" = some (some (.builtin "object.__ne__"))) (o : PySem.W.mroIn K C (.type "object") = some true) (h : NeTab K mg r) : NeTab K mg ((c, m) :: r) := by
  refine ⟨fun x y h' C' hC => ?_⟩
  rcases lookM_cons h' with ⟨rfl, _⟩ | h'
  · rw [gC] at hC
    cases hC
    exact ⟨n, o⟩
  · exact h.at_ x y h' C' hC
end
end DL
set_option Elab.async false
set_option linter.all false
set_option maxRecDepth 100000
set_option maxHeartbeats 4000000
namespace DL
open PySem L2
/-! ### reckoning with meanings: what holds behind one -/
abbrev XS := Nat → List (Str × P) → Store → Prop
abbrev XR := Nat → List (Str × P) → Slots → Store → Prop
abbrev SS := Slots → Store → Prop
inductive Tk {α : Type} (Q : α → Store → Prop) (E : XS) : Type where | mk
inductive To (N : SS) (R : Val → Store → Prop) (B C : SS) (E : XR) : Type where | mk
inductive Tq {α : Type} (Q : α → Prop) : Type where | mk
def RsP {α : Type} (r : Rs α) (Q : α → Store → Prop) (E : XS) (_ : Tk Q E) : Prop := match r with
  | .ok a S => Q a S
  | .exc c fs S => E c fs S
  | .bad => False
def OuP (o : Out) (N : SS) (R : Val → Store → Prop) (B C : SS) (E : XR) (_ : To N R B C E) : Prop := match o with
  | .nx ρ S => N ρ S
  | .rt v S => R v S
  | .bk ρ S => B ρ S
  | .ct ρ S => C ρ S
  | .exc c fs ρ S => E c fs ρ S
  | .bad => False
def opt {α : Type} (o : Option α) (K : α → Prop) (_ : Tq K) : Prop := match o with
  | some a => K a
  | none => False
def no2 : SS := fun _ _ => False
section
variable {α β : Type} {Q : α → Store → Prop} {QV : Val → Store → Prop} {QL : List Val → Store → Prop} {QP : List P → Store → Prop} {QB : Bool → Store → Prop} {E : XS} {N B C : SS} {R : Val → Store → Prop} {ER : XR} {ρ : Slots} {S : Store}
theorem opt_some {a : α} {K : α → Prop} {t} : opt (some a) K t = K a := (rfl)
theorem opt_none {K : α → Prop} {t} : opt none K t = False := (rfl)
theorem opt_ite {c : Prop} [Decidable c] {a : α} {K : α → Prop} {t} : opt (if c then some a else none) K t = (c ∧ K a) := by
  by_cases h : c
  · rw [if_pos h, opt_some]; exact propext ⟨fun z => ⟨h, z⟩, fun z => z.2⟩
  · rw [if_neg h, opt_none]; exact propext ⟨fun z => z.elim, fun z => h z.1⟩
theorem opt_ite2 {c : Prop} [Decidable c] {a : α} {K : α → Prop} {t} : opt (if c then none else some a) K t = (¬ c ∧ K a) := by
  by_cases h : c
  · rw [if_pos h, opt_none]; exact propext ⟨fun z => z.elim, fun z => z.1 h⟩
  · rw [if_neg h, opt_some]; exact propext ⟨fun z => ⟨h, z⟩, fun z => z.2⟩
theorem rs_ok {a : α} {t} : RsP (.ok a S) Q E t = Q a S := (rfl)
theorem rs_exc {c fs} {t} : RsP (.exc c fs S) Q E t = E c fs S := (rfl)
theorem rs_bad {t} : RsP .bad Q E t = False := (rfl)
theorem rs_congr {Q' : α → Store → Prop} {r : Rs α} {t t'} (h : ∀ a S, Q a S = Q' a S) : RsP r Q E t = RsP r Q' E t' := by
  cases r with
  | ok a S => exact h a S
  | exc _ _ _ => rfl
  | bad => rfl
theorem rs_bind {Q' : β → Store → Prop} {r : Rs α} {k : α → Store → Rs β} {t} : RsP (r.bind k) Q' E t = RsP r (fun a S => RsP (k a S) Q' E .mk) E .mk := by cases r <;> rfl
theorem rs_ite {c : Prop} [Decidable c] {a b : Rs α} {t} : RsP (if c then a else b) Q E t = if c then RsP a Q E .mk else RsP b Q E .mk := by by_cases h : c <;> simp only [h, if_true, if_false]
theorem ou_nx {t} : OuP (.nx ρ S) N R B C ER t = N ρ S := (rfl)
theorem ou_rt {v} {t} : OuP (.rt v S) N R B C ER t = R v S := (rfl)
theorem ou_bk {t} : OuP (.bk ρ S) N R B C ER t = B ρ S := (rfl)
theorem ou_ct {t} : OuP (.ct ρ S) N R B C ER t = C ρ S := (rfl)
theorem ou_exc {c fs} {t} : OuP (.exc c fs ρ S) N R B C ER t = ER c fs ρ S := (rfl)
theorem ou_bad {t} : OuP .bad N R B C ER t = False := (rfl)
theorem ou_out {r : Rs α} {k : α → Store → Out} {t} : OuP (r.out ρ k) N R B C ER t = RsP r (fun a S => OuP (k a S) N R B C ER .mk) (fun c fs S => ER c fs ρ S) .mk := by cases r <;> rfl
theorem ou_ite {c : Prop} [Decidable c] {a b : Out} {t} : OuP (if c then a else b) N R B C ER t = if c then OuP a N R B C ER .mk else OuP b N R B C ER .mk := by by_cases h : c <;> simp only [h, if_true, if_false]
theorem RsP.mono {Q' : α → Store → Prop} {E' : XS} {r : Rs α} {t t'} (h : RsP r Q E t) (hq : ∀ a S, Q a S → Q' a S) (he : ∀ c fs S, E c fs S → E' c fs S) : RsP r Q' E' t' := by
  cases r with
  | ok a S => exact hq a S h
  | exc c fs S => exact he c fs S h
  | bad => exact h
theorem OuP.mono {N' B' C' : SS} {R' : Val → Store → Prop} {E' : XR} {o : Out} {t t'} (h : OuP o N R B C ER t) (hn : ∀ ρ S, N ρ S → N' ρ S) (hr : ∀ v S, R v S → R' v S) (hb : ∀ ρ S, B ρ S → B' ρ S) (hc : ∀ ρ S, C ρ S → C' ρ S) (he : ∀ c fs ρ S, ER c fs ρ S → E' c fs ρ S) : OuP o N' R' B' C' E' t' := by
  cases o with
  | nx ρ S => exact hn ρ S h
  | rt v S => exact hr v S h
  | bk ρ S => exact hb ρ S h
  | ct ρ S => exact hc ρ S h
  | exc c fs ρ S => exact he c fs ρ S h
  | bad => exact h
/-- an exact answer from a wanted one -/
theorem RsP.ex {r : Rs α} {t} (h : RsP r Q (fun _ _ _ => False) t) : ∃ a S, r = .ok a S ∧ Q a S := by
  cases r with
  | ok a S => exact ⟨a, S, rfl, h⟩
  | exc c fs S => exact h.elim
  | bad => exact h.elim

/-! ### expressions -/
theorem r_var {i : Nat} {t} : RsP (eVar i ρ S) QV E t = opt (ρ[i]?) (fun o => opt o (fun v => QV v S) .mk) .mk := by
  unfold eVar
  cases ρ[i]? with
  | none => rfl
  | some o => cases o <;> rfl
theorem r_K {p : P} {t} : RsP (eK p ρ S) QV E t = QV (.dat p) S := (rfl)
theorem r_aNil {t} : RsP (aNil ρ S) QL E t = QL [] S := (rfl)
theorem r_aCons {m : Ex} {r : Ar} {t} : RsP (aCons m r ρ S) QL E t = RsP (m ρ S) (fun v S1 => RsP (r ρ S1) (fun vs S2 => QL (v :: vs) S2) E .mk) E .mk := by
  unfold aCons
  rw [rs_bind]
  refine rs_congr fun v S1 => ?_
  · rw [rs_bind]; rfl
theorem r_op {g : G2} {a b : Ex} {t} : RsP (eOp g a b ρ S) QV E t = RsP (a ρ S) (fun x S1 => RsP (b ρ S1) (fun y S2 => RsP (g x y S2) QV E .mk) E .mk) E .mk := by
  unfold eOp
  rw [rs_bind]
  refine rs_congr fun v S1 => ?_
  · rw [rs_bind]
theorem r_dat {f : P → P → Option P} {a b : P} {t} : RsP (datOp f (.dat a) (.dat b) S) QV E t = opt (f a b) (fun z => QV (.dat z) S) .mk := by
  unfold datOp
  cases e : f a b <;> simp only [e] <;> rfl
theorem r_tup {a : Ar} {t} : RsP (eTup a ρ S) QV E t = RsP (a ρ S) (fun ds S1 => opt (dats ds) (fun ps => ps.length ≤ sizeLine ∧ QV (.dat (.tup ps)) S1) .mk) E .mk := by
  unfold eTup
  rw [rs_bind]
  refine rs_congr fun ds S1 => ?_
  · skip
    cases e : dats ds with
    | none => rfl
    | some ps => simp only [e, rs_ite, rs_ok, rs_bad, opt_some]; by_cases h : ps.length ≤ sizeLine <;> simp only [h, if_true, if_false, true_and, false_and]
theorem r_lst {a : Ar} {t} : RsP (eLst a ρ S) QV E t = RsP (a ρ S) (fun ds S1 => opt (dats ds) (fun ps => ps.length ≤ sizeLine ∧ QV (.dat (.lst ps)) S1) .mk) E .mk := by
  unfold eLst
  rw [rs_bind]
  refine rs_congr fun ds S1 => ?_
  · skip
    cases e : dats ds with
    | none => rfl
    | some ps => simp only [e, rs_ite, rs_ok, rs_bad, opt_some]; by_cases h : ps.length ≤ sizeLine <;> simp only [h, if_true, if_false, true_and, false_and]
theorem r_lstM {a : Ar} {t} : RsP (eLstM a ρ S) QV E t = RsP (a ρ S) (fun ds S1 => opt (dats ds) (fun ps => ps.length ≤ sizeLine ∧ QV (.loc S1.length) (S1 ++ [.lst ps])) .mk) E .mk := by
  unfold eLstM
  rw [rs_bind]
  refine rs_congr fun ds S1 => ?_
  · skip
    cases e : dats ds with
    | none => rfl
    | some ps => simp only [e, rs_ite, rs_ok, rs_bad, opt_some]; by_cases h : ps.length ≤ sizeLine <;> simp only [h, if_true, if_false, true_and, false_and]
theorem r_call {g : Fms} {a : Ar} {t} : RsP (eCall g a ρ S) QV E t = RsP (a ρ S) (fun ds S1 => RsP (g ds S1) QV E .mk) E .mk := by
  unfold eCall
  rw [rs_bind]
theorem r_cm {c : Nat} {g : Fms} {a : Ar} {t} : RsP (eCm c g a ρ S) QV E t = RsP (a ρ S) (fun ds S1 => RsP (g (.dat (.cls c) :: ds) S1) QV E .mk) E .mk := by
  unfold eCm
  rw [rs_bind]
theorem r_un {g : Val → Store → Rs Val} {a : Ex} {t} : RsP (eUn g a ρ S) QV E t = RsP (a ρ S) (fun x S1 => RsP (g x S1) QV E .mk) E .mk := by
  unfold eUn
  rw [rs_bind]
theorem r_negI {i : Int} {t} : RsP (gNegI (.dat (.int i)) S) QV E t = QV (.dat (.int (-i))) S := (rfl)
theorem r_if {c : Ts} {a b : Ex} {t} : RsP (eIf c a b ρ S) QV E t = RsP (c ρ S) (fun k S1 => if k = true then RsP (a ρ S1) QV E .mk else RsP (b ρ S1) QV E .mk) E .mk := by
  unfold eIf
  rw [rs_bind]
  refine rs_congr fun k S1 => ?_
  · rw [rs_ite]
/-! ### tests -/
theorem r_val {m : Ex} {t} : RsP (tVal m ρ S) QB E t = RsP (m ρ S) (fun v S1 => opt (truOf S1 v) (fun b => QB b S1) .mk) E .mk := by
  unfold tVal
  rw [rs_bind]
  refine rs_congr fun v S1 => ?_
  · cases e : truOf S1 v <;> rfl
theorem r_and {a b : Ts} {t} : RsP (tAndM a b ρ S) QB E t = RsP (a ρ S) (fun k S1 => if k = true then RsP (b ρ S1) QB E .mk else QB false S1) E .mk := by
  unfold tAndM
  rw [rs_bind]
  refine rs_congr fun k S1 => ?_
  · rw [rs_ite]; rfl
theorem r_or {a b : Ts} {t} : RsP (tOrM a b ρ S) QB E t = RsP (a ρ S) (fun k S1 => if k = true then QB true S1 else RsP (b ρ S1) QB E .mk) E .mk := by
  unfold tOrM
  rw [rs_bind]
  refine rs_congr fun k S1 => ?_
  · rw [rs_ite]; rfl
theorem r_not {a : Ts} {t} : RsP (tNotM a ρ S) QB E t = RsP (a ρ S) (fun k S1 => QB (!k) S1) E .mk := by
  unfold tNotM
  rw [rs_bind]
  rfl
theorem r_yes {t} : RsP (tYesM ρ S) QB E t = QB true S := (rfl)
def blOf : Val → Option Bool
  | .dat (.bl b) => some b
  | _ => none
theorem r_andV {a b : Ex} {t} : RsP (eAnd a b ρ S) QV E t = RsP (a ρ S) (fun v S1 => opt (blOf v) (fun k => if k = true then RsP (b ρ S1) QV E .mk else QV (.dat (.bl false)) S1) .mk) E .mk := by
  unfold eAnd
  rw [rs_bind]
  refine rs_congr fun v S1 => ?_
  · skip
    split
    · rename_i c
      show _ = opt (some c) _ .mk
      rw [opt_some, rs_ite]; rfl
    · rename_i h
      cases v with
      | loc n => rfl
      | dat p => cases p <;> first | rfl | exact absurd rfl (h _)
theorem r_orV {a b : Ex} {t} : RsP (eOr a b ρ S) QV E t = RsP (a ρ S) (fun v S1 => opt (blOf v) (fun k => if k = true then QV (.dat (.bl true)) S1 else RsP (b ρ S1) QV E .mk) .mk) E .mk := by
  unfold eOr
  rw [rs_bind]
  refine rs_congr fun v S1 => ?_
  · skip
    split
    · rename_i c
      show _ = opt (some c) _ .mk
      rw [opt_some, rs_ite]; rfl
    · rename_i h
      cases v with
      | loc n => rfl
      | dat p => cases p <;> first | rfl | exact absurd rfl (h _)
theorem r_notV {a : Ex} {t} : RsP (eNotV a ρ S) QV E t = RsP (a ρ S) (fun v S1 => opt (blOf v) (fun k => QV (.dat (.bl (!k))) S1) .mk) E .mk := by
  unfold eNotV
  rw [rs_bind]
  refine rs_congr fun v S1 => ?_
  · skip
    split
    · rfl
    · rename_i h
      cases v with
      | loc n => rfl
      | dat p => cases p <;> first | rfl | exact absurd rfl (h _)
/-! ### objects -/
theorem r_fld {c : Nat} {f : Str} {i : Nat} {o : Ex} {t} : RsP (eFld c f i o ρ S) QV E t = RsP (o ρ S) (fun v S1 => opt (objOf S1 v) (fun cf => cf.1 = c ∧ opt (cf.2[i]?) (fun gp => gp.1 = f ∧ QV (.dat gp.2) S1) .mk) .mk) E .mk := by
  unfold eFld
  rw [rs_bind]
  refine rs_congr fun v S1 => ?_
  · skip
    cases e : objOf S1 v with
    | none => rfl
    | some cf =>
      obtain ⟨c', fs⟩ := cf
      simp only [opt_some]
      by_cases h : c' = c
      · simp only [h, if_true, true_and]
        cases e2 : fs[i]? with
        | none => rfl
        | some gp =>
          obtain ⟨g, p⟩ := gp
          simp only [opt_some]
          by_cases hg : g = f
          · simp only [hg, if_true, true_and]; rfl
          · simp only [hg, if_false, false_and]; rfl
      · simp only [h, if_false, false_and]; rfl
theorem r_meth {c : Nat} {g : Fms} {o : Ex} {a : Ar} {t} : RsP (eMeth c g o a ρ S) QV E t = RsP (o ρ S) (fun v S1 => opt (objOf S1 v) (fun cf => cf.1 = c ∧ RsP (a ρ S1) (fun ds S2 => RsP (g (v :: ds) S2) QV E .mk) E .mk) .mk) E .mk := by
  unfold eMeth
  rw [rs_bind]
  refine rs_congr fun v S1 => ?_
  · skip
    cases e : objOf S1 v with
    | none => rfl
    | some cf =>
      obtain ⟨c', fs⟩ := cf
      simp only [opt_some]
      by_cases h : c' = c
      · simp only [h, if_true, true_and, rs_bind]
      · simp only [h, if_false, false_and]; rfl
theorem r_prop {c : Nat} {g : Fms} {o : Ex} {t} : RsP (eProp c g o ρ S) QV E t = RsP (o ρ S) (fun v S1 => opt (objOf S1 v) (fun cf => cf.1 = c ∧ RsP (g [v] S1) QV (fun _ _ _ => False) .mk) .mk) E .mk := by
  unfold eProp
  rw [rs_bind]
  refine rs_congr fun v S1 => ?_
  · skip
    cases e : objOf S1 v with
    | none => rfl
    | some cf =>
      obtain ⟨c', fs⟩ := cf
      simp only [opt_some]
      by_cases h : c' = c
      · simp only [h, if_true, true_and]
        cases g [v] S1 <;> rfl
      · simp only [h, if_false, false_and]; rfl
theorem objOf_dat {c fs} : objOf S (.dat (.obj c fs)) = some (c, fs) := (rfl)
/-- the new object at the end of the store -/
def objIn : Option Cont → Option (Nat × List (Str × P))
  | some (.obj c fs) => some (c, fs)
  | _ => none
def isNon : Val → Prop
  | .dat .non => True
  | _ => False
theorem objOf_loc {n} : objOf S (.loc n) = objIn S[n]? := by
  unfold objOf objIn
  rfl
theorem r_mk {c : Nat} {g : Fm} {ds : List Val} {t} : RsP (mkM c g ds S) QV E t = RsP (g (.loc S.length :: ds) (S ++ [.obj c []])) (fun v S' => isNon v ∧ opt (objIn S'[S.length]?) (fun cf => QV (.dat (.obj cf.1 cf.2)) (S'.take S.length)) .mk) (fun c fs S' => E c fs (S'.take S.length)) .mk := by
  unfold mkM
  cases e : g (.loc S.length :: ds) (S ++ [.obj c []]) with
  | bad => rfl
  | exc c fs S' => rfl
  | ok v S' =>
    rw [rs_ok]
    cases v with
    | loc _ => simp only [isNon, false_and]; rfl
    | dat p =>
      cases p with
      | non =>
        simp only [isNon, true_and]
        cases e2 : S'[S.length]? with
        | none => rfl
        | some ct => cases ct <;> rfl
      | _ => simp only [isNon, false_and]; rfl
/-! ### items -/
def lstIn : Option Cont → Option (List P)
  | some (.lst xs) => some xs
  | _ => none
theorem lstIn_lst {xs : List P} : lstIn (some (.lst xs)) = some xs := (rfl)
theorem objIn_obj {c fs} : objIn (some (.obj c fs)) = some (c, fs) := (rfl)
theorem seqOf_loc {n} : seqOf S (.loc n) = lstIn S[n]? := (rfl)
theorem lstOf_loc {n} : lstOf S (.loc n) = lstIn S[n]? := (rfl)
theorem lstOf_dat {xs} : lstOf S (.dat (.lst xs)) = some xs := (rfl)
theorem r_ix_lst {xs : List P} {i : Int} {t} : RsP (gIx (.dat (.lst xs)) (.dat (.int i)) S) QV E t = opt (atI xs i) (fun p => QV (.dat p) S) .mk := by
  show RsP (match atI xs i with | some p => .ok (.dat p) S | none => .bad) QV E t = _
  cases atI xs i <;> rfl
theorem r_ix_tup {xs : List P} {i : Int} {t} : RsP (gIx (.dat (.tup xs)) (.dat (.int i)) S) QV E t = opt (atI xs i) (fun p => QV (.dat p) S) .mk := by
  show RsP (match atI xs i with | some p => .ok (.dat p) S | none => .bad) QV E t = _
  cases atI xs i <;> rfl
theorem r_ix_loc {n : Nat} {i : Int} {t} : RsP (gIx (.loc n) (.dat (.int i)) S) QV E t = opt (lstIn S[n]?) (fun xs => opt (atI xs i) (fun p => QV (.dat p) S) .mk) .mk := by
  unfold gIx
  simp only [seqOf_loc]
  cases lstIn S[n]? with
  | none => rfl
  | some xs => simp only [opt_some]; cases atI xs i <;> rfl
theorem r_len_lst {xs : List P} {t} : RsP (lenM [.dat (.lst xs)] S) QV E t = QV (.dat (.int xs.length)) S := (rfl)
theorem r_len_tup {xs : List P} {t} : RsP (lenM [.dat (.tup xs)] S) QV E t = QV (.dat (.int xs.length)) S := (rfl)
theorem r_fm1 {g : P → Option P} {p : P} {t} : RsP (fm1 g [.dat p] S) QV E t = opt (g p) (fun z => QV (.dat z) S) .mk := by
  show RsP (match g p with | some z => .ok (.dat z) S | none => .bad) QV E t = _
  cases g p <;> rfl
theorem r_fm2 {g : P → P → Option P} {p q : P} {t} : RsP (fm2 g [.dat p, .dat q] S) QV E t = opt (g p q) (fun z => QV (.dat z) S) .mk := by
  show RsP (match g p q with | some z => .ok (.dat z) S | none => .bad) QV E t = _
  cases g p q <;> rfl
theorem r_all {f : List Bool → Bool} {xs : List P} {t} : RsP (allM f [.dat (.lst xs)] S) QV E t = opt (blsOf xs) (fun bs => QV (.dat (.bl (f bs))) S) .mk := by
  show RsP (match blsOf xs with | some bs => .ok (.dat (.bl (f bs))) S | none => .bad) QV E t = _
  cases blsOf xs <;> rfl
theorem r_callV {i c : Nat} {g : Fms} {a : Ar} {t} (h : ρ[i]? = some (some (.dat (.cls c)))) : RsP (eCallV i c g a ρ S) QV E t = RsP (a ρ S) (fun ds S1 => RsP (g ds S1) QV E .mk) E .mk := by
  unfold eCallV
  rw [h]
  simp only [if_true, rs_bind]
/-! ### statements -/
theorem o_seq {a b : Sm} {t} : OuP (sSeq a b ρ S) N R B C ER t = OuP (a ρ S) (fun ρ1 S1 => OuP (b ρ1 S1) N R B C ER .mk) R B C ER .mk := by
  unfold sSeq
  cases a ρ S <;> rfl
theorem o_nil {t} : OuP (sNil ρ S) N R B C ER t = N ρ S := (rfl)
theorem o_ret {m : Ex} {t} : OuP (sRet m ρ S) N R B C ER t = RsP (m ρ S) R (fun c fs S => ER c fs ρ S) .mk := by
  unfold sRet
  rw [ou_out]
  rfl
theorem o_set {i : Nat} {m : Ex} {t} : OuP (sSet i m ρ S) N R B C ER t = RsP (m ρ S) (fun v S1 => N (ρ.set i (some v)) S1) (fun c fs S => ER c fs ρ S) .mk := by
  unfold sSet
  rw [ou_out]
  rfl
theorem o_expr {m : Ex} {t} : OuP (sExpr m ρ S) N R B C ER t = RsP (m ρ S) (fun _ S1 => N ρ S1) (fun c fs S => ER c fs ρ S) .mk := by
  unfold sExpr
  rw [ou_out]
  rfl
theorem o_if {c : Ts} {a b : Sm} {t} : OuP (sIf c a b ρ S) N R B C ER t = RsP (c ρ S) (fun k S1 => if k = true then OuP (a ρ S1) N R B C ER .mk else OuP (b ρ S1) N R B C ER .mk) (fun c fs S => ER c fs ρ S) .mk := by
  unfold sIf
  rw [ou_out]
  refine rs_congr fun k S1 => ?_
  · rw [ou_ite]
theorem o_bad {t} : OuP (sBad ρ S) N R B C ER t = False := (rfl)
def two? {α : Type} : List α → Option (α × α)
  | [a, b] => some (a, b)
  | _ => none
def three? {α : Type} : List α → Option (α × α × α)
  | [a, b, c] => some (a, b, c)
  | _ => none
theorem o_par {i j : Nat} {a : Ar} {t} : OuP (sPar i j a ρ S) N R B C ER t = RsP (a ρ S) (fun vs S1 => opt (two? vs) (fun uv => N ((ρ.set i (some uv.1)).set j (some uv.2)) S1) .mk) (fun c fs S => ER c fs ρ S) .mk := by
  unfold sPar
  rw [ou_out]
  refine rs_congr fun vs S1 => ?_
  · skip
    match vs with
    | [] => rfl
    | [_] => rfl
    | [_, _] => rfl
    | _ :: _ :: _ :: _ => rfl
theorem o_par3 {i j l : Nat} {a : Ar} {t} : OuP (sPar3 i j l a ρ S) N R B C ER t = RsP (a ρ S) (fun vs S1 => opt (three? vs) (fun uv => N (((ρ.set i (some uv.1)).set j (some uv.2.1)).set l (some uv.2.2)) S1) .mk) (fun c fs S => ER c fs ρ S) .mk := by
  unfold sPar3
  rw [ou_out]
  refine rs_congr fun vs S1 => ?_
  · skip
    match vs with
    | [] => rfl
    | [_] => rfl
    | [_, _] => rfl
    | [_, _, _] => rfl
    | _ :: _ :: _ :: _ :: _ => rfl
/-! ### targets -/
theorem o_asg {m : Ex} {g : Gm} {t} : OuP (sAsg m g ρ S) N R B C ER t = RsP (m ρ S) (fun v S1 => OuP (g v ρ S1) N (fun _ _ => False) no2 no2 (fun _ _ _ _ => False) .mk) (fun c fs S => ER c fs ρ S) .mk := by
  unfold sAsg
  rw [ou_out]
  refine rs_congr fun v S1 => ?_
  · skip
    cases g v ρ S1 <;> rfl
theorem o_gNm {i : Nat} {d : Val} {t} : OuP (gNm i d ρ S) N R B C ER t = N (ρ.set i (some d)) S := (rfl)
theorem o_gTp {n : Nat} {ms : Gms} {ps : List P} {t} : OuP (gTp n ms (.dat (.tup ps)) ρ S) N R B C ER t = (ps.length = n ∧ OuP (ms ps ρ S) N R B C ER .mk) := by
  show OuP (if ps.length = n then ms ps ρ S else .bad) N R B C ER t = _
  by_cases h : ps.length = n
  · simp only [h, if_true, true_and]
  · simp only [h, if_false, false_and]; rfl
theorem o_gsNil {t} : OuP (gsNil [] ρ S) N R B C ER t = N ρ S := (rfl)
theorem o_gsCons {m : Gm} {r : Gms} {p : P} {ps : List P} {t} : OuP (gsCons m r (p :: ps) ρ S) N R B C ER t = OuP (m (.dat p) ρ S) (fun ρ1 S1 => OuP (r ps ρ1 S1) N R B C ER .mk) (fun _ _ => False) no2 no2 (fun _ _ _ _ => False) .mk := by
  show OuP (match m (.dat p) ρ S with | .nx ρ1 S1 => r ps ρ1 S1 | _ => .bad) N R B C ER t = _
  cases m (.dat p) ρ S <;> rfl
def locIx : Val → Option Nat
  | .loc n => some n
  | _ => none
def intOf : Val → Option Int
  | .dat (.int i) => some i
  | _ => none
theorem o_gSb {o i : Ex} {p : P} {t} : OuP (gSb o i (.dat p) ρ S) N R B C ER t = RsP (o ρ S) (fun v S1 => opt (locIx v) (fun n => RsP (i ρ S1) (fun k S2 => opt (intOf k) (fun z => opt (lstIn S2[n]?) (fun xs => opt (ixN xs.length z) (fun j => N ρ (S2.set n (.lst (xs.set j p)))) .mk) .mk) .mk) (fun _ _ _ => False) .mk) .mk) (fun _ _ _ => False) .mk := by
  unfold gSb
  cases o ρ S with
  | bad => rfl
  | exc c fs S1 => rfl
  | ok v S1 =>
    cases v with
    | dat _ => rfl
    | loc n =>
      rw [rs_ok]
      show _ = RsP (i ρ S1) _ _ .mk
      simp only
      cases i ρ S1 with
      | bad => rfl
      | exc c fs S1 => rfl
      | ok k S2 =>
        rw [rs_ok]
        cases k with
        | loc _ => rfl
        | dat q =>
          cases q with
          | int z =>
            simp only
            show _ = opt (lstIn S2[n]?) _ .mk
            cases S2[n]? with
            | none => rfl
            | some ct =>
              cases ct with
              | lst xs =>
                simp only
                show _ = opt (ixN xs.length z) _ .mk
                cases ixN xs.length z <;> rfl
              | _ => rfl
          | _ => rfl
/-! ### append, extend -/
theorem lstAt_loc {n} : lstAt S (.loc n) = (lstIn S[n]?).map fun xs => (n, xs) := by
  show (match S[n]? with | some (.lst xs) => some (n, xs) | _ => none) = _
  cases S[n]? with
  | none => rfl
  | some ct => cases ct <;> rfl
def datOf : Val → Option P
  | .dat p => some p
  | _ => none
theorem r_app {mo m : Ex} {t} : RsP (eApp mo m ρ S) QV E t = RsP (mo ρ S) (fun v S1 => opt (locIx v) (fun n => opt (lstIn S1[n]?) (fun _ => RsP (m ρ S1) (fun d S2 => opt (lstIn S2[n]?) (fun xs => opt (datOf d) (fun p => xs.length < sizeLine ∧ QV (.dat .non) (S2.set n (.lst (xs ++ [p])))) .mk) .mk) E .mk) .mk) .mk) E .mk := by
  unfold eApp
  rw [rs_bind]
  refine rs_congr fun v S1 => ?_
  · skip
    cases v with
    | dat _ => rfl
    | loc n =>
      show _ = opt (lstIn S1[n]?) _ .mk
      rw [lstAt_loc]
      cases lstIn S1[n]? with
      | none => rfl
      | some xs0 =>
        simp only [Option.map_some, opt_some, rs_bind]
        refine rs_congr fun d S2 => ?_
        · skip
          rw [lstAt_loc]
          cases lstIn S2[n]? with
          | none => rfl
          | some xs =>
            cases d with
            | loc _ => rfl
            | dat p =>
              simp only [Option.map_some, opt_some, datOf, rs_ite, rs_ok, rs_bad]
              by_cases h : xs.length < sizeLine <;> simp only [h, if_true, if_false, true_and, false_and]
theorem r_ext {mo : Ex} {a : Ar} {t} : RsP (eExt mo a ρ S) QV E t = RsP (mo ρ S) (fun v S1 => opt (locIx v) (fun n => opt (lstIn S1[n]?) (fun _ => RsP (a ρ S1) (fun ds S2 => opt (lstIn S2[n]?) (fun xs => opt (dats ds) (fun ps => xs.length + ps.length ≤ sizeLine ∧ QV (.dat .non) (S2.set n (.lst (xs ++ ps)))) .mk) .mk) E .mk) .mk) .mk) E .mk := by
  unfold eExt
  rw [rs_bind]
  refine rs_congr fun v S1 => ?_
  · skip
    cases v with
    | dat _ => rfl
    | loc n =>
      show _ = opt (lstIn S1[n]?) _ .mk
      rw [lstAt_loc]
      cases lstIn S1[n]? with
      | none => rfl
      | some xs0 =>
        simp only [Option.map_some, opt_some, rs_bind]
        refine rs_congr fun d S2 => ?_
        · skip
          rw [lstAt_loc]
          cases lstIn S2[n]? with
          | none => rfl
          | some xs =>
            cases e : dats d with
            | none => simp only [Option.map_some, opt_some, e, opt_none]; rfl
            | some ps =>
              simp only [Option.map_some, opt_some, e, rs_ite, rs_ok, rs_bad]
              by_cases h : xs.length + ps.length ≤ sizeLine <;> simp only [h, if_true, if_false, true_and, false_and]
theorem o_retF {m : Ex} {t} : OuP (sRetF m ρ S) N R B C ER t = RsP (m ρ S) (fun v S1 => opt (locIx v) (fun n => opt (lstIn S1[n]?) (fun xs => R (.dat (.lst xs)) (S1.set n .dead)) .mk) .mk) (fun c fs S => ER c fs ρ S) .mk := by
  unfold sRetF
  rw [ou_out]
  refine rs_congr fun v S1 => ?_
  · skip
    cases v with
    | dat _ => rfl
    | loc n =>
      show _ = opt (lstIn S1[n]?) _ .mk
      rw [lstAt_loc]
      cases lstIn S1[n]? <;> rfl
theorem o_fld {c : Nat} {f : Str} {o e : Ex} {t} : OuP (sFldM c f o e ρ S) N R B C ER t = RsP (e ρ S) (fun v S1 => RsP (o ρ S1) (fun w S2 => opt (datOf v) (fun p => opt (locIx w) (fun n => opt (objIn S2[n]?) (fun cf => (cf.1 = c ∧ cf.2.length < 1000) ∧ N ρ (S2.set n (.obj c (putP f p cf.2)))) .mk) .mk) .mk) (fun c fs S => ER c fs ρ S) .mk) (fun c fs S => ER c fs ρ S) .mk := by
  unfold sFldM
  rw [ou_out]
  refine rs_congr fun v S1 => ?_
  · skip
    rw [ou_out]
    refine rs_congr fun w S2 => ?_
    · skip
      cases v with
      | loc _ => rfl
      | dat p =>
        cases w with
        | dat _ => rfl
        | loc n =>
          show _ = opt (objIn S2[n]?) _ .mk
          simp only
          cases S2[n]? with
          | none => rfl
          | some ct =>
            cases ct with
            | obj c' fs =>
              simp only [objIn, opt_some, ou_ite, ou_nx, ou_bad]
              by_cases h : c' = c ∧ fs.length < 1000 <;> simp only [h, if_true, if_false, true_and, false_and]
            | _ => rfl
/-! ### calls of defs -/
theorem r_posM {n : Nat} {dds ds : List Val} {m : Fm} {t} (h : ds.length + dds.length = n) : RsP (posM n dds m ds S) QV E t = RsP (m (ds ++ dds) S) QV E .mk := by
  unfold posM
  rw [if_pos h]
theorem r_fun {n : Nat} {mb : Sm} {ds : List Val} {t} : RsP (funM n mb ds S) QV E t = OuP (mb (ds.map some ++ List.replicate (n - ds.length) none) S) (fun _ S1 => QV (.dat .non) S1) QV no2 no2 (fun c fs _ S1 => E c fs S1) .mk := by
  unfold funM
  cases mb (ds.map some ++ List.replicate (n - ds.length) none) S <;> rfl
theorem run_pos {n k : Nat} {dds ds : List Val} {mb : Sm} {t} (h : ds.length + dds.length = n) (hρ : (ds ++ dds).map some ++ List.replicate (k - (ds ++ dds).length) none = ρ) : RsP (posM n dds (funM k mb) ds S) QV E t = OuP (mb ρ S) (fun _ S1 => QV (.dat .non) S1) QV no2 no2 (fun c fs _ S1 => E c fs S1) .mk := by
  rw [r_posM h, r_fun, hρ]
theorem run_kw {n k : Nat} {ord : List Nat} {dds ds : List Val} {mb : Sm} {t} (h : ds.length = n) (hρ : (pick ord (ds ++ dds)).map some ++ List.replicate (k - (pick ord (ds ++ dds)).length) none = ρ) : RsP (kwM n ord dds (funM k mb) ds S) QV E t = OuP (mb ρ S) (fun _ S1 => QV (.dat .non) S1) QV no2 no2 (fun c fs _ S1 => E c fs S1) .mk := by
  unfold kwM
  rw [if_pos h, r_fun, hρ]
theorem r_pop {m : Fm} {ds : List Val} {t} : RsP (popM m ds S) QV E t = RsP (m ds S) (fun v S' => opt (datOf v) (fun p => QV (.dat p) (S'.take S.length)) .mk) (fun c fs S' => E c fs (S'.take S.length)) .mk := by
  unfold popM
  cases m ds S with
  | bad => rfl
  | exc c fs S' => rfl
  | ok v S' => cases v <;> rfl
theorem r_len2 {n : Nat} {m1 m2 : Fm} {ds : List Val} {t} : RsP (lenM2 n m1 m2 ds S) QV E t = if ds.length = n then RsP (m1 ds S) QV E .mk else RsP (m2 ds S) QV E .mk := by
  unfold lenM2
  rw [rs_ite]
theorem r_star {n : Nat} {m : Fm} {ds : List Val} {t} (h : n ≤ ds.length) : RsP (starM n m ds S) QV E t = opt (dats (ds.drop n)) (fun ps => ps.length ≤ sizeLine ∧ RsP (m (ds.take n ++ [.dat (.tup ps)]) S) QV E .mk) .mk := by
  unfold starM
  rw [if_pos h]
  cases e : dats (ds.drop n) with
  | none => rfl
  | some ps =>
    simp only [opt_some]
    by_cases h : ps.length ≤ sizeLine
    · simp only [h, if_true, true_and]
    · simp only [h, if_false, false_and]; rfl
/-! ### loops -/
theorem o_for {m : Im} {g : Gm} {mb : Sm} {t} : OuP (sFor m g mb ρ S) N R B C ER t = RsP (m ρ S) (fun xs S1 => OuP (forL g mb xs ρ S1) N R B C ER .mk) (fun c fs S => ER c fs ρ S) .mk := by
  unfold sFor
  rw [ou_out]
def lstD : Val → Option (List P)
  | .dat (.lst xs) => some xs
  | _ => none
def tupD : Val → Option (List P)
  | .dat (.tup xs) => some xs
  | _ => none
theorem r_iSeq {m : Ex} {t} : RsP (iSeq m ρ S) QP E t = RsP (m ρ S) (fun v S1 => opt (lstD v) (fun xs => QP xs S1) .mk) E .mk := by
  unfold iSeq
  rw [rs_bind]
  refine rs_congr fun v S1 => ?_
  · skip
    cases v with
    | loc _ => rfl
    | dat p => cases p <;> rfl
theorem r_iTpl {m : Ex} {t} : RsP (iTpl m ρ S) QP E t = RsP (m ρ S) (fun v S1 => opt (tupD v) (fun xs => QP xs S1) .mk) E .mk := by
  unfold iTpl
  rw [rs_bind]
  refine rs_congr fun v S1 => ?_
  · skip
    cases v with
    | loc _ => rfl
    | dat p => cases p <;> rfl
def intL : List Val → Option Int
  | [.dat (.int j)] => some j
  | _ => none
theorem r_iRg {a : Ar} {t} : RsP (iRg a ρ S) QP E t = RsP (a ρ S) (fun ds S1 => opt (intL ds) (fun j => (-(2 ^ 62) ≤ j ∧ j < 2 ^ 62) ∧ QP (rngP 0 j.toNat) S1) .mk) E .mk := by
  unfold iRg
  rw [rs_bind]
  refine rs_congr fun ds S1 => ?_
  · skip
    split
    · rename_i j
      show _ = opt (some j) _ .mk
      rw [opt_some, rs_ite, rs_ok, rs_bad]
      by_cases h : -(2 ^ 62) ≤ j ∧ j < 2 ^ 62 <;> simp only [h, if_true, if_false, true_and, false_and]
    · rename_i h
      match ds, h with
      | [], _ => rfl
      | [.loc _], _ => rfl
      | [.dat p], h => cases p <;> first | rfl | exact absurd rfl (h _)
      | .loc _ :: _ :: _, _ => rfl
      | .dat p :: _ :: _, _ => cases p <;> rfl
theorem forL_nil {g : Gm} {mb : Sm} {t} : OuP (forL g mb [] ρ S) N R B C ER t = N ρ S := (rfl)
theorem forL_cons {g : Gm} {mb : Sm} {x : P} {r : List P} {t} : OuP (forL g mb (x :: r) ρ S) N R B C ER t = OuP (g (.dat x) ρ S) (fun ρ1 S1 => OuP (mb ρ1 S1) (fun ρ2 S2 => OuP (forL g mb r ρ2 S2) N R B C ER .mk) R N (fun ρ2 S2 => OuP (forL g mb r ρ2 S2) N R B C ER .mk) ER .mk) (fun _ _ => False) no2 no2 (fun _ _ _ _ => False) .mk := by
  rw [forL]
  cases g (.dat x) ρ S with
  | nx ρ1 S1 =>
    rw [ou_nx]
    simp only
    cases mb ρ1 S1 <;> rfl
  | _ => rfl
theorem forL_inv {g : Gm} {mb : Sm} {t} (I : List P → Slots → Store → Prop) {xs : List P} (h0 : I xs ρ S)
    (hs : ∀ x r ρ S, I (x :: r) ρ S → OuP (g (.dat x) ρ S) (fun ρ1 S1 => OuP (mb ρ1 S1) (I r) R N (I r) ER .mk) (fun _ _ => False) no2 no2 (fun _ _ _ _ => False) .mk) (he : ∀ ρ S, I [] ρ S → N ρ S) : OuP (forL g mb xs ρ S) N R B C ER t := by
  induction xs generalizing ρ S t with
  | nil => exact he ρ S h0
  | cons x r ih =>
    rw [forL_cons]
    refine (hs x r ρ S h0).mono (fun ρ1 S1 h1 => ?_) (fun _ _ h => h) (fun _ _ h => h) (fun _ _ h => h) (fun _ _ _ _ h => h)
    exact h1.mono (fun ρ2 S2 h2 => ih h2) (fun _ _ h => h) (fun _ _ h => h) (fun ρ2 S2 h2 => ih h2) (fun _ _ _ _ h => h)
theorem whL_inv {tt : Ts} {mb : Sm} {t} (I : Nat → Slots → Store → Prop) {fuel n : Nat} (hn : n < fuel) (h0 : I n ρ S)
    (hs : ∀ n ρ S, I n ρ S → RsP (tt ρ S) (fun c S1 => if c = true then OuP (mb ρ S1) (fun ρ2 S2 => ∃ m, m < n ∧ I m ρ2 S2) R N (fun ρ2 S2 => ∃ m, m < n ∧ I m ρ2 S2) ER .mk else N ρ S1) (fun c fs S => ER c fs ρ S) .mk) : OuP (whL tt mb fuel ρ S) N R B C ER t := by
  induction fuel generalizing ρ S n t with
  | zero => omega
  | succ k ih =>
    rw [whL, ou_out]
    refine (hs n ρ S h0).mono (fun c S1 h1 => ?_) (fun _ _ _ h => h)
    cases c with
    | false => exact h1
    | true =>
      simp only [if_true] at h1 ⊢
      cases e : mb ρ S1 with
      | nx ρ2 S2 =>
        rw [e] at h1
        obtain ⟨m, hm, h2⟩ := h1
        exact ih (by omega) h2
      | ct ρ2 S2 =>
        rw [e] at h1
        obtain ⟨m, hm, h2⟩ := h1
        exact ih (by omega) h2
      | bk ρ2 S2 => rw [e] at h1; exact h1
      | rt v S2 => rw [e] at h1; exact h1
      | exc c fs ρ2 S2 => rw [e] at h1; exact h1
      | bad => rw [e] at h1; exact h1
theorem o_while {f : Slots → Store → Nat} {tt : Ts} {mb : Sm} {t} : OuP (sWhile f tt mb ρ S) N R B C ER t = OuP (whL tt mb (f ρ S) ρ S) N R B C ER .mk := (rfl)
theorem r_lc {m : Im} {own : List Nat} {g : Gm} {tt : Ts} {me : Ex} {t} : RsP (eLc m own g tt me ρ S) QV E t = RsP (m ρ S) (fun xs S1 => xs.length ≤ sizeLine ∧ RsP (lcL g tt me (wipeP ρ own) xs S1) (fun ps S2 => QV (.dat (.lst ps)) S2) E .mk) E .mk := by
  unfold eLc
  rw [rs_bind]
  refine rs_congr fun xs S1 => ?_
  · skip
    rw [rs_ite, rs_bad]
    by_cases h : xs.length ≤ sizeLine
    · simp only [h, if_true, true_and, rs_bind]; rfl
    · simp only [h, if_false, false_and]
theorem lcL_nil {g : Gm} {tt : Ts} {me : Ex} {t} : RsP (lcL g tt me ρ [] S) QP E t = QP [] S := (rfl)
theorem lcL_cons {g : Gm} {tt : Ts} {me : Ex} {x : P} {r : List P} {t} : RsP (lcL g tt me ρ (x :: r) S) QP E t =
    OuP (g (.dat x) ρ S) (fun ρ1 S1 => RsP (tt ρ1 S1) (fun k S2 => if k = true then RsP (me ρ1 S2) (fun v S3 => opt (datOf v) (fun p => RsP (lcL g tt me ρ r S3) (fun ps S4 => QP (p :: ps) S4) E .mk) .mk) (fun _ _ _ => False) .mk else RsP (lcL g tt me ρ r S2) QP E .mk) (fun _ _ _ => False) .mk) (fun _ _ => False) no2 no2 (fun _ _ _ _ => False) .mk := by
  rw [lcL]
  cases g (.dat x) ρ S with
  | nx ρ1 S1 =>
    rw [ou_nx]
    simp only
    cases tt ρ1 S1 with
    | bad => rfl
    | exc _ _ _ => rfl
    | ok k S2 =>
      rw [rs_ok]
      cases k with
      | false => simp only [Bool.false_eq_true, if_false]
      | true =>
        simp only [if_true]
        cases me ρ1 S2 with
        | bad => rfl
        | exc _ _ _ => rfl
        | ok v S3 =>
          rw [rs_ok]
          cases v with
          | loc _ => rfl
          | dat p => simp only [datOf, opt_some, rs_bind]; rfl
  | _ => rfl
theorem lcL_inv {g : Gm} {tt : Ts} {me : Ex} (I : List P → List P → Store → Prop) {xs acc : List P} {t : Tk (fun ps S2 => QP (acc ++ ps) S2) E} (h0 : I xs acc S)
    (hs : ∀ x r acc S, I (x :: r) acc S → OuP (g (.dat x) ρ S) (fun ρ1 S1 => RsP (tt ρ1 S1) (fun k S2 => if k = true then RsP (me ρ1 S2) (fun v S3 => opt (datOf v) (fun p => I r (acc ++ [p]) S3) .mk) (fun _ _ _ => False) .mk else I r acc S2) (fun _ _ _ => False) .mk) (fun _ _ => False) no2 no2 (fun _ _ _ _ => False) .mk)
    (he : ∀ acc S, I [] acc S → QP acc S) : RsP (lcL g tt me ρ xs S) (fun ps S2 => QP (acc ++ ps) S2) E t := by
  induction xs generalizing acc S t with
  | nil =>
    show QP (acc ++ []) S
    rw [List.append_nil]
    exact he acc S h0
  | cons x r ih =>
    rw [lcL_cons]
    refine (hs x r acc S h0).mono (fun ρ1 S1 h1 => ?_) (fun _ _ h => h) (fun _ _ h => h) (fun _ _ h => h) (fun _ _ _ _ h => h)
    refine h1.mono (fun k S2 h2 => ?_) (fun _ _ _ h => h)
    cases k with
    | false => exact ih (t := .mk) h2
    | true =>
      simp only [if_true] at h2 ⊢
      refine h2.mono (fun v S3 h3 => ?_) (fun _ _ _ h => h)
      cases v with
      | loc _ => exact h3
      | dat p =>
        refine (ih (t := .mk) h3).mono (t' := .mk) (fun ps S4 h4 => ?_) (fun _ _ _ h => h)
        rw [List.append_assoc] at h4
        exact h4
/-- every item to one item -/
inductive Fa2 {α β : Type} (f : α → β → Prop) : List α → List β → Prop where
  | nil : Fa2 f [] []
  | cons {a b as bs} : f a b → Fa2 f as bs → Fa2 f (a :: as) (b :: bs)
theorem lcL_map {g : Gm} {me : Ex} {t} (J : Store → Prop) (f : P → P → Prop) {xs : List P} (h0 : J S)
    (hs : ∀ x S, x ∈ xs → J S → OuP (g (.dat x) ρ S) (fun ρ1 S1 => RsP (me ρ1 S1) (fun v S3 => opt (datOf v) (fun p => f x p ∧ J S3) .mk) (fun _ _ _ => False) .mk) (fun _ _ => False) no2 no2 (fun _ _ _ _ => False) .mk)
    (he : ∀ ps S, J S → Fa2 f xs ps → QP ps S) : RsP (lcL g tYesM me ρ xs S) QP E t := by
  induction xs generalizing S t QP with
  | nil => exact he [] S h0 .nil
  | cons x r ih =>
    rw [lcL_cons]
    refine (hs x S List.mem_cons_self h0).mono (fun ρ1 S1 h1 => ?_) (fun _ _ h => h) (fun _ _ h => h) (fun _ _ h => h) (fun _ _ _ _ h => h)
    rw [r_yes]
    simp only [if_true]
    refine h1.mono (fun v S3 h3 => ?_) (fun _ _ _ h => h)
    cases v with
    | loc _ => exact h3
    | dat p =>
      obtain ⟨hf, hJ⟩ := h3
      exact ih (t := .mk) hJ (fun y S hy => hs y S (List.mem_cons_of_mem _ hy)) fun ps S hJ hps => he (p :: ps) S hJ (.cons hf hps)
end
end DL
set_option Elab.async false
set_option linter.all false
set_option maxRecDepth 100000
set_option maxHeartbeats 4000000
namespace QR
open PySem DL
/-! ### lowest terms -/
def dvr (a b : Int) : Int := if b < 0 then -(Int.gcd a b : Int) else (Int.gcd a b : Int)
def nrm (a b : Int) : Int × Int := (a.fdiv (dvr a b), b.fdiv (dvr a b))
structure NF (p : Int × Int) : Prop where
  pos : 0 < p.2
  cop : Int.gcd p.1 p.2 = 1
theorem gcd_ne {a b : Int} (hb : b ≠ 0) : Int.gcd a b ≠ 0 := fun h => hb (Int.gcd_eq_zero_iff.mp h).2
theorem dvr_ne {a b : Int} (hb : b ≠ 0) : dvr a b ≠ 0 := by
  have := gcd_ne (a := a) hb
  unfold dvr
  split <;> omega
theorem dvr_dvd {a b : Int} : dvr a b ∣ a ∧ dvr a b ∣ b := by
  unfold dvr
  split
  · exact ⟨Int.neg_dvd.mpr (Int.gcd_dvd_left a b), Int.neg_dvd.mpr (Int.gcd_dvd_right a b)⟩
  · exact ⟨Int.gcd_dvd_left a b, Int.gcd_dvd_right a b⟩
theorem nrm_mul (a b : Int) : (nrm a b).1 * dvr a b = a ∧ (nrm a b).2 * dvr a b = b := ⟨Int.fdiv_mul_cancel dvr_dvd.1, Int.fdiv_mul_cancel dvr_dvd.2⟩
theorem nrm_pos {a b : Int} (hb : b ≠ 0) : 0 < (nrm a b).2 := by
  have h := (nrm_mul a b).2
  have hg := gcd_ne (a := a) hb
  have hd : dvr a b = if b < 0 then -(Int.gcd a b : Int) else (Int.gcd a b : Int) := rfl
  generalize (nrm a b).2 = x at *
  rcases Int.lt_trichotomy x 0 with hx | hx | hx
  · exfalso
    split at hd
    · have h1 : 0 ≤ x * dvr a b := Int.mul_nonneg_of_nonpos_of_nonpos (by omega) (by omega)
      omega
    · have h1 : x * dvr a b < 0 := Int.mul_neg_of_neg_of_pos hx (by omega)
      omega
  · exfalso
    rw [hx, Int.zero_mul] at h
    exact hb h.symm
  · exact hx
theorem nrm_nf {a b : Int} (hb : b ≠ 0) : NF (nrm a b) := by
  refine ⟨nrm_pos hb, ?_⟩
  have h := nrm_mul a b
  have hg := gcd_ne (a := a) hb
  have e : Int.gcd ((nrm a b).1 * dvr a b) ((nrm a b).2 * dvr a b) = Int.gcd (nrm a b).1 (nrm a b).2 * (dvr a b).natAbs := Int.gcd_mul_right ..
  rw [h.1, h.2] at e
  have hd : (dvr a b).natAbs = Int.gcd a b := by
    unfold dvr
    split <;> omega
  rw [hd] at e
  have hpos : 0 < Int.gcd a b := by omega
  exact (Nat.eq_of_mul_eq_mul_right hpos (by rw [Nat.one_mul]; exact e)).symm
theorem cop_dvd {a b c : Int} (h : a ∣ b * c) (k : Int.gcd b a = 1) : a ∣ c := by
  have h' : a.natAbs ∣ b.natAbs * c.natAbs := by
    rw [← Int.natAbs_mul]
    exact Int.natAbs_dvd_natAbs.mpr h
  have k' : Nat.Coprime a.natAbs b.natAbs := by
    show Nat.gcd a.natAbs b.natAbs = 1
    rw [Nat.gcd_comm]
    exact k
  exact Int.natAbs_dvd_natAbs.mp (Nat.Coprime.dvd_of_dvd_mul_left k' h')
theorem nf_unique {p q : Int × Int} (hp : NF p) (hq : NF q) (h : p.1 * q.2 = q.1 * p.2) : p = q := by
  have d1 : p.2 ∣ q.2 := by
    have : p.2 ∣ p.1 * q.2 := ⟨q.1, by rw [h, Int.mul_comm]⟩
    exact cop_dvd this hp.cop
  have d2 : q.2 ∣ p.2 := by
    have : q.2 ∣ q.1 * p.2 := ⟨p.1, by rw [← h, Int.mul_comm]⟩
    exact cop_dvd this hq.cop
  have e2 : p.2 = q.2 := Int.le_antisymm (Int.le_of_dvd hq.pos d1) (Int.le_of_dvd hp.pos d2)
  have e1 : p.1 = q.1 := by
    rw [e2] at h
    exact Int.eq_of_mul_eq_mul_right (by have := hq.pos; omega) h
  exact Prod.ext e1 e2
/-- x is a / b in lowest terms -/
structure Rp (x : Int × Int) (a b : Int) : Prop where
  nf : NF x
  ne : b ≠ 0
  eq : x.1 * b = a * x.2
theorem rp_nrm {a b : Int} (hb : b ≠ 0) : Rp (nrm a b) a b := by
  refine ⟨nrm_nf hb, hb, ?_⟩
  have h := nrm_mul a b
  generalize (nrm a b).1 = x at *
  generalize (nrm a b).2 = y at *
  generalize dvr a b = g at *
  rw [← h.1, ← h.2]
  grind
theorem rp_unique {x y : Int × Int} {a b c d : Int} (h1 : Rp x a b) (h2 : Rp y c d) (h : a * d = c * b) : x = y := by
  refine nf_unique h1.nf h2.nf ?_
  have e1 := h1.eq
  have e2 := h2.eq
  have hb := h1.ne
  have hd := h2.ne
  have : (x.1 * y.2) * (b * d) = (y.1 * x.2) * (b * d) := by
    have : (x.1 * y.2) * (b * d) = (x.1 * b) * (y.2 * d) := by grind
    rw [this, e1]
    have : (y.1 * x.2) * (b * d) = (y.1 * d) * (x.2 * b) := by grind
    rw [this, e2]
    grind
  exact Int.eq_of_mul_eq_mul_right (Int.mul_ne_zero hb hd) this
theorem rp_self {p : Int × Int} (h : NF p) : Rp p p.1 p.2 := ⟨h, by have := h.pos; omega, rfl⟩
theorem nrm_self {p : Int × Int} (h : NF p) : nrm p.1 p.2 = p := rp_unique (rp_nrm (by have := h.pos; omega)) (rp_self h) rfl
theorem nf_one (n : Int) : NF (n, 1) := ⟨by show (0 : Int) < 1; omega, by show Int.gcd n 1 = 1; simp⟩
theorem nrm_one (n : Int) : nrm n 1 = (n, 1) := nrm_self (nf_one n)
def negQ (p : Int × Int) : Int × Int := (-p.1, p.2)
theorem nf_neg {p : Int × Int} (h : NF p) : NF (negQ p) := ⟨h.pos, by show Int.gcd (-p.1) p.2 = 1; rw [Int.neg_gcd]; exact h.cop⟩
def addQ (p q : Int × Int) : Int × Int := nrm (p.1 * q.2 + q.1 * p.2) (p.2 * q.2)
def mulQ (p q : Int × Int) : Int × Int := nrm (p.1 * q.1) (p.2 * q.2)
theorem rp_add {x y : Int × Int} {a b c d : Int} (h1 : Rp x a b) (h2 : Rp y c d) : Rp (addQ x y) (a * d + c * b) (b * d) := by
  have hx := h1.nf.pos
  have hy := h2.nf.pos
  have hxy : x.2 * y.2 ≠ 0 := Int.mul_ne_zero (by omega) (by omega)
  have h := rp_nrm (a := x.1 * y.2 + y.1 * x.2) hxy
  refine ⟨h.nf, Int.mul_ne_zero h1.ne h2.ne, ?_⟩
  have e := h.eq
  show (nrm (x.1 * y.2 + y.1 * x.2) (x.2 * y.2)).1 * (b * d) = (a * d + c * b) * (nrm (x.1 * y.2 + y.1 * x.2) (x.2 * y.2)).2
  generalize (nrm (x.1 * y.2 + y.1 * x.2) (x.2 * y.2)).1 = u at *
  generalize (nrm (x.1 * y.2 + y.1 * x.2) (x.2 * y.2)).2 = v at *
  have e1 := h1.eq
  have e2 := h2.eq
  refine Int.eq_of_mul_eq_mul_right hxy ?_
  have s1 : u * (b * d) * (x.2 * y.2) = (u * (x.2 * y.2)) * (b * d) := by grind
  rw [s1, e]
  have s2 : (x.1 * y.2 + y.1 * x.2) * v * (b * d) = ((x.1 * b) * (y.2 * d) + (y.1 * d) * (x.2 * b)) * v := by grind
  rw [s2, e1, e2]
  grind
theorem add_comm (p q : Int × Int) : addQ p q = addQ q p := by
  unfold addQ
  rw [Int.add_comm, Int.mul_comm p.2 q.2]
theorem mul_comm (p q : Int × Int) : mulQ p q = mulQ q p := by
  unfold mulQ
  rw [Int.mul_comm p.1, Int.mul_comm p.2]
theorem nf_add {p q : Int × Int} (hp : NF p) (hq : NF q) : NF (addQ p q) := (rp_add (rp_self hp) (rp_self hq)).nf
theorem nf_mul {p q : Int × Int} (hp : NF p) (hq : NF q) : NF (mulQ p q) := nrm_nf (Int.mul_ne_zero (by have := hp.pos; omega) (by have := hq.pos; omega))
theorem add_zero {p : Int × Int} (hp : NF p) : addQ (0, 1) p = p := rp_unique (rp_add (rp_self (nf_one 0)) (rp_self hp)) (rp_self hp) (by show (0 * p.2 + p.1 * 1) * p.2 = p.1 * (1 * p.2); grind)
theorem add3 {p q : Int × Int} (hp : NF p) (hq : NF q) (n : Int) : addQ (addQ p (n, 1)) q = addQ (addQ p q) (n, 1) :=
  rp_unique (rp_add (rp_add (rp_self hp) (rp_self (nf_one n))) (rp_self hq)) (rp_add (rp_add (rp_self hp) (rp_self hq)) (rp_self (nf_one n))) (by simp only []; grind)
theorem addn (n m : Int) : addQ (n, 1) (m, 1) = (n + m, 1) := by
  show nrm (n * 1 + m * 1) (1 * 1) = _
  rw [Int.mul_one, Int.mul_one, Int.mul_one]
  exact nrm_one _
theorem add_nn {p : Int × Int} (hp : NF p) (n : Int) : addQ (addQ (n + n, 1) p) (n, 1) = addQ p (3 * n, 1) :=
  rp_unique (rp_add (rp_add (rp_self (nf_one (n + n))) (rp_self hp)) (rp_self (nf_one n))) (rp_add (rp_self hp) (rp_self (nf_one (3 * n)))) (by simp only []; grind)
/-! ### sizes -/
def Bd (n : Nat) (x : Int) : Prop := x.natAbs < 2 ^ n
def Bq (n : Nat) (p : Int × Int) : Prop := Bd n p.1 ∧ Bd n p.2
theorem Bd.mono {n m : Nat} {x : Int} (h : Bd n x) (l : n ≤ m) : Bd m x := Nat.lt_of_lt_of_le h (Nat.pow_le_pow_right (by decide) l)
theorem Bq.mono {n m : Nat} {p : Int × Int} (h : Bq n p) (l : n ≤ m) : Bq m p := ⟨h.1.mono l, h.2.mono l⟩
theorem Bd.mul {n m : Nat} {x y : Int} (h : Bd n x) (k : Bd m y) : Bd (n + m) (x * y) := by
  unfold Bd at *
  rw [Int.natAbs_mul, Nat.pow_add]
  exact Nat.mul_lt_mul'' h k
theorem Bd.add {n : Nat} {x y : Int} (h : Bd n x) (k : Bd n y) : Bd (n + 1) (x + y) := by
  unfold Bd at *
  have := Int.natAbs_add_le x y
  rw [Nat.pow_succ]
  omega
theorem Bd.neg {n : Nat} {x : Int} (h : Bd n x) : Bd n (-x) := by
  unfold Bd at *
  rw [Int.natAbs_neg]
  exact h
theorem bd_one {n : Nat} (h : 1 ≤ n) : Bd n 1 := by
  unfold Bd
  exact Nat.lt_of_lt_of_le (by decide : (1 : Int).natAbs < 2 ^ 1) (Nat.pow_le_pow_right (by decide) h)
theorem bd_div {n : Nat} {x y g : Int} (hg : g ≠ 0) (h : x * g = y) (hy : Bd n y) : Bd n x := by
  unfold Bd at *
  rw [← h, Int.natAbs_mul] at hy
  have : 0 < g.natAbs := by omega
  exact Nat.lt_of_le_of_lt (Nat.le_mul_of_pos_right _ this) hy
theorem bq_nrm {n : Nat} {a b : Int} (hb : b ≠ 0) (h1 : Bd n a) (h2 : Bd n b) : Bq n (nrm a b) := ⟨bd_div (dvr_ne hb) (nrm_mul a b).1 h1, bd_div (dvr_ne hb) (nrm_mul a b).2 h2⟩
theorem bq_add {n m : Nat} {p q : Int × Int} (hp : NF p) (hq : NF q) (h1 : Bq n p) (h2 : Bq m q) : Bq (n + m + 1) (addQ p q) :=
  bq_nrm (Int.mul_ne_zero (by have := hp.pos; omega) (by have := hq.pos; omega)) ((h1.1.mul h2.2).add (((h2.1.mul h1.2)).mono (by omega))) ((h1.2.mul h2.2).mono (by omega))
theorem bq_mul {n m : Nat} {p q : Int × Int} (hp : NF p) (hq : NF q) (h1 : Bq n p) (h2 : Bq m q) : Bq (n + m + 1) (mulQ p q) :=
  bq_nrm (Int.mul_ne_zero (by have := hp.pos; omega) (by have := hq.pos; omega)) ((h1.1.mul h2.1).mono (by omega)) ((h1.2.mul h2.2).mono (by omega))
theorem bq_neg {n : Nat} {p : Int × Int} (h : Bq n p) : Bq n (negQ p) := ⟨h.1.neg, h.2⟩
theorem bits_le {n : Nat} {x : Int} (h : Bd n x) : Builtin.Int.intBits x ≤ n := PyProof.Rows.intBits_le h
theorem mul_ok {x y : Int} (h : Bd 1000000 x) (k : Bd 1000000 y) : mulOk x y = true := by
  have h1 := bits_le h
  have h2 := bits_le k
  unfold mulOk
  rw [decide_eq_true_iff]
  have : Builtin.Int.intTooBig (Builtin.Int.intBits x + Builtin.Int.intBits y) = false := by
    unfold Builtin.Int.intTooBig
    have hbl : bitsLine = 134217728 := by decide +kernel
    first
      | exact decide_eq_false (by omega)
      | (simp; omega)
  rw [this]
  simp
theorem noPy {x y : Int} (h : Bd 13000 x) : Builtin.divisionGoesByPylong x y = false := by
  by_cases hy : y.natAbs.log2 < 9000
  · exact PyProof.noPylong_of_log2 hy
  · show (decide ((if y == 0 then 0 else y.natAbs.log2 / 30 + 1) > 300) && decide ((if x == 0 then 0 else x.natAbs.log2 / 30 + 1) > (if y == 0 then 0 else y.natAbs.log2 / 30 + 1) + 150)) = false
    have hy0 : (y == 0) = false := by
      simp
      intro e
      subst e
      apply hy
      decide +kernel
    rw [hy0]
    have hx : (if x == 0 then 0 else x.natAbs.log2 / 30 + 1) ≤ 434 := by
      split
      · omega
      · rename_i hx
        have hx0 : x.natAbs ≠ 0 := by simpa using hx
        have : x.natAbs.log2 < 13000 := (Nat.log2_lt hx0).mpr h
        omega
    rw [Bool.and_eq_false_iff]
    right
    rw [decide_eq_false_iff_not]
    simp only [Bool.false_eq_true, if_false]
    omega
theorem div_ok {x y : Int} (hy : y ≠ 0) (h : Bd 13000 x) : divOk x y = true := by
  unfold divOk
  rw [noPy h]
  simp [hy]
theorem big_ok {x : Int} (h : Bd 13000 x) : x.natAbs < bigL := Nat.lt_of_lt_of_le h (by unfold bigL; decide +kernel)
end QR
set_option Elab.async false
set_option linter.all false
set_option maxRecDepth 100000
set_option maxHeartbeats 1000000
namespace DL
open PySem L2
/-! ### small answers -/
theorem atI0 {α : Type} {x : α} {xs : List α} : atI (x :: xs) 0 = some x := by
  unfold atI ixN
  have h : ((0 : Int) < ((x :: xs).length : Nat)) := by simp only [List.length_cons]; omega
  simp [h]
theorem atI1 {α : Type} {x y : α} {xs : List α} : atI (x :: y :: xs) 1 = some y := by
  unfold atI ixN
  have h : ((1 : Int) < ((x :: y :: xs).length : Nat)) := by simp only [List.length_cons]; omega
  rw [if_pos (by decide), if_pos h]
  rfl
theorem atI2 {α : Type} {x y z : α} {xs : List α} : atI (x :: y :: z :: xs) 2 = some z := by
  unfold atI ixN
  have h : ((2 : Int) < ((x :: y :: z :: xs).length : Nat)) := by simp only [List.length_cons]; omega
  rw [if_pos (by decide), if_pos h]
  rfl
theorem atI_nat {α : Type} {xs : List α} {k : Nat} (h : k < xs.length) : atI xs (k : Int) = some xs[k] := by
  unfold atI ixN
  rw [if_pos (by omega), if_pos (by omega)]
  show xs[(k : Int).toNat]? = _
  rw [Int.toNat_natCast, List.getElem?_eq_getElem h]
theorem atI_in {α : Type} {xs : List α} {i : Int} (h0 : 0 ≤ i) (h : i < xs.length) : ∃ x, atI xs i = some x ∧ x ∈ xs := by
  obtain ⟨k, rfl⟩ := Int.eq_ofNat_of_zero_le h0
  exact ⟨_, atI_nat (by omega), List.getElem_mem _⟩
theorem ixN0 {n : Nat} : ixN (n + 1) 0 = some 0 := by
  unfold ixN
  rw [if_pos (by decide), if_pos (by omega)]
  rfl
theorem ixN1 {n : Nat} : ixN (n + 1 + 1) 1 = some 1 := by
  unfold ixN
  rw [if_pos (by decide), if_pos (by omega)]
  rfl
theorem pEqF_int {a b : Int} : pEq false (.int a) (.int b) = some (.bl (decide (a = b))) := (rfl)
theorem pEqT_int {a b : Int} : pEq true (.int a) (.int b) = some (.bl (!decide (a = b))) := (rfl)
theorem pEqF_str {a b : Str} : pEq false (.str a) (.str b) = some (.bl (decide (a = b))) := (rfl)
theorem pEqT_str {a b : Str} : pEq true (.str a) (.str b) = some (.bl (!decide (a = b))) := (rfl)
theorem p10_5 : pPow (.int 10) (.int 5) = some (.int 100000) := (rfl)
theorem p10_9 : pPow (.int 10) (.int 9) = some (.int 1000000000) := (rfl)
theorem p10_10 : pPow (.int 10) (.int 10) = some (.int 10000000000) := (rfl)
theorem p10_18 : pPow (.int 10) (.int 18) = some (.int 1000000000000000000) := (rfl)
theorem p10_19 : pPow (.int 10) (.int 19) = some (.int 10000000000000000000) := (rfl)
theorem p10_29 : pPow (.int 10) (.int 29) = some (.int 100000000000000000000000000000) := (rfl)
theorem p10_30 : pPow (.int 10) (.int 30) = some (.int 1000000000000000000000000000000) := (rfl)
theorem p10_4 : pPow (.int 10) (.int 4) = some (.int 10000) := (rfl)
theorem tru_bl {S : Store} {b : Bool} : truOf S (.dat (.bl b)) = some b := (rfl)
theorem tru_int {S : Store} {i : Int} : truOf S (.dat (.int i)) = some (i != 0) := (rfl)
theorem tru_non {S : Store} : truOf S (.dat .non) = some false := (rfl)
theorem isi_int_int {cs} {i : Int} {S : Store} {Q E t} : RsP (isiM cs [.dat (.int i), .dat (.bty "int")] S) Q E t = Q (.dat (.bl true)) S := (rfl)
theorem isi_int_bool {cs} {i : Int} {S : Store} {Q E t} : RsP (isiM cs [.dat (.int i), .dat (.bty "bool")] S) Q E t = Q (.dat (.bl false)) S := (rfl)
theorem isi_int_cls {c : Nat} {cs : List Nat} (h : cs.contains c = true) {i : Int} {S : Store} {Q E t} : RsP (isiM cs [.dat (.int i), .dat (.cls c)] S) Q E t = Q (.dat (.bl false)) S := by
  show RsP (if cs.contains c then .ok (.dat (.bl false)) S else .bad) Q E t = _
  rw [if_pos h]; rfl
theorem isi_obj_cls {c d : Nat} {cs : List Nat} (h : cs.contains d = true) (h' : cs.contains c = true) {fs : List (Str × P)} {S : Store} {Q E t} : RsP (isiM cs [.dat (.obj c fs), .dat (.cls d)] S) Q E t = Q (.dat (.bl (c == d))) S := by
  show RsP (if cs.contains d && cs.contains c then .ok (.dat (.bl (c == d))) S else .bad) Q E t = _
  rw [if_pos (by rw [h, h']; rfl)]; rfl
theorem isi_obj_int {c : Nat} {cs : List Nat} (h' : cs.contains c = true) {fs : List (Str × P)} {S : Store} {Q E t} : RsP (isiM cs [.dat (.obj c fs), .dat (.bty "int")] S) Q E t = Q (.dat (.bl false)) S := by
  show RsP (if isB.contains "int" && cs.contains c then .ok (.dat (.bl false)) S else .bad) Q E t = _
  rw [if_pos (by rw [h']; rfl)]; rfl
/-! ### a jar -/
def Jar (n : Nat) (S : Store) : Prop := ∃ a b, S[n]? = some (.lst [.int a, .int b]) ∧ 0 ≤ a
theorem Jar.set {n : Nat} {S : Store} {a b : Int} (J : Jar n S) (h : 0 ≤ a) : Jar n (S.set n (.lst [.int a, .int b])) := by
  obtain ⟨_, _, e, _⟩ := J
  exact ⟨a, b, List.getElem?_set_self (List.getElem?_eq_some_iff.mp e).1, h⟩
theorem Jar.lt {n : Nat} {S : Store} (J : Jar n S) : n < S.length := by
  obtain ⟨_, _, e, _⟩ := J
  exact (List.getElem?_eq_some_iff.mp e).1
end DL
namespace DL
open PySem L2 QR
/-! ### operators of a class -/
section
variable {c : Nat} {ml mr : Fm} {base : G2} {S : Store} {Q : Val → Store → Prop} {E : XS} {fs gs : List (Str × P)} {i : Int}
theorem r_num_oo {t} : RsP (gNum c ml mr base (.dat (.obj c fs)) (.dat (.obj c gs)) S) Q E t = RsP (ml [.dat (.obj c fs), .dat (.obj c gs)] S) Q E .mk := by
  show RsP (if c = c ∧ c = c then ml [.dat (.obj c fs), .dat (.obj c gs)] S else .bad) Q E t = _
  rw [if_pos ⟨rfl, rfl⟩]
theorem r_num_oi {t} : RsP (gNum c ml mr base (.dat (.obj c fs)) (.dat (.int i)) S) Q E t = RsP (ml [.dat (.obj c fs), .dat (.int i)] S) Q E .mk := by
  show RsP (if c = c ∧ "int" = "int" then ml [.dat (.obj c fs), .dat (.int i)] S else .bad) Q E t = _
  rw [if_pos ⟨rfl, rfl⟩]
theorem r_num_io {t} : RsP (gNum c ml mr base (.dat (.int i)) (.dat (.obj c fs)) S) Q E t = RsP (mr [.dat (.obj c fs), .dat (.int i)] S) Q E .mk := by
  show RsP (if "int" = "int" ∧ c = c then mr [.dat (.obj c fs), .dat (.int i)] S else .bad) Q E t = _
  rw [if_pos ⟨rfl, rfl⟩]
theorem r_numL_oo {t} : RsP (gNumL c ml base (.dat (.obj c fs)) (.dat (.obj c gs)) S) Q E t = RsP (ml [.dat (.obj c fs), .dat (.obj c gs)] S) Q E .mk := by
  show RsP (if c = c ∧ c = c then ml [.dat (.obj c fs), .dat (.obj c gs)] S else .bad) Q E t = _
  rw [if_pos ⟨rfl, rfl⟩]
theorem r_numL_oi {t} : RsP (gNumL c ml base (.dat (.obj c fs)) (.dat (.int i)) S) Q E t = RsP (ml [.dat (.obj c fs), .dat (.int i)] S) Q E .mk := by
  show RsP (if c = c ∧ "int" = "int" then ml [.dat (.obj c fs), .dat (.int i)] S else .bad) Q E t = _
  rw [if_pos ⟨rfl, rfl⟩]
theorem r_gNeg {m : Fm} {t} : RsP (gNeg c m (.dat (.obj c fs)) S) Q E t = RsP (m [.dat (.obj c fs)] S) Q E .mk := by
  show RsP (if c = c then m [.dat (.obj c fs)] S else .bad) Q E t = _
  rw [if_pos rfl]
end
theorem eq_of_rsp {r : Rs Val} {v : Val} {S0 : Store} {t} (h : RsP r (fun x S1 => x = v ∧ S1 = S0) (fun _ _ _ => False) t) : r = .ok v S0 := by
  obtain ⟨a, S, e, rfl, rfl⟩ := h.ex
  exact e
theorem take_push {S : Store} {c : Cont} : (S ++ [c]).take S.length = S := by simp
theorem push_at {S : Store} {c : Cont} : (S ++ [c])[S.length]? = some c := by simp
theorem push_set {S : Store} {c d : Cont} : (S ++ [c]).set S.length d = S ++ [d] := by simp
/-! ### numbers -/
theorem mulR {a b : Int} (h : b.natAbs < 2 ^ 64) : mulOk a b = true := mulOk_iff.mpr (IntMulOk.of_right (bits_le h))
theorem mulL {a b : Int} (h : a.natAbs < 2 ^ 64) : mulOk a b = true := mulOk_iff.mpr (IntMulOk.of_left (bits_le h))
theorem divS {a b : Int} (h0 : b ≠ 0) (h : b.natAbs < 2 ^ 9000) : Builtin.divisionGoesByPylong a b = false := PyProof.noPylong_of_log2 ((Nat.log2_lt (by omega)).mpr h)
theorem p30 : (10 : Nat) ^ 30 < 2 ^ 9000 := by decide +kernel
theorem bd97 {x : Int} (h : -100000000000000000000000000000 < x) (h' : x < 100000000000000000000000000000) : Bd 97 x := by
  unfold Bd
  omega
theorem gcd_step {x y : Int} (hx : 0 ≤ x) (hy : 0 ≤ y) : Int.gcd y (x % y) = Int.gcd x y := by
  obtain ⟨m, rfl⟩ := Int.eq_ofNat_of_zero_le hx
  obtain ⟨k, rfl⟩ := Int.eq_ofNat_of_zero_le hy
  rw [← Int.natCast_emod]
  show Nat.gcd k (m % k) = Nat.gcd m k
  rw [Nat.gcd_comm k, ← Nat.gcd_rec, Nat.gcd_comm]
def absI (i : Int) : Int := if i < 0 then -i else i
theorem absI_nn (i : Int) : 0 ≤ absI i := by unfold absI; split <;> omega
theorem gcd_abs (a b : Int) : Int.gcd (absI a) (absI b) = Int.gcd a b := by
  unfold absI
  split <;> split <;> simp [Int.gcd_neg, Int.neg_gcd]
/-- a ratio, a pair -/
def ratP (p : Int × Int) : P := .obj 0 [("own_top", .int p.1), ("own_bottom", .int p.2)]
def pairP (p : Int × Int) : P := .tup [.int p.1, .int p.2]
/-- a number, by its value -/
inductive NumQ : P → Int × Int → Prop where
  | rat (p) : NumQ (ratP p) p
  | int (n) : NumQ (.int n) (n, 1)
structure G (n : Nat) (p : Int × Int) : Prop where
  nf : NF p
  bq : Bq n p
theorem G.mono {n m : Nat} {p : Int × Int} (h : G n p) (l : n ≤ m) : G m p := ⟨h.nf, h.bq.mono l⟩
theorem G.ne {n : Nat} {p : Int × Int} (h : G n p) : p.2 ≠ 0 := by have := h.nf.pos; omega
theorem G.add {n m : Nat} {p q : Int × Int} (h : G n p) (k : G m q) : G (n + m + 1) (addQ p q) := ⟨nf_add h.nf k.nf, bq_add h.nf k.nf h.bq k.bq⟩
theorem G.mul {n m : Nat} {p q : Int × Int} (h : G n p) (k : G m q) : G (n + m + 1) (mulQ p q) := ⟨nf_mul h.nf k.nf, bq_mul h.nf k.nf h.bq k.bq⟩
theorem G.neg {n : Nat} {p : Int × Int} (h : G n p) : G n (negQ p) := ⟨nf_neg h.nf, bq_neg h.bq⟩
theorem G.int {n : Nat} {x : Int} (h : Bd n x) (l : 1 ≤ n) : G n (x, 1) := ⟨nf_one x, h, bd_one l⟩
theorem G.nrm {n : Nat} {a b : Int} (hb : b ≠ 0) (h1 : Bd n a) (h2 : Bd n b) : G n (nrm a b) := ⟨nrm_nf hb, bq_nrm hb h1 h2⟩
theorem ne_tb : ((Str.ofString "own_top") = Str.ofString "own_bottom") = False := by
  apply eq_false
  decide
theorem objOf_rat {S : Store} {p : Int × Int} : objOf S (.dat (ratP p)) = some (0, ([("own_top", .int p.1), ("own_bottom", .int p.2)] : List (Str × P))) := (rfl)
theorem txt_len {i : Int} (h : i.natAbs < bigL) : (txtI i).length ≤ 4301 := by
  unfold txtI
  rw [ofString_length]
  exact int_text_length_le10 (by decide) h
theorem empty_app (d : Str) : Str.empty ++ d = d := Str.ext' (by rw [Str.cps_append]; exact Array.empty_append)
end DL
namespace DL
open PySem L2 QR
/-! ### texts -/
theorem ok_char (c : Char) : c.toNat < 0x110000 := by
  have := c.valid
  unfold UInt32.isValidChar at this
  show c.val.toNat < _
  rcases this with h | h
  · exact Nat.lt_trans h (by decide)
  · exact h.2
theorem okS (s : String) : PyData.strOk (Str.ofString s) = true := by
  unfold PyData.strOk
  rw [Str.ofString_eq_toList]
  simp only [List.all_toArray, List.all_map, List.all_eq_true]
  intro c _
  simp only [Function.comp]
  exact decide_eq_true (ok_char c)
theorem okI (i : Int) : PyData.strOk (txtI i) = true := okS _
theorem okA {x y : Str} (hx : PyData.strOk x = true) (hy : PyData.strOk y = true) : PyData.strOk (x ++ y) = true := by
  unfold PyData.strOk at *
  rw [Str.cps_append, Array.all_append, hx, hy]
  rfl
theorem toDs_str : ∀ xs : List Str, toDs (xs.map P.str) = some (xs.map PyData.str)
  | [] => by rw [List.map_nil, toDs]; rfl
  | x :: r => by rw [List.map_cons, toDs, toDs_str r, toD]; rfl
theorem toDs_int : ∀ xs : List Int, toDs (xs.map P.int) = some (xs.map PyData.int)
  | [] => by rw [List.map_nil, toDs]; rfl
  | x :: r => by rw [List.map_cons, toDs, toDs_int r, toD]; rfl
theorem lay_str : ∀ xs : List Str, (∀ x ∈ xs, PyData.strOk x = true) → PyData.canLayAll0 (xs.map PyData.str) = true
  | [], _ => by rw [List.map_nil, PyData.canLayAll0]
  | x :: r, h => by rw [List.map_cons, PyData.canLayAll0, PyData.canLay0, h x List.mem_cons_self, lay_str r fun y hy => h y (List.mem_cons_of_mem _ hy)]; rfl
theorem lay_int : ∀ xs : List Int, PyData.canLayAll0 (xs.map PyData.int) = true
  | [] => by rw [List.map_nil, PyData.canLayAll0]
  | x :: r => by rw [List.map_cons, PyData.canLayAll0, PyData.canLay0, lay_int r]; rfl
theorem dep_str : ∀ xs : List Str, PyData.depthAll (xs.map PyData.str) = 0
  | [] => by rw [List.map_nil, PyData.depthAll]
  | x :: r => by rw [List.map_cons, PyData.depthAll, PyData.depth, dep_str r]; rfl
theorem dep_int : ∀ xs : List Int, PyData.depthAll (xs.map PyData.int) = 0
  | [] => by rw [List.map_nil, PyData.depthAll]
  | x :: r => by rw [List.map_cons, PyData.depthAll, PyData.depth, dep_int r]; rfl
theorem eqv_strs : ∀ xs ys : List Str, PyData.eqvAll (xs.map PyData.str) (ys.map PyData.str) = decide (xs = ys)
  | [], [] => by rw [List.map_nil, PyData.eqvAll]; simp
  | [], _ :: _ => by rw [List.map_nil, List.map_cons, PyData.eqvAll]; simp
  | _ :: _, [] => by rw [List.map_nil, List.map_cons, PyData.eqvAll]; simp
  | x :: r, y :: t => by
    rw [List.map_cons, List.map_cons, PyData.eqvAll, PyData.eqv, eqv_strs r t]
    by_cases h : x = y <;> by_cases k : r = t <;> simp [h, k]
theorem eqv_ints : ∀ xs ys : List Int, PyData.eqvAll (xs.map PyData.int) (ys.map PyData.int) = decide (xs = ys)
  | [], [] => by rw [List.map_nil, PyData.eqvAll]; simp
  | [], _ :: _ => by rw [List.map_nil, List.map_cons, PyData.eqvAll]; simp
  | _ :: _, [] => by rw [List.map_nil, List.map_cons, PyData.eqvAll]; simp
  | x :: r, y :: t => by
    rw [List.map_cons, List.map_cons, PyData.eqvAll, PyData.eqv, eqv_ints r t]
    by_cases h : x = y <;> by_cases k : r = t <;> simp [h, k]
theorem pEq_strs (neg : Bool) {xs ys : List Str} (hx : ∀ x ∈ xs, PyData.strOk x = true) (hy : ∀ x ∈ ys, PyData.strOk x = true) : pEq neg (.lst (xs.map P.str)) (.lst (ys.map P.str)) = some (.bl (if neg then !decide (xs = ys) else decide (xs = ys))) := by
  have h1 : SeqAt.shaped (.list (xs.map PyData.str)) = true := by unfold SeqAt.shaped; rw [PyData.canLay0, lay_str xs hx, PyData.depth, dep_str]; rfl
  have h2 : SeqAt.shaped (.list (ys.map PyData.str)) = true := by unfold SeqAt.shaped; rw [PyData.canLay0, lay_str ys hy, PyData.depth, dep_str]; rfl
  show pEqD neg (.lst (xs.map P.str)) (.lst (ys.map P.str)) = _
  unfold pEqD
  simp only [toD, toDs_str, Option.map_some, h1, h2, Bool.and_self, if_true, PyData.eqv, eqv_strs]
theorem pEq_ints (neg : Bool) {xs ys : List Int} : pEq neg (.lst (xs.map P.int)) (.lst (ys.map P.int)) = some (.bl (if neg then !decide (xs = ys) else decide (xs = ys))) := by
  have h1 : ∀ xs : List Int, SeqAt.shaped (.list (xs.map PyData.int)) = true := fun xs => by unfold SeqAt.shaped; rw [PyData.canLay0, lay_int xs, PyData.depth, dep_int]; rfl
  show pEqD neg (.lst (xs.map P.int)) (.lst (ys.map P.int)) = _
  unfold pEqD
  simp only [toD, toDs_int, Option.map_some, h1, Bool.and_self, if_true, PyData.eqv, eqv_ints]
/-! ### f-strings -/
theorem r_join0 {acc : Str} {ρ : Slots} {S : Store} {Q E t} : RsP (joinM [] acc ρ S) Q E t = Q (.dat (.str acc)) S := (rfl)
def strOf : Val → Option Str
  | .dat (.str y) => some y
  | _ => none
theorem r_join1 {m : Ex} {ms : List Ex} {acc : Str} {ρ : Slots} {S : Store} {Q E t} : RsP (joinM (m :: ms) acc ρ S) Q E t = RsP (m ρ S) (fun v S1 => opt (strOf v) (fun y => (acc ++ y).length ≤ sizeLine ∧ RsP (joinM ms (acc ++ y) ρ S1) Q E .mk) .mk) E .mk := by
  rw [joinM, rs_bind]
  refine rs_congr fun v S1 => ?_
  cases v with
  | loc _ => rfl
  | dat p =>
    cases p with
    | str y =>
      show RsP (if (acc ++ y).length ≤ sizeLine then joinM ms (acc ++ y) ρ S1 else .bad) Q E .mk = opt (some y) _ .mk
      rw [rs_ite, opt_some, rs_bad]
      by_cases h : (acc ++ y).length ≤ sizeLine <;> simp only [h, if_true, if_false, true_and, false_and]
    | _ => rfl
theorem r_joinE {ms : List Ex} {ρ : Slots} {S : Store} {Q E t} : RsP (eJoin ms ρ S) Q E t = RsP (joinM ms Str.empty ρ S) Q E .mk := (rfl)
def fmtOf : Val → Option Str
  | .dat (.int i) => if i.natAbs < bigL then some (txtI i) else none
  | .dat (.str y) => if y.length ≤ sizeLine then some y else none
  | _ => none
theorem r_fmt {m : Ex} {ρ : Slots} {S : Store} {Q E t} : RsP (eFmt m ρ S) Q E t = RsP (m ρ S) (fun v S1 => opt (fmtOf v) (fun y => Q (.dat (.str y)) S1) .mk) E .mk := by
  unfold eFmt
  rw [rs_bind]
  refine rs_congr fun v S1 => ?_
  cases v with
  | loc _ => rfl
  | dat p =>
    cases p with
    | int i =>
      show RsP (if i.natAbs < bigL then .ok (.dat (.str (txtI i))) S1 else .bad) Q E .mk = opt (if i.natAbs < bigL then some (txtI i) else none) _ .mk
      rw [rs_ite, opt_ite, rs_bad, rs_ok]
      by_cases h : i.natAbs < bigL <;> simp only [h, if_true, if_false, true_and, false_and]
    | str y =>
      show RsP (if y.length ≤ sizeLine then .ok (.dat (.str y)) S1 else .bad) Q E .mk = opt (if y.length ≤ sizeLine then some y else none) _ .mk
      rw [rs_ite, opt_ite, rs_bad, rs_ok]
      by_cases h : y.length ≤ sizeLine <;> simp only [h, if_true, if_false, true_and, false_and]
    | _ => rfl
theorem fmt_int {i : Int} : fmtOf (.dat (.int i)) = if i.natAbs < bigL then some (txtI i) else none := (rfl)
theorem r_strI {c : Nat} {m : Fm} {i : Int} {S : Store} {Q E t} : RsP (strM c m [.dat (.int i)] S) Q E t = (i.natAbs < bigL ∧ Q (.dat (.str (txtI i))) S) := by
  show RsP (if i.natAbs < bigL then .ok (.dat (.str (txtI i))) S else .bad) Q E t = _
  rw [rs_ite, rs_ok, rs_bad]
  by_cases h : i.natAbs < bigL <;> simp only [h, if_true, if_false, true_and, false_and]
theorem r_reprI {c : Nat} {m : Fm} {rp : Rm} {i : Int} {S : Store} {Q E t} : RsP (reprM c m rp [.dat (.int i)] S) Q E t = (i.natAbs < bigL ∧ Q (.dat (.str (txtI i))) S) := by
  show RsP (if i.natAbs < bigL then .ok (.dat (.str (txtI i))) S else .bad) Q E t = _
  rw [rs_ite, rs_ok, rs_bad]
  by_cases h : i.natAbs < bigL <;> simp only [h, if_true, if_false, true_and, false_and]
theorem r_strO {c : Nat} {m : Fm} {fs : List (Str × P)} {x : Str} {S S' : Store} {Q E t} (h : m [.dat (.obj c fs)] S = .ok (.dat (.str x)) S') : RsP (strM c m [.dat (.obj c fs)] S) Q E t = Q (.dat (.str x)) S' := by
  show RsP (if c = c then (match m [.dat (.obj c fs)] S with | .ok (.dat (.str t)) S' => .ok (.dat (.str t)) S' | _ => .bad) else .bad) Q E t = _
  rw [if_pos rfl, h]
  rfl
theorem r_reprO {c : Nat} {m : Fm} {rp : Rm} {fs : List (Str × P)} {x : Str} {S S' : Store} {Q E t} (h : m [.dat (.obj c fs)] S = .ok (.dat (.str x)) S') : RsP (reprM c m rp [.dat (.obj c fs)] S) Q E t = Q (.dat (.str x)) S' := by
  show RsP (if c = c then (match m [.dat (.obj c fs)] S with | .ok (.dat (.str t)) S' => .ok (.dat (.str t)) S' | _ => .bad) else .bad) Q E t = _
  rw [if_pos rfl, h]
  rfl
theorem len_text : ∀ (ts : List Str) (k : Nat) (acc : Str) (b : Nat), (∀ t ∈ ts, t.length ≤ b) → (textFrom k acc ts).length ≤ acc.length + ts.length * (b + 2)
  | [], k, acc, b, _ => by show acc.length ≤ _; omega
  | t :: r, k, acc, b, h => by
    rw [textFrom]
    have h1 := len_text r (k + 1) (acc ++ (if k > 0 then ", " else "" : String) ++ t) b fun u hu => h u (List.mem_cons_of_mem _ hu)
    have h2 := h t List.mem_cons_self
    have e : (acc ++ (if k > 0 then ", " else "" : String) ++ t).length = acc.length + (if k > 0 then 2 else 0) + t.length := by
      rw [strLen_append, strLen_append]
      split <;> rfl
    rw [e] at h1
    have : (if k > 0 then 2 else 0 : Nat) ≤ 2 := by split <;> omega
    simp only [List.length_cons, Nat.add_mul, Nat.one_mul]
    omega
end DL
namespace DL
open PySem L2 QR
theorem pAdd_int {a b : Int} : pAdd (.int a) (.int b) = some (.int (a + b)) := (rfl)
theorem pAdd_str {a b : Str} : pAdd (.str a) (.str b) = if a.length + b.length ≤ sizeLine then some (.str (a ++ b)) else none := (rfl)
def sgn (i : Int) : Int := (if 0 < i then 1 else 0) - (if i < 0 then 1 else 0)
theorem sgn_big (i : Int) : (sgn i).natAbs < bigL := by
  have h : (sgn i).natAbs < 10 := by unfold sgn; split <;> split <;> omega
  exact Nat.lt_of_lt_of_le h (by unfold bigL; exact Nat.le_self_pow (by decide) 10)
def strT (p : Int × Int) : Str := if p.2 = 1 then txtI p.1 else (txtI p.1 ++ "/") ++ txtI p.2
def repT (p : Int × Int) : Str := ((("Ratio(" ++ txtI p.1) ++ ", ") ++ txtI p.2) ++ ")"
theorem okT (p : Int × Int) : PyData.strOk (strT p) = true := by
  unfold strT
  split
  · exact okI _
  · exact okA (okA (okI _) (okS _)) (okI _)
theorem okR (p : Int × Int) : PyData.strOk (repT p) = true := okA (okA (okA (okA (okS _) (okI _)) (okS _)) (okI _)) (okS _)
theorem ln_r : (Str.ofString "Ratio(").length = 6 := by rw [ofString_length]; rfl
theorem ln_c : (Str.ofString ", ").length = 2 := by rw [ofString_length]; rfl
theorem ln_p : (Str.ofString ")").length = 1 := by rw [ofString_length]; rfl
theorem ln_s : (Str.ofString "/").length = 1 := by rw [ofString_length]; rfl
theorem repT_len {p : Int × Int} (h : Bq 13000 p) : (repT p).length ≤ 9000 := by
  unfold repT
  have := txt_len (big_ok h.1)
  have := txt_len (big_ok h.2)
  simp only [strLen_append, ln_r, ln_c, ln_p]
  omega
end DL
namespace DL
open PySem L2 QR
/-! ### lists made item by item -/
theorem lcL_of {α : Type} {g : Gm} {me : Ex} {ρ : Slots} {S : Store} {QP : List P → Store → Prop} {E : XS} {t} (h F : α → P) (as : List α)
    (hs : ∀ a ∈ as, OuP (g (.dat (h a)) ρ S) (fun ρ1 S1 => RsP (me ρ1 S1) (fun v S3 => v = .dat (F a) ∧ S3 = S) (fun _ _ _ => False) .mk) (fun _ _ => False) no2 no2 (fun _ _ _ _ => False) .mk) (hq : QP (as.map F) S) : RsP (lcL g tYesM me ρ (as.map h) S) QP E t := by
  induction as generalizing QP t with
  | nil => exact hq
  | cons a r ih =>
    rw [List.map_cons, lcL_cons]
    refine (hs a List.mem_cons_self).mono (fun ρ1 S1 h1 => ?_) (fun _ _ h => h) (fun _ _ h => h) (fun _ _ h => h) (fun _ _ _ _ h => h)
    rw [r_yes]
    simp only [if_true]
    refine h1.mono (fun v S3 ⟨e1, e2⟩ => ?_) (fun _ _ _ h => h)
    subst e1 e2
    exact ih (t := .mk) (fun b hb => hs b (List.mem_cons_of_mem _ hb)) hq
theorem bls_true {f : P → P → Prop} (hf : ∀ x p, f x p → p = .bl true) {xs ps : List P} (h : Fa2 f xs ps) : ∃ bs, blsOf ps = some bs ∧ bs.all id = true := by
  induction h with
  | nil => exact ⟨[], rfl, rfl⟩
  | cons ha _ ih =>
    obtain ⟨bs, e1, e2⟩ := ih
    rw [hf _ _ ha]
    refine ⟨true :: bs, ?_, by simpa using e2⟩
    rw [blsOf, e1]
    rfl
theorem bls_rep {α : Type} (as : List α) : blsOf (as.map fun _ => P.bl true) = some (as.map fun _ => true) := by
  induction as with
  | nil => rfl
  | cons a r ih => rw [List.map_cons, blsOf, ih]; rfl
theorem all_rep {α : Type} (as : List α) : (as.map fun _ => true).all id = true := by simp
theorem r_reprL {c : Nat} {m : Fm} {rp : Rm} {ps : List P} {ts : List Str} {S S' : Store} {Q E t} (h : reprL rp ps S = .ok ts S') (hne : ps ≠ []) (hl : (listText ts).length ≤ sizeLine) : RsP (reprM c m rp [.dat (.lst ps)] S) Q E t = Q (.dat (.str (listText ts))) S' := by
  cases ps with
  | nil => exact absurd rfl hne
  | cons x xs =>
    show RsP (match reprL rp (x :: xs) S with | .ok ts S' => if (listText ts).length ≤ sizeLine then .ok (.dat (.str (listText ts))) S' else .bad | _ => .bad) Q E t = _
    rw [h]
    simp only [hl, if_true]
    rfl
theorem listText_len {ts : List Str} {b : Nat} (h : ∀ t ∈ ts, t.length ≤ b) : (listText ts).length ≤ ts.length * (b + 2) + 2 := by
  unfold listText
  have h1 := len_text ts 0 "[" b h
  rw [strLen_append]
  have e1 : ((Str.ofString "[") : Str).length = 1 := by rw [ofString_length]; rfl
  have e2 : ((Str.ofString "]") : Str).length = 1 := by rw [ofString_length]; rfl
  rw [e1] at h1
  rw [e2]
  omega
theorem rng_mem {n : Nat} {x : P} (h : x ∈ rngP 0 n) : ∃ i : Nat, i < n ∧ x = .int (i : Int) := by
  unfold rngP at h
  obtain ⟨i, hi, rfl⟩ := List.mem_map.mp h
  exact ⟨i, List.mem_range.mp hi, by simp⟩
theorem rng_len {lo : Int} {n : Nat} : (rngP lo n).length = n := by simp [rngP]
end DL
set_option Elab.async false
set_option linter.all false
set_option maxRecDepth 100000
set_option maxHeartbeats 4000000
namespace DL
open PySem L2 QR
/-! ### isinstance -/
theorem is_non_int {cs : List Nat} {S : Store} {Q E t} : RsP (isiM cs [.dat P.non, .dat (.bty "int")] S) Q E t = Q (.dat (.bl false)) S := (rfl)
theorem is_non_bool {cs : List Nat} {S : Store} {Q E t} : RsP (isiM cs [.dat P.non, .dat (.bty "bool")] S) Q E t = Q (.dat (.bl false)) S := (rfl)
theorem is_non_str {cs : List Nat} {S : Store} {Q E t} : RsP (isiM cs [.dat P.non, .dat (.bty "str")] S) Q E t = Q (.dat (.bl false)) S := (rfl)
theorem is_non_list {cs : List Nat} {S : Store} {Q E t} : RsP (isiM cs [.dat P.non, .dat (.bty "list")] S) Q E t = Q (.dat (.bl false)) S := (rfl)
theorem is_non_tuple {cs : List Nat} {S : Store} {Q E t} : RsP (isiM cs [.dat P.non, .dat (.bty "tuple")] S) Q E t = Q (.dat (.bl false)) S := (rfl)
theorem is_non_dict {cs : List Nat} {S : Store} {Q E t} : RsP (isiM cs [.dat P.non, .dat (.bty "dict")] S) Q E t = Q (.dat (.bl false)) S := (rfl)
theorem is_non_cls {cs : List Nat} {c : Nat} {S : Store} {Q E t} : RsP (isiM cs [.dat P.non, .dat (.cls c)] S) Q E t = (cs.contains c = true ∧ Q (.dat (.bl false)) S) := by
  show RsP (if cs.contains c then .ok (.dat (.bl false)) S else .bad) Q E t = _
  rw [rs_ite, rs_ok, rs_bad]
  by_cases h : cs.contains c = true <;> simp only [h, if_true, if_false, true_and, false_and, Bool.false_eq_true]
theorem is_bl_int {cs : List Nat} {b : Bool} {S : Store} {Q E t} : RsP (isiM cs [.dat (P.bl b), .dat (.bty "int")] S) Q E t = Q (.dat (.bl true)) S := (rfl)
theorem is_bl_bool {cs : List Nat} {b : Bool} {S : Store} {Q E t} : RsP (isiM cs [.dat (P.bl b), .dat (.bty "bool")] S) Q E t = Q (.dat (.bl true)) S := (rfl)
theorem is_bl_str {cs : List Nat} {b : Bool} {S : Store} {Q E t} : RsP (isiM cs [.dat (P.bl b), .dat (.bty "str")] S) Q E t = Q (.dat (.bl false)) S := (rfl)
theorem is_bl_list {cs : List Nat} {b : Bool} {S : Store} {Q E t} : RsP (isiM cs [.dat (P.bl b), .dat (.bty "list")] S) Q E t = Q (.dat (.bl false)) S := (rfl)
theorem is_bl_tuple {cs : List Nat} {b : Bool} {S : Store} {Q E t} : RsP (isiM cs [.dat (P.bl b), .dat (.bty "tuple")] S) Q E t = Q (.dat (.bl false)) S := (rfl)
theorem is_bl_dict {cs : List Nat} {b : Bool} {S : Store} {Q E t} : RsP (isiM cs [.dat (P.bl b), .dat (.bty "dict")] S) Q E t = Q (.dat (.bl false)) S := (rfl)
theorem is_bl_cls {cs : List Nat} {c : Nat} {b : Bool} {S : Store} {Q E t} : RsP (isiM cs [.dat (P.bl b), .dat (.cls c)] S) Q E t = (cs.contains c = true ∧ Q (.dat (.bl false)) S) := by
  show RsP (if cs.contains c then .ok (.dat (.bl false)) S else .bad) Q E t = _
  rw [rs_ite, rs_ok, rs_bad]
  by_cases h : cs.contains c = true <;> simp only [h, if_true, if_false, true_and, false_and, Bool.false_eq_true]
theorem is_int_int {cs : List Nat} {i : Int} {S : Store} {Q E t} : RsP (isiM cs [.dat (P.int i), .dat (.bty "int")] S) Q E t = Q (.dat (.bl true)) S := (rfl)
theorem is_int_bool {cs : List Nat} {i : Int} {S : Store} {Q E t} : RsP (isiM cs [.dat (P.int i), .dat (.bty "bool")] S) Q E t = Q (.dat (.bl false)) S := (rfl)
theorem is_int_str {cs : List Nat} {i : Int} {S : Store} {Q E t} : RsP (isiM cs [.dat (P.int i), .dat (.bty "str")] S) Q E t = Q (.dat (.bl false)) S := (rfl)
theorem is_int_list {cs : List Nat} {i : Int} {S : Store} {Q E t} : RsP (isiM cs [.dat (P.int i), .dat (.bty "list")] S) Q E t = Q (.dat (.bl false)) S := (rfl)
theorem is_int_tuple {cs : List Nat} {i : Int} {S : Store} {Q E t} : RsP (isiM cs [.dat (P.int i), .dat (.bty "tuple")] S) Q E t = Q (.dat (.bl false)) S := (rfl)
theorem is_int_dict {cs : List Nat} {i : Int} {S : Store} {Q E t} : RsP (isiM cs [.dat (P.int i), .dat (.bty "dict")] S) Q E t = Q (.dat (.bl false)) S := (rfl)
theorem is_int_cls {cs : List Nat} {c : Nat} {i : Int} {S : Store} {Q E t} : RsP (isiM cs [.dat (P.int i), .dat (.cls c)] S) Q E t = (cs.contains c = true ∧ Q (.dat (.bl false)) S) := by
  show RsP (if cs.contains c then .ok (.dat (.bl false)) S else .bad) Q E t = _
  rw [rs_ite, rs_ok, rs_bad]
  by_cases h : cs.contains c = true <;> simp only [h, if_true, if_false, true_and, false_and, Bool.false_eq_true]
theorem is_str_int {cs : List Nat} {x : Str} {S : Store} {Q E t} : RsP (isiM cs [.dat (P.str x), .dat (.bty "int")] S) Q E t = Q (.dat (.bl false)) S := (rfl)
theorem is_str_bool {cs : List Nat} {x : Str} {S : Store} {Q E t} : RsP (isiM cs [.dat (P.str x), .dat (.bty "bool")] S) Q E t = Q (.dat (.bl false)) S := (rfl)
theorem is_str_str {cs : List Nat} {x : Str} {S : Store} {Q E t} : RsP (isiM cs [.dat (P.str x), .dat (.bty "str")] S) Q E t = Q (.dat (.bl true)) S := (rfl)
theorem is_str_list {cs : List Nat} {x : Str} {S : Store} {Q E t} : RsP (isiM cs [.dat (P.str x), .dat (.bty "list")] S) Q E t = Q (.dat (.bl false)) S := (rfl)
theorem is_str_tuple {cs : List Nat} {x : Str} {S : Store} {Q E t} : RsP (isiM cs [.dat (P.str x), .dat (.bty "tuple")] S) Q E t = Q (.dat (.bl false)) S := (rfl)
theorem is_str_dict {cs : List Nat} {x : Str} {S : Store} {Q E t} : RsP (isiM cs [.dat (P.str x), .dat (.bty "dict")] S) Q E t = Q (.dat (.bl false)) S := (rfl)
theorem is_str_cls {cs : List Nat} {c : Nat} {x : Str} {S : Store} {Q E t} : RsP (isiM cs [.dat (P.str x), .dat (.cls c)] S) Q E t = (cs.contains c = true ∧ Q (.dat (.bl false)) S) := by
  show RsP (if cs.contains c then .ok (.dat (.bl false)) S else .bad) Q E t = _
  rw [rs_ite, rs_ok, rs_bad]
  by_cases h : cs.contains c = true <;> simp only [h, if_true, if_false, true_and, false_and, Bool.false_eq_true]
theorem is_lst_int {cs : List Nat} {xs : List P} {S : Store} {Q E t} : RsP (isiM cs [.dat (P.lst xs), .dat (.bty "int")] S) Q E t = Q (.dat (.bl false)) S := (rfl)
theorem is_lst_bool {cs : List Nat} {xs : List P} {S : Store} {Q E t} : RsP (isiM cs [.dat (P.lst xs), .dat (.bty "bool")] S) Q E t = Q (.dat (.bl false)) S := (rfl)
theorem is_lst_str {cs : List Nat} {xs : List P} {S : Store} {Q E t} : RsP (isiM cs [.dat (P.lst xs), .dat (.bty "str")] S) Q E t = Q (.dat (.bl false)) S := (rfl)
theorem is_lst_list {cs : List Nat} {xs : List P} {S : Store} {Q E t} : RsP (isiM cs [.dat (P.lst xs), .dat (.bty "list")] S) Q E t = Q (.dat (.bl true)) S := (rfl)
theorem is_lst_tuple {cs : List Nat} {xs : List P} {S : Store} {Q E t} : RsP (isiM cs [.dat (P.lst xs), .dat (.bty "tuple")] S) Q E t = Q (.dat (.bl false)) S := (rfl)
theorem is_lst_dict {cs : List Nat} {xs : List P} {S : Store} {Q E t} : RsP (isiM cs [.dat (P.lst xs), .dat (.bty "dict")] S) Q E t = Q (.dat (.bl false)) S := (rfl)
theorem is_lst_cls {cs : List Nat} {c : Nat} {xs : List P} {S : Store} {Q E t} : RsP (isiM cs [.dat (P.lst xs), .dat (.cls c)] S) Q E t = (cs.contains c = true ∧ Q (.dat (.bl false)) S) := by
  show RsP (if cs.contains c then .ok (.dat (.bl false)) S else .bad) Q E t = _
  rw [rs_ite, rs_ok, rs_bad]
  by_cases h : cs.contains c = true <;> simp only [h, if_true, if_false, true_and, false_and, Bool.false_eq_true]
theorem is_tup_int {cs : List Nat} {xs : List P} {S : Store} {Q E t} : RsP (isiM cs [.dat (P.tup xs), .dat (.bty "int")] S) Q E t = Q (.dat (.bl false)) S := (rfl)
theorem is_tup_bool {cs : List Nat} {xs : List P} {S : Store} {Q E t} : RsP (isiM cs [.dat (P.tup xs), .dat (.bty "bool")] S) Q E t = Q (.dat (.bl false)) S := (rfl)
theorem is_tup_str {cs : List Nat} {xs : List P} {S : Store} {Q E t} : RsP (isiM cs [.dat (P.tup xs), .dat (.bty "str")] S) Q E t = Q (.dat (.bl false)) S := (rfl)
theorem is_tup_list {cs : List Nat} {xs : List P} {S : Store} {Q E t} : RsP (isiM cs [.dat (P.tup xs), .dat (.bty "list")] S) Q E t = Q (.dat (.bl false)) S := (rfl)
theorem is_tup_tuple {cs : List Nat} {xs : List P} {S : Store} {Q E t} : RsP (isiM cs [.dat (P.tup xs), .dat (.bty "tuple")] S) Q E t = Q (.dat (.bl true)) S := (rfl)
theorem is_tup_dict {cs : List Nat} {xs : List P} {S : Store} {Q E t} : RsP (isiM cs [.dat (P.tup xs), .dat (.bty "dict")] S) Q E t = Q (.dat (.bl false)) S := (rfl)
theorem is_tup_cls {cs : List Nat} {c : Nat} {xs : List P} {S : Store} {Q E t} : RsP (isiM cs [.dat (P.tup xs), .dat (.cls c)] S) Q E t = (cs.contains c = true ∧ Q (.dat (.bl false)) S) := by
  show RsP (if cs.contains c then .ok (.dat (.bl false)) S else .bad) Q E t = _
  rw [rs_ite, rs_ok, rs_bad]
  by_cases h : cs.contains c = true <;> simp only [h, if_true, if_false, true_and, false_and, Bool.false_eq_true]
theorem is_dic_int {cs : List Nat} {kps : List (Key × P)} {S : Store} {Q E t} : RsP (isiM cs [.dat (P.dic kps), .dat (.bty "int")] S) Q E t = Q (.dat (.bl false)) S := (rfl)
theorem is_dic_bool {cs : List Nat} {kps : List (Key × P)} {S : Store} {Q E t} : RsP (isiM cs [.dat (P.dic kps), .dat (.bty "bool")] S) Q E t = Q (.dat (.bl false)) S := (rfl)
theorem is_dic_str {cs : List Nat} {kps : List (Key × P)} {S : Store} {Q E t} : RsP (isiM cs [.dat (P.dic kps), .dat (.bty "str")] S) Q E t = Q (.dat (.bl false)) S := (rfl)
theorem is_dic_list {cs : List Nat} {kps : List (Key × P)} {S : Store} {Q E t} : RsP (isiM cs [.dat (P.dic kps), .dat (.bty "list")] S) Q E t = Q (.dat (.bl false)) S := (rfl)
theorem is_dic_tuple {cs : List Nat} {kps : List (Key × P)} {S : Store} {Q E t} : RsP (isiM cs [.dat (P.dic kps), .dat (.bty "tuple")] S) Q E t = Q (.dat (.bl false)) S := (rfl)
theorem is_dic_dict {cs : List Nat} {kps : List (Key × P)} {S : Store} {Q E t} : RsP (isiM cs [.dat (P.dic kps), .dat (.bty "dict")] S) Q E t = Q (.dat (.bl true)) S := (rfl)
theorem is_dic_cls {cs : List Nat} {c : Nat} {kps : List (Key × P)} {S : Store} {Q E t} : RsP (isiM cs [.dat (P.dic kps), .dat (.cls c)] S) Q E t = (cs.contains c = true ∧ Q (.dat (.bl false)) S) := by
  show RsP (if cs.contains c then .ok (.dat (.bl false)) S else .bad) Q E t = _
  rw [rs_ite, rs_ok, rs_bad]
  by_cases h : cs.contains c = true <;> simp only [h, if_true, if_false, true_and, false_and, Bool.false_eq_true]
theorem is_obj_int {cs : List Nat} {c : Nat} {fs : List (Str × P)} {S : Store} {Q E t} : RsP (isiM cs [.dat (.obj c fs), .dat (.bty "int")] S) Q E t = (cs.contains c = true ∧ Q (.dat (.bl false)) S) := by
  show RsP (if isB.contains "int" && cs.contains c then .ok (.dat (.bl false)) S else .bad) Q E t = _
  rw [rs_ite, rs_ok, rs_bad, show isB.contains "int" = true from rfl, Bool.true_and]
  by_cases h : cs.contains c = true <;> simp only [h, if_true, if_false, true_and, false_and, Bool.false_eq_true]
theorem is_obj_bool {cs : List Nat} {c : Nat} {fs : List (Str × P)} {S : Store} {Q E t} : RsP (isiM cs [.dat (.obj c fs), .dat (.bty "bool")] S) Q E t = (cs.contains c = true ∧ Q (.dat (.bl false)) S) := by
  show RsP (if isB.contains "bool" && cs.contains c then .ok (.dat (.bl false)) S else .bad) Q E t = _
  rw [rs_ite, rs_ok, rs_bad, show isB.contains "bool" = true from rfl, Bool.true_and]
  by_cases h : cs.contains c = true <;> simp only [h, if_true, if_false, true_and, false_and, Bool.false_eq_true]
theorem is_obj_str {cs : List Nat} {c : Nat} {fs : List (Str × P)} {S : Store} {Q E t} : RsP (isiM cs [.dat (.obj c fs), .dat (.bty "str")] S) Q E t = (cs.contains c = true ∧ Q (.dat (.bl false)) S) := by
  show RsP (if isB.contains "str" && cs.contains c then .ok (.dat (.bl false)) S else .bad) Q E t = _
  rw [rs_ite, rs_ok, rs_bad, show isB.contains "str" = true from rfl, Bool.true_and]
  by_cases h : cs.contains c = true <;> simp only [h, if_true, if_false, true_and, false_and, Bool.false_eq_true]
theorem is_obj_list {cs : List Nat} {c : Nat} {fs : List (Str × P)} {S : Store} {Q E t} : RsP (isiM cs [.dat (.obj c fs), .dat (.bty "list")] S) Q E t = (cs.contains c = true ∧ Q (.dat (.bl false)) S) := by
  show RsP (if isB.contains "list" && cs.contains c then .ok (.dat (.bl false)) S else .bad) Q E t = _
  rw [rs_ite, rs_ok, rs_bad, show isB.contains "list" = true from rfl, Bool.true_and]
  by_cases h : cs.contains c = true <;> simp only [h, if_true, if_false, true_and, false_and, Bool.false_eq_true]
theorem is_obj_tuple {cs : List Nat} {c : Nat} {fs : List (Str × P)} {S : Store} {Q E t} : RsP (isiM cs [.dat (.obj c fs), .dat (.bty "tuple")] S) Q E t = (cs.contains c = true ∧ Q (.dat (.bl false)) S) := by
  show RsP (if isB.contains "tuple" && cs.contains c then .ok (.dat (.bl false)) S else .bad) Q E t = _
  rw [rs_ite, rs_ok, rs_bad, show isB.contains "tuple" = true from rfl, Bool.true_and]
  by_cases h : cs.contains c = true <;> simp only [h, if_true, if_false, true_and, false_and, Bool.false_eq_true]
theorem is_obj_dict {cs : List Nat} {c : Nat} {fs : List (Str × P)} {S : Store} {Q E t} : RsP (isiM cs [.dat (.obj c fs), .dat (.bty "dict")] S) Q E t = (cs.contains c = true ∧ Q (.dat (.bl false)) S) := by
  show RsP (if isB.contains "dict" && cs.contains c then .ok (.dat (.bl false)) S else .bad) Q E t = _
  rw [rs_ite, rs_ok, rs_bad, show isB.contains "dict" = true from rfl, Bool.true_and]
  by_cases h : cs.contains c = true <;> simp only [h, if_true, if_false, true_and, false_and, Bool.false_eq_true]
theorem is_obj_cls {cs : List Nat} {c d : Nat} {fs : List (Str × P)} {S : Store} {Q E t} : RsP (isiM cs [.dat (.obj c fs), .dat (.cls d)] S) Q E t = ((cs.contains d = true ∧ cs.contains c = true) ∧ Q (.dat (.bl (c == d))) S) := by
  show RsP (if cs.contains d && cs.contains c then .ok (.dat (.bl (c == d))) S else .bad) Q E t = _
  rw [rs_ite, rs_ok, rs_bad]
  by_cases h : cs.contains d = true <;> by_cases k : cs.contains c = true <;> simp only [h, k, if_true, if_false, true_and, false_and, Bool.and_self, Bool.and_true, Bool.true_and, Bool.and_false, Bool.false_and, and_self, Bool.false_eq_true]

section
variable {α : Type} {QV : Val → Store → Prop} {QP : List P → Store → Prop} {QK : List (Key × P) → Store → Prop} {E : XS} {ρ : Slots} {S : Store}
theorem r_chain {g g' : G2} {a b c : Ex} {t} : RsP (eChain g g' a b c ρ S) QV E t = RsP (a ρ S) (fun x S1 => RsP (b ρ S1) (fun y S2 => RsP (g x y S2) (fun z S3 => opt (blOf z) (fun k => if k = true then RsP (c ρ S3) (fun w S4 => RsP (g' y w S4) QV E .mk) E .mk else QV (.dat (.bl false)) S3) .mk) E .mk) E .mk) E .mk := by
  unfold eChain
  rw [rs_bind]
  refine rs_congr fun x S1 => ?_
  rw [rs_bind]
  refine rs_congr fun y S2 => ?_
  rw [rs_bind]
  refine rs_congr fun z S3 => ?_
  cases z with
  | loc _ => rfl
  | dat p =>
    cases p with
    | bl k =>
      show RsP (if k = true then (c ρ S3).bind fun w S4 => g' y w S4 else .ok (.dat (.bl false)) S3) QV E .mk = opt (some k) _ .mk
      rw [opt_some, rs_ite, rs_bind]
      rfl
    | _ => rfl
def strD : Val → Option Str
  | .dat (.str x) => some x
  | _ => none
def dicD : Val → Option (List (Key × P))
  | .dat (.dic x) => some x
  | _ => none
theorem r_iStrM {m : Ex} {t} : RsP (iStrM m ρ S) QP E t = RsP (m ρ S) (fun v S1 => opt (strD v) (fun x => QP (signsP x) S1) .mk) E .mk := by
  unfold iStrM
  rw [rs_bind]
  refine rs_congr fun v S1 => ?_
  cases v with
  | loc _ => rfl
  | dat p => cases p <;> rfl
theorem r_iKeysD {m : Ex} {t} : RsP (iKeysD m ρ S) QP E t = RsP (m ρ S) (fun v S1 => opt (dicD v) (fun kps => QP (kps.map fun kv => keyP kv.1) S1) .mk) E .mk := by
  unfold iKeysD
  rw [rs_bind]
  refine rs_congr fun v S1 => ?_
  cases v with
  | loc _ => rfl
  | dat p => cases p <;> rfl
theorem r_iItemsD {m : Ex} {t} : RsP (iItemsD m ρ S) QP E t = RsP (m ρ S) (fun v S1 => opt (dicD v) (fun kps => QP (kps.map fun kv => .tup [keyP kv.1, kv.2]) S1) .mk) E .mk := by
  unfold iItemsD
  rw [rs_bind]
  refine rs_congr fun v S1 => ?_
  cases v with
  | loc _ => rfl
  | dat p => cases p <;> rfl
theorem dicOf_dat {kps} : dicOf S (.dat (.dic kps)) = some kps := (rfl)
theorem keyOf_str {x : Str} : keyOf (.dat (.str x)) = some (.inr x) := (rfl)
theorem keyOf_int {x : Int} : keyOf (.dat (.int x)) = some (.inl x) := (rfl)
theorem r_gDGet {x y : Val} {t} : RsP (gDGet x y S) QV E t = opt (dicOf S x) (fun kps => opt (keyOf y) (fun k => opt (valP kps k) (fun p => QV (.dat p) S) .mk) .mk) .mk := by
  unfold gDGet
  cases dicOf S x with
  | none => rfl
  | some kps =>
    cases keyOf y with
    | none => rfl
    | some k => simp only [opt_some]; cases valP kps k <;> rfl
theorem r_gDIn {neg : Bool} {x y : Val} {t} : RsP (gDIn neg y x S) QV E t = opt (dicOf S x) (fun kps => opt (keyOf y) (fun k => QV (.dat (.bl (if neg then !(valP kps k).isSome else (valP kps k).isSome))) S) .mk) .mk := by
  unfold gDIn
  cases dicOf S x with
  | none => rfl
  | some kps => cases keyOf y <;> rfl
theorem r_pairs0 {QS : List (Val × Val) → Store → Prop} {t} : RsP (aPairs [] ρ S) QS E t = QS [] S := (rfl)
theorem r_pairs1 {QS : List (Val × Val) → Store → Prop} {k v : Ex} {r : List (Ex × Ex)} {t} : RsP (aPairs ((k, v) :: r) ρ S) QS E t = RsP (k ρ S) (fun x S1 => RsP (v ρ S1) (fun y S2 => RsP (aPairs r ρ S2) (fun ps S3 => QS ((x, y) :: ps) S3) E .mk) E .mk) E .mk := by
  rw [aPairs, rs_bind]
  refine rs_congr fun x S1 => ?_
  rw [rs_bind]
  refine rs_congr fun y S2 => ?_
  rw [rs_bind]
  rfl
theorem r_disp {ms : List (Ex × Ex)} {t} : RsP (eDisp ms ρ S) QV E t = RsP (aPairs ms ρ S) (fun ps S1 => opt (kpairs ps) (fun kps => kps.length ≤ 15 ∧ QV (.dat (.dic (mergeKP [] kps))) S1) .mk) E .mk := by
  unfold eDisp
  rw [rs_bind]
  refine rs_congr fun ps S1 => ?_
  cases kpairs ps with
  | none => rfl
  | some kps =>
    simp only [opt_some, rs_ite, rs_ok, rs_bad]
    by_cases h : kps.length ≤ 15 <;> simp only [h, if_true, if_false, true_and, false_and]
theorem r_dc {m : Im} {own : List Nat} {g : Gm} {tt : Ts} {mk mv : Ex} {t} : RsP (eDc m own g tt mk mv ρ S) QV E t = RsP (m ρ S) (fun xs S1 => xs.length ≤ sizeLine ∧ RsP (dcL g tt mk mv (wipeP ρ own) xs [] S1) (fun ps S2 => QV (.dat (.dic ps)) S2) E .mk) E .mk := by
  unfold eDc
  rw [rs_bind]
  refine rs_congr fun xs S1 => ?_
  rw [rs_ite, rs_bad]
  by_cases h : xs.length ≤ sizeLine
  · simp only [h, if_true, true_and, rs_bind]; rfl
  · simp only [h, if_false, false_and]
theorem dcL_nil {g : Gm} {tt : Ts} {mk mv : Ex} {acc : List (Key × P)} {t} : RsP (dcL g tt mk mv ρ [] acc S) QK E t = QK acc S := (rfl)
theorem dcL_cons {g : Gm} {tt : Ts} {mk mv : Ex} {x : P} {r : List P} {acc : List (Key × P)} {t} : RsP (dcL g tt mk mv ρ (x :: r) acc S) QK E t =
    OuP (g (.dat x) ρ S) (fun ρ1 S1 => RsP (tt ρ1 S1) (fun b S2 => if b = true then RsP (mk ρ1 S2) (fun vk S3 => RsP (mv ρ1 S3) (fun v S4 => opt (datOf v) (fun p => opt (keyOf vk) (fun k => RsP (dcL g tt mk mv ρ r (putKP acc k p) S4) QK E .mk) .mk) .mk) (fun _ _ _ => False) .mk) (fun _ _ _ => False) .mk else RsP (dcL g tt mk mv ρ r acc S2) QK E .mk) (fun _ _ _ => False) .mk) (fun _ _ => False) no2 no2 (fun _ _ _ _ => False) .mk := by
  rw [dcL]
  cases g (.dat x) ρ S with
  | nx ρ1 S1 =>
    rw [ou_nx]
    simp only
    cases tt ρ1 S1 with
    | bad => rfl
    | exc _ _ _ => rfl
    | ok b S2 =>
      rw [rs_ok]
      cases b with
      | false => simp only [Bool.false_eq_true, if_false]
      | true =>
        simp only [if_true]
        cases mk ρ1 S2 with
        | bad => rfl
        | exc _ _ _ => rfl
        | ok vk S3 =>
          rw [rs_ok]
          simp only
          cases mv ρ1 S3 with
          | bad => rfl
          | exc _ _ _ => rfl
          | ok v S4 =>
            rw [rs_ok]
            cases v with
            | loc _ => rfl
            | dat p => simp only [datOf, opt_some]; cases keyOf vk <;> rfl
  | _ => rfl
theorem r_sortD {kps : List (Key × P)} {t} : RsP (sortM [.dat (.dic kps)] S) QV E t = opt (strKeys kps) (fun ks => ks.length < 64 ∧ QV (.dat (.lst ((srtS ks).map P.str))) S) .mk := by
  show RsP (match strKeys kps with | some ks => if ks.length < 64 then .ok (.dat (.lst ((srtS ks).map P.str))) S else .bad | none => .bad) QV E t = _
  cases strKeys kps with
  | none => rfl
  | some ks =>
    simp only [opt_some, rs_ite, rs_ok, rs_bad]
    by_cases h : ks.length < 64 <;> simp only [h, if_true, if_false, true_and, false_and]
theorem r_sortL {ps : List P} {t} : RsP (sortM [.dat (.lst ps)] S) QV E t = opt (strsOf ps) (fun ks => ks.length < 64 ∧ QV (.dat (.lst ((srtS ks).map P.str))) S) .mk := by
  show RsP (match strsOf ps with | some ks => if ks.length < 64 then .ok (.dat (.lst ((srtS ks).map P.str))) S else .bad | none => .bad) QV E t = _
  cases strsOf ps with
  | none => rfl
  | some ks =>
    simp only [opt_some, rs_ite, rs_ok, rs_bad]
    by_cases h : ks.length < 64 <;> simp only [h, if_true, if_false, true_and, false_and]
theorem r_dictD {kps : List (Key × P)} {t} : RsP (dictM [.dat (.dic kps)] S) QV E t = QV (.dat (.dic kps)) S := (rfl)
theorem r_dictL {ps : List P} {t} : RsP (dictM [.dat (.lst ps)] S) QV E t = opt (pairsOfP ps) (fun kps => QV (.dat (.dic (mergeKP [] kps))) S) .mk := by
  show RsP (match pairsOfP ps with | some kps => .ok (.dat (.dic (mergeKP [] kps))) S | none => .bad) QV E t = _
  cases pairsOfP ps <;> rfl
theorem r_listD {kps : List (Key × P)} {t} : RsP (listM [.dat (.dic kps)] S) QV E t = QV (.dat (.lst (kps.map fun kv => keyP kv.1))) S := (rfl)
theorem r_listL {ps : List P} {t} : RsP (listM [.dat (.lst ps)] S) QV E t = QV (.dat (.lst ps)) S := (rfl)
theorem r_listT {ps : List P} {t} : RsP (listM [.dat (.tup ps)] S) QV E t = QV (.dat (.lst ps)) S := (rfl)
theorem r_lenDd {kps : List (Key × P)} {t} : RsP (lenD [.dat (.dic kps)] S) QV E t = QV (.dat (.int kps.length)) S := (rfl)
theorem r_len_str {z : Str} {t} : RsP (lenM [.dat (.str z)] S) QV E t = (z.length ≤ sizeLine ∧ QV (.dat (.int z.length)) S) := by
  show RsP (if z.length ≤ sizeLine then .ok (.dat (.int z.length)) S else .bad) QV E t = _
  rw [rs_ite, rs_ok, rs_bad]
  by_cases h : z.length ≤ sizeLine <;> simp only [h, if_true, if_false, true_and, false_and]
theorem seqOf_lst {xs} : seqOf S (.dat (.lst xs)) = some xs := (rfl)
theorem seqOf_tup {xs} : seqOf S (.dat (.tup xs)) = some xs := (rfl)
theorem r_jn {o e : Ex} {t} : RsP (eJn o e ρ S) QV E t = RsP (o ρ S) (fun v S1 => opt (strD v) (fun a => RsP (e ρ S1) (fun w S2 => opt (seqOf S2 w) (fun ps => opt (strsOf ps) (fun ys => (ys.map (·.length)).sum + ys.length * a.length ≤ 16777216 ∧ QV (.dat (.str (Txt.join a ys))) S2) .mk) .mk) E .mk) .mk) E .mk := by
  unfold eJn
  rw [rs_bind]
  refine rs_congr fun v S1 => ?_
  cases v with
  | loc _ => rfl
  | dat p =>
    cases p with
    | str a =>
      show RsP ((e ρ S1).bind _) QV E .mk = opt (some a) _ .mk
      rw [opt_some, rs_bind]
      refine rs_congr fun w S2 => ?_
      cases seqOf S2 w with
      | none => rfl
      | some ps =>
        simp only [opt_some]
        cases strsOf ps with
        | none => rfl
        | some ys =>
          simp only [opt_some, rs_ite, rs_ok, rs_bad]
          by_cases h : (ys.map (·.length)).sum + ys.length * a.length ≤ 16777216 <;> simp only [h, if_true, if_false, true_and, false_and]
    | _ => rfl
theorem r_sl {e : Ex} {lo hi : Po1} {t} : RsP (eSl e lo hi ρ S) QV E t = RsP (e ρ S) (fun v S1 => RsP (lo ρ S1) (fun l S2 => RsP (hi ρ S2) (fun h S3 => RsP (gSl v l h S3) QV E .mk) E .mk) E .mk) E .mk := by
  unfold eSl
  rw [rs_bind]
  refine rs_congr fun v S1 => ?_
  rw [rs_bind]
  refine rs_congr fun l S2 => ?_
  rw [rs_bind]
theorem r_pNone {QO : Option Int → Store → Prop} {t} : RsP (pNone ρ S) QO E t = QO none S := (rfl)
theorem r_pSome {QO : Option Int → Store → Prop} {m : Ex} {t} : RsP (pSome m ρ S) QO E t = RsP (m ρ S) (fun v S1 => opt (intOf v) (fun i => QO (some i) S1) .mk) E .mk := by
  unfold pSome
  rw [rs_bind]
  refine rs_congr fun v S1 => ?_
  cases v with
  | loc _ => rfl
  | dat p => cases p <;> rfl
theorem r_gSlS {z : Str} {l h : Option Int} {t} : RsP (gSl (.dat (.str z)) l h S) QV E t = (z.length ≤ sizeLine ∧ QV (.dat (.str (cutS z l h))) S) := by
  show RsP (if z.length ≤ sizeLine then .ok (.dat (.str (cutS z l h))) S else .bad) QV E t = _
  rw [rs_ite, rs_ok, rs_bad]
  by_cases h : z.length ≤ sizeLine <;> simp only [h, if_true, if_false, true_and, false_and]
theorem r_gSlL {xs : List P} {l h : Option Int} {t} : RsP (gSl (.dat (.lst xs)) l h S) QV E t = QV (.dat (.lst (cutP xs l h))) S := (rfl)
theorem r_ix_str {z : Str} {i : Int} {t} : RsP (gIx (.dat (.str z)) (.dat (.int i)) S) QV E t = (z.length ≤ sizeLine ∧ opt (atI z.cps.toList i) (fun c => QV (.dat (.str ⟨#[c]⟩)) S) .mk) := by
  show RsP (if z.length ≤ sizeLine then (match atI z.cps.toList i with | some c => .ok (.dat (.str ⟨#[c]⟩)) S | none => .bad) else .bad) QV E t = _
  rw [rs_ite, rs_bad]
  by_cases h : z.length ≤ sizeLine
  · simp only [h, if_true, true_and]; cases atI z.cps.toList i <;> rfl
  · simp only [h, if_false, false_and]
theorem r_dget2 {d k x : Ex} {t} : RsP (eDGet2 d k x ρ S) QV E t = RsP (d ρ S) (fun vd S1 => opt (dicOf S1 vd) (fun _ => RsP (k ρ S1) (fun vk S2 => RsP (x ρ S2) (fun vx S3 => opt (dicOf S3 vd) (fun kps => opt (keyOf vk) (fun k => match valP kps k with | some p => QV (.dat p) S3 | none => QV vx S3) .mk) .mk) E .mk) E .mk) .mk) E .mk := by
  unfold eDGet2
  rw [rs_bind]
  refine rs_congr fun vd S1 => ?_
  cases dicOf S1 vd with
  | none => rfl
  | some kps0 =>
    simp only [opt_some, rs_bind]
    refine rs_congr fun vk S2 => ?_
    rw [rs_bind]
    refine rs_congr fun vx S3 => ?_
    cases dicOf S3 vd with
    | none => rfl
    | some kps =>
      cases keyOf vk with
      | none => rfl
      | some k => simp only [opt_some]; cases valP kps k <;> rfl
end
theorem pIsN_non : pIsN false .non .non = some (.bl true) := (rfl)
theorem pNotN_non : pIsN true .non .non = some (.bl false) := (rfl)
theorem pIsN_dic {kps} : pIsN false (.dic kps) .non = some (.bl false) := (rfl)
theorem pNotN_dic {kps} : pIsN true (.dic kps) .non = some (.bl true) := (rfl)
theorem pInS_str {a b : Str} : pInS false (.str a) (.str b) = some (.bl (!(Builtin.Str.occurrences b a 0 b.length 1).isEmpty)) := (rfl)
end DL
namespace DL
open PySem L2 QR
theorem ct0 : List.contains ([0, 1] : List Nat) 0 = true := (rfl)
theorem ct1 : List.contains ([0, 1] : List Nat) 1 = true := (rfl)
/-- items picked by a test -/
theorem lcL_fil {α : Type} {g : Gm} {tt : Ts} {me : Ex} {ρ : Slots} {S : Store} {QP : List P → Store → Prop} {E : XS} {t} (h F : α → P) (b : α → Bool) (as : List α)
    (hs : ∀ a ∈ as, OuP (g (.dat (h a)) ρ S) (fun ρ1 S1 => RsP (tt ρ1 S1) (fun k S2 => k = b a ∧ S2 = S ∧ (b a = true → RsP (me ρ1 S2) (fun v S3 => v = .dat (F a) ∧ S3 = S) (fun _ _ _ => False) .mk)) (fun _ _ _ => False) .mk) (fun _ _ => False) no2 no2 (fun _ _ _ _ => False) .mk) (hq : QP ((as.filter b).map F) S) : RsP (lcL g tt me ρ (as.map h) S) QP E t := by
  induction as generalizing QP t with
  | nil => exact hq
  | cons a r ih =>
    rw [List.map_cons, lcL_cons]
    refine (hs a List.mem_cons_self).mono (fun ρ1 S1 h1 => ?_) (fun _ _ h => h) (fun _ _ h => h) (fun _ _ h => h) (fun _ _ _ _ h => h)
    refine h1.mono (fun k S2 ⟨e1, e2, h2⟩ => ?_) (fun _ _ _ h => h)
    subst e1 e2
    have hr := fun (QP : List P → Store → Prop) (t : Tk QP E) hq => ih (QP := QP) (t := t) (fun c hc => hs c (List.mem_cons_of_mem _ hc)) hq
    cases hb : b a with
    | false =>
      simp only [Bool.false_eq_true, if_false]
      rw [List.filter_cons, hb] at hq
      exact hr _ _ hq
    | true =>
      simp only [if_true]
      rw [List.filter_cons, hb] at hq
      refine (h2 hb).mono (fun v S3 ⟨e1, e2⟩ => ?_) (fun _ _ _ h => h)
      subst e1 e2
      exact hr _ .mk hq
theorem bls_map {α : Type} (f : α → Bool) (as : List α) : blsOf (as.map fun a => P.bl (f a)) = some (as.map f) := by
  induction as with
  | nil => rfl
  | cons a r ih => rw [List.map_cons, blsOf, ih]; rfl
theorem all_map' {α : Type} (f : α → Bool) (as : List α) : (as.map f).all id = as.all f := by
  induction as with
  | nil => rfl
  | cons a r ih => simp only [List.map_cons, List.all_cons, ih, id]
theorem fil_all {α : Type} (f : α → Bool) (as : List α) : decide (((as.filter f).length : Int) = as.length) = as.all f := by
  induction as with
  | nil => rfl
  | cons a r ih =>
    have hl : (r.filter f).length ≤ r.length := List.length_filter_le _ _
    rw [List.filter_cons, List.all_cons]
    cases hf : f a with
    | true =>
      simp only [if_true, Bool.true_and, List.length_cons]
      rw [← ih]
      apply decide_eq_decide.mpr
      omega
    | false =>
      simp only [Bool.false_eq_true, if_false, Bool.false_and, List.length_cons]
      apply decide_eq_false
      omega
end DL
set_option Elab.async false
set_option linter.all false
set_option maxRecDepth 100000
set_option maxHeartbeats 4000000
namespace DL
open PySem L2
def slotOf (ρ : Slots) (i : Nat) : Option Val := match ρ[i]? with
  | some (some v) => some v
  | _ => none
section
variable {ρ : Slots} {S : Store} {N : SS} {R : Val → Store → Prop} {B C : SS} {ER : XR} {QP : List P → Store → Prop} {QV : Val → Store → Prop} {E : XS}
theorem o_frz {i : Nat} {m : Sm} {t} : OuP (sFrz i m ρ S) N R B C ER t = OuP (m ρ S) (fun ρ1 S1 => opt (slotOf ρ1 i) (fun v => opt (lstAt S1 v) (fun nx => N (ρ1.set i (some (.dat (.lst nx.2)))) (S1.set nx.1 .dead)) .mk) .mk) R B C ER .mk := by
  unfold sFrz
  cases m ρ S with
  | nx ρ1 S1 =>
    show _ = opt (slotOf ρ1 i) _ .mk
    cases e : ρ1[i]? with
    | none =>
      rw [show slotOf ρ1 i = none by unfold slotOf; rw [e]]
      simp only [e]
      rfl
    | some o =>
      cases o with
      | none =>
        rw [show slotOf ρ1 i = none by unfold slotOf; rw [e]]
        simp only [e]
        rfl
      | some v =>
        rw [show slotOf ρ1 i = some v by unfold slotOf; rw [e]]
        simp only [e]
        show _ = opt (lstAt S1 v) _ .mk
        cases lstAt S1 v with
        | none => rfl
        | some nx => rfl
  | _ => rfl
def lst1 : List Val → Option (List P)
  | [.dat (.lst xs)] => some xs
  | _ => none
theorem r_iEnm {a : Ar} {t} : RsP (iEnm a ρ S) QP E t = RsP (a ρ S) (fun ds S1 => opt (lst1 ds) (fun xs => QP (xs.mapIdx fun i x => .tup [.int (i : Nat), x]) S1) .mk) E .mk := by
  unfold iEnm
  rw [rs_bind]
  refine rs_congr fun ds S1 => ?_
  split
  · rfl
  · rename_i h
    have : lst1 ds = none := by
      unfold lst1
      split
      · exact absurd rfl (h _)
      · rfl
    rw [this]
    rfl
theorem lst1_is {xs : List P} : lst1 [.dat (.lst xs)] = some xs := (rfl)
theorem r_reprB_bl {g : Fms} {b : Bool} {t} : RsP (reprB g [.dat (.bl b)] S) QV E t = QV (.dat (.str (if b then "True" else "False"))) S := (rfl)
theorem r_reprB_lst {g : Fms} {xs : List P} {t} : RsP (reprB g [.dat (.lst xs)] S) QV E t = RsP (g [.dat (.lst xs)] S) QV E .mk := (rfl)
theorem r_reprB_obj {g : Fms} {c : Nat} {fs : List (Str × P)} {t} : RsP (reprB g [.dat (.obj c fs)] S) QV E t = RsP (g [.dat (.obj c fs)] S) QV E .mk := (rfl)
end
end DL
set_option Elab.async false
set_option linter.all false
set_option maxRecDepth 100000
set_option maxHeartbeats 4000000
namespace DL
open PySem L2 QR
/-! ### a jar, and all else as in T -/
structure JarF (n : Nat) (T S : Store) : Prop where
  jar : Jar n S
  len : S.length = T.length
  off : ∀ m, m ≠ n → S[m]? = T[m]?
theorem Jar.f {n : Nat} {S : Store} (J : Jar n S) : JarF n S S := ⟨J, rfl, fun _ _ => rfl⟩
theorem JarF.set {n : Nat} {T S : Store} {a b : Int} (J : JarF n T S) (h : 0 ≤ a) : JarF n T (S.set n (.lst [.int a, .int b])) :=
  ⟨J.jar.set h, by rw [List.length_set]; exact J.len, fun m hm => by rw [List.getElem?_set_ne (Ne.symm hm)]; exact J.off m hm⟩
theorem Jar.other {n m : Nat} {S : Store} {c : Cont} (J : Jar n S) (h : m ≠ n) : Jar n (S.set m c) := by
  obtain ⟨a, b, e, h0⟩ := J
  exact ⟨a, b, by rw [List.getElem?_set_ne h]; exact e, h0⟩
theorem Jar.push {n : Nat} {S : Store} {c : Cont} (J : Jar n S) : Jar n (S ++ [c]) := by
  obtain ⟨a, b, e, h0⟩ := J
  exact ⟨a, b, by rw [List.getElem?_append_left (List.getElem?_eq_some_iff.mp e).1]; exact e, h0⟩
theorem JarF.trans {n : Nat} {T S U : Store} (a : JarF n T S) (b : JarF n S U) : JarF n T U := ⟨b.jar, b.len.trans a.len, fun m hm => (b.off m hm).trans (a.off m hm)⟩
/-! ### pairs -/
theorem ix_p0 {p : Int × Int} {S : Store} {Q E t} : RsP (gIx (.dat (pairP p)) (.dat (.int 0)) S) Q E t = Q (.dat (.int p.1)) S := by
  rw [pairP, r_ix_tup, atI0]; rfl
theorem ix_p1 {p : Int × Int} {S : Store} {Q E t} : RsP (gIx (.dat (pairP p)) (.dat (.int 1)) S) Q E t = Q (.dat (.int p.2)) S := by
  rw [pairP, r_ix_tup, atI1]; rfl
def prPD (p : Int × Int) : PyData := .tuple [.int p.1, .int p.2]
theorem toD_pair (p : Int × Int) : toD (pairP p) = some (prPD p) := by
  unfold pairP prPD
  rw [toD, toDs, toDs, toDs, toD, toD]
  rfl
theorem toDs_pairs : ∀ ps : List (Int × Int), toDs (ps.map pairP) = some (ps.map prPD)
  | [] => by rw [List.map_nil, toDs]; rfl
  | p :: r => by rw [List.map_cons, toDs, toDs_pairs r, toD_pair]; rfl
theorem prPD_lay (z : Int × Int) : (prPD z).canLay0 = true := by simp [prPD, PyData.canLay0, PyData.canLayAll0]
theorem prPD_depth (z : Int × Int) : (prPD z).depth = 1 := by simp [prPD, PyData.depth, PyData.depthAll]
theorem prPDs_lay : ∀ zs : List (Int × Int), PyData.canLayAll0 (zs.map prPD) = true
  | [] => by simp [PyData.canLayAll0]
  | z :: zs => by simp [PyData.canLayAll0, prPD_lay z, prPDs_lay zs]
theorem prPDs_depth : ∀ zs : List (Int × Int), PyData.depthAll (zs.map prPD) ≤ 1
  | [] => by simp [PyData.depthAll]
  | z :: zs => by
    have h1 := prPDs_depth zs
    have h2 := prPD_depth z
    simp only [List.map_cons, PyData.depthAll]
    omega
theorem prPD_shaped (z : Int × Int) : SeqAt.shaped (prPD z) = true := by
  have h := prPD_depth z
  show ((prPD z).canLay0 && decide ((prPD z).depth ≤ 64)) = true
  rw [Bool.and_eq_true]
  exact ⟨prPD_lay z, decide_eq_true (by omega)⟩
theorem prPDs_shaped (zs : List (Int × Int)) : SeqAt.shaped (.list (zs.map prPD)) = true := by
  have h1 := prPDs_depth zs
  have h2 : PyData.depth (.list (zs.map prPD)) ≤ 64 := by
    simp only [PyData.depth]
    omega
  show (PyData.canLay0 (.list (zs.map prPD)) && decide (PyData.depth (.list (zs.map prPD)) ≤ 64)) = true
  rw [Bool.and_eq_true]
  exact ⟨by simp only [PyData.canLay0]; exact prPDs_lay zs, decide_eq_true h2⟩
theorem prPD_eqv (p q : Int × Int) : PyData.eqv (prPD p) (prPD q) = decide (p = q) := by
  obtain ⟨a, b⟩ := p
  obtain ⟨c, d⟩ := q
  have e : PyData.eqv (prPD (a, b)) (prPD (c, d)) = ((a == c) && ((b == d) && true)) := by simp only [prPD, PyData.eqv, PyData.eqvAll]
  rw [e]
  by_cases h1 : a = c <;> by_cases h2 : b = d <;> simp [h1, h2]
theorem pEq_pair (neg : Bool) {p q : Int × Int} : pEq neg (pairP p) (pairP q) = some (.bl (if neg then !decide (p = q) else decide (p = q))) := by
  show pEqD neg (pairP p) (pairP q) = _
  unfold pEqD
  simp only [toD_pair, prPD_shaped, Bool.and_self, if_true, prPD_eqv]
theorem pInD_pairs {p : Int × Int} {ps : List (Int × Int)} : pInD false (pairP p) (.lst (ps.map pairP)) = some (.bl (ps.any fun q => decide (q = p))) := by
  unfold pInD
  simp only [toD_pair, toDs_pairs, prPD_shaped, prPDs_shaped, Bool.and_self, if_true, List.any_map, Bool.false_eq_true, if_false]
  congr 2
  congr 1
  funext q
  exact prPD_eqv q p
theorem nf_cross {p q : Int × Int} (hp : NF p) (hq : NF q) : decide (p = q) = decide (p.1 * q.2 = q.1 * p.2) := by
  by_cases h : p = q
  · subst h
    simp
  · rw [decide_eq_false h, decide_eq_false fun e => h (nf_unique hp hq e)]
theorem nrm_scale {p : Int × Int} (hp : NF p) {k : Int} (hk : k ≠ 0) : nrm (p.1 * k) (p.2 * k) = p := by
  have h0 : p.2 * k ≠ 0 := Int.mul_ne_zero (by have := hp.pos; omega) hk
  refine rp_unique (rp_nrm h0) (rp_self hp) ?_
  grind
/-! ### lists -/
theorem cut_take {xs : List P} {k : Nat} (h : k ≤ xs.length) : cutP xs none (some (k : Int)) = xs.take k := by
  unfold cutP
  rw [HT.sIx_none, HT.sIx_nat, Nat.min_eq_left h, List.drop_zero, Nat.sub_zero]
theorem atI_last {α : Type} {xs : List α} {x : α} : atI (xs ++ [x]) (-1) = some x := by
  unfold atI ixN
  have h : -((xs ++ [x]).length : Int) ≤ -1 := by simp; omega
  rw [if_neg (by decide), if_pos h]
  have e : (-1 + ((xs ++ [x]).length : Int)).toNat = xs.length := by simp; omega
  rw [e]
  simp
section
variable {g : Gm} {me : Ex} {ρ : Slots} {S : Store} {QP : List P → Store → Prop} {E : XS}
theorem lcL_J {α : Type} {t} (J : Store → Prop) (h F : α → P) (as : List α) (h0 : J S)
    (hs : ∀ a ∈ as, ∀ S, J S → OuP (g (.dat (h a)) ρ S) (fun ρ1 S1 => RsP (me ρ1 S1) (fun v S3 => v = .dat (F a) ∧ J S3) (fun _ _ _ => False) .mk) (fun _ _ => False) no2 no2 (fun _ _ _ _ => False) .mk) (hq : ∀ S, J S → QP (as.map F) S) : RsP (lcL g tYesM me ρ (as.map h) S) QP E t := by
  induction as generalizing QP t S with
  | nil => exact hq S h0
  | cons a r ih =>
    rw [List.map_cons, lcL_cons]
    refine (hs a List.mem_cons_self S h0).mono (fun ρ1 S1 h1 => ?_) (fun _ _ h => h) (fun _ _ h => h) (fun _ _ h => h) (fun _ _ _ _ h => h)
    rw [r_yes]
    simp only [if_true]
    refine h1.mono (fun v S3 h3 => ?_) (fun _ _ _ h => h)
    obtain ⟨rfl, hJ⟩ := h3
    exact ih (t := .mk) hJ (fun b hb => hs b (List.mem_cons_of_mem _ hb)) fun S hS => hq S hS
end
theorem bls_false {f : P → P → Prop} (hf : ∀ x p, f x p → p = .bl false) {xs ps : List P} (h : Fa2 f xs ps) : ∃ bs, blsOf ps = some bs ∧ bs.any id = false := by
  induction h with
  | nil => exact ⟨[], rfl, rfl⟩
  | cons ha _ ih =>
    obtain ⟨bs, e1, e2⟩ := ih
    rw [hf _ _ ha]
    refine ⟨false :: bs, ?_, by simpa using e2⟩
    rw [blsOf, e1]
    rfl
end DL
set_option Elab.async false
set_option linter.all false
set_option maxRecDepth 100000
set_option maxHeartbeats 4000000
namespace K12
open PySem PySem.Spec PyProof.Rows L2 ClX DL
def top (i : Nat) : Stmt := PySem.Challenge.pw_calledmidway_k12_ratios_compared.main.body.getD i (.Pass ⟨0, 0, 0, 0⟩)
structure Zs (mg : Str → Option Value) : Prop where
  z_abs : mg "abs" = none
  z_all : mg "all" = none
  z_any : mg "any" = none
  z_bool : mg "bool" = none
  z_dict : mg "dict" = none
  z_divmod : mg "divmod" = none
  z_enumerate : mg "enumerate" = none
  z_int : mg "int" = none
  z_isinstance : mg "isinstance" = none
  z_len : mg "len" = none
  z_list : mg "list" = none
  z_max : mg "max" = none
  z_min : mg "min" = none
  z_range : mg "range" = none
  z_repr : mg "repr" = none
  z_sorted : mg "sorted" = none
  z_str : mg "str" = none
noncomputable section
variable {Pr : Program} {w : World} {K : PySem.W.Frag} {mg : Str → Option Value} {base : Heap}
/-! ### _law_common -/
abbrev st_law_common : Stmt := top 27
def N_law_common : List Str := ["_law_one", "_law_two"]
theorem sc_law_common : FnScope N_law_common ["_law_one", "_law_two"] (defScope st_law_common) := ⟨rfl, rfl, rfl, by decide +kernel, rfl, by decide +kernel, by decide +kernel⟩
def b_law_common : Sm := (sSeq (sPar 0 1 (aCons (eCall (fm1 pAbs) (aCons (eVar 0) aNil)) (aCons (eCall (fm1 pAbs) (aCons (eVar 1) aNil)) aNil)))
  (sSeq (sWhile (fun ρ _ => natAt ρ 1 + 1) (tVal (eOp (datOp pGt) (eVar 1) (eK (.int 0)))) (sPar 0 1 (aCons (eVar 1) (aCons (eOp (datOp pMod) (eCall (fm1 pInt) (aCons (eVar 0) aNil)) (eVar 1)) aNil))))
  (sRet (eVar 0))))
def F_law_common : Fm := funM N_law_common.length b_law_common
def M_law_common : Fm := posM 2 [] F_law_common
theorem body_law_common {f : Addr} (z : Zs mg) : BodyOk Pr w K mg base false 0 f N_law_common "_law_common" (defScope st_law_common) (defBody st_law_common) b_law_common := by
  intro cdv A outer s H E hr hG tk hp
  exact (ds_cons (ds_par (i := 0) (j := 1) rfl sc_law_common.nd rfl rfl (by decide) rfl rfl (da_cons (de_callB cm_abs rfl z.z_abs (by decide +kernel) (da_cons (de_var (pv 0)) da_nil)) (da_cons (de_callB cm_abs rfl z.z_abs (by decide +kernel) (da_cons (de_var (pv 1)) da_nil)) da_nil)) rfl)
    (ds_cons (ds_while (fuel := fun ρ _ => natAt ρ 1 + 1) hp (dt_cmp om_gt (de_var (pv 1)) de_int (nomark _)) (ds_one (ds_par (i := 0) (j := 1) rfl sc_law_common.nd rfl rfl (by decide) rfl rfl (da_cons (de_var (pv 1)) (da_cons (de_bin om_mod (de_callTy cm_int rfl z.z_int (by decide +kernel) (da_cons (de_var (pv 0)) da_nil)) (de_var (pv 1))) da_nil)) rfl)))
    (ds_one (ds_ret (de_var (pv 0))))))
theorem cal_law_common {f : Addr} (T : TxD K "_law_common" "_law_common" st_law_common [] f) (z : Zs mg) : Cal Pr w K mg base false 1 f [] M_law_common := by
  obtain ⟨fd, Fd⟩ := T
  have B := body_law_common (Pr := Pr) (w := w) (K := K) (mg := mg) (base := base) (f := f) z
  exact (cal_pos (fn_ok Fd sc_law_common B) (Fd.bindsN fun _ _ _ _ _ _ us hl => match us, hl with | [_, _], _ => rfl) .nil (fun _ _ => .nil))
/-! ### _law_lowest -/
abbrev st_law_lowest : Stmt := top 28
def N_law_lowest : List Str := ["_law_up", "_law_low", "_law_by"]
theorem sc_law_lowest : FnScope N_law_lowest ["_law_up", "_law_low"] (defScope st_law_lowest) := ⟨rfl, rfl, rfl, by decide +kernel, rfl, by decide +kernel, by decide +kernel⟩
def b_law_lowest : Sm := (sSeq (sSet 2 (eOp (datOp pMul) (eCall M_law_common (aCons (eVar 0) (aCons (eVar 1) aNil))) (eIf (tVal (eOp (datOp pGt) (eVar 1) (eK (.int 0)))) (eK (.int 1)) (eUn gNegI (eK (.int 1))))))
  (sRet (eTup (aCons (eOp (datOp pDiv) (eVar 0) (eVar 2)) (aCons (eOp (datOp pDiv) (eVar 1) (eVar 2)) aNil)))))
def F_law_lowest : Fm := funM N_law_lowest.length b_law_lowest
def M_law_lowest : Fm := posM 2 [] F_law_lowest
theorem body_law_lowest {f : Addr} (h_law_common : KFn Pr w K mg base false 1 "_law_common" [] M_law_common) : BodyOk Pr w K mg base false 1 f N_law_lowest "_law_lowest" (defScope st_law_lowest) (defBody st_law_lowest) b_law_lowest := by
  intro cdv A outer s H E hr hG tk hp
  exact (ds_cons (ds_set (i := 2) sc_law_lowest.nd rfl (by first | exact Or.inl rfl | exact Or.inr rfl) (de_bin om_mul (xe_fn h_law_common (hr.mono (by decide)) .no tk rfl (da_cons (de_var (pv 0)) (da_cons (de_var (pv 1)) da_nil))) (de_if (dt_cmp om_gt (de_var (pv 1)) de_int (nomark _)) de_int (de_un um_negI de_int))))
    (ds_one (ds_ret (de_tup (da_cons (de_bin om_div (de_var (pv 0)) (de_var (pv 2))) (da_cons (de_bin om_div (de_var (pv 1)) (de_var (pv 2))) da_nil))))))
theorem cal_law_lowest {f : Addr} (T : TxD K "_law_lowest" "_law_lowest" st_law_lowest [] f) (h_law_common : KFn Pr w K mg base false 1 "_law_common" [] M_law_common) : Cal Pr w K mg base false 2 f [] M_law_lowest := by
  obtain ⟨fd, Fd⟩ := T
  have B := body_law_lowest (Pr := Pr) (w := w) (K := K) (mg := mg) (base := base) (f := f) h_law_common
  exact (cal_pos (fn_ok Fd sc_law_lowest B) (Fd.bindsN fun _ _ _ _ _ _ us hl => match us, hl with | [_, _], _ => rfl) .nil (fun _ _ => .nil))
/-! ### _law_dip -/
abbrev st_law_dip : Stmt := top 25
def N_law_dip : List Str := ["_law_jar_here", "_law_many", "_law_digit"]
theorem sc_law_dip : FnScope N_law_dip ["_law_jar_here", "_law_many"] (defScope st_law_dip) := ⟨rfl, rfl, rfl, by decide +kernel, rfl, by decide +kernel, by decide +kernel⟩
def b_law_dip : Sm := (sSeq (sIf (tVal (eOp (datOp pGt) (eOp gIx (eVar 0) (eK (.int 0))) (eK (.int 0)))) (sSeq (sAsg (eCall (fm2 pDivmod) (aCons (eOp gIx (eVar 0) (eK (.int 0))) (aCons (eVar 1) aNil))) (gTp 2 (gsCons (gSb (eVar 0) (eK (.int 0))) (gsCons (gNm 2) gsNil))))
  (sRet (eVar 2))) sNil)
  (sSeq (sAsg (eOp (datOp pMod) (eCall (fm1 pInt) (aCons (eOp (datOp pAdd) (eOp (datOp pMul) (eOp gIx (eVar 0) (eK (.int 1))) (eK (.int 44497))) (eK (.int 27011))) aNil)) (eK (.int 2147483563))) (gSb (eVar 0) (eK (.int 1))))
  (sRet (eOp (datOp pMod) (eCall (fm1 pInt) (aCons (eOp (datOp pDiv) (eOp (datOp pMod) (eCall (fm1 pInt) (aCons (eOp (datOp pMul) (eOp gIx (eVar 0) (eK (.int 1))) (eOp gIx (eVar 0) (eK (.int 1)))) aNil)) (eK (.int 2147483497))) (eK (.int 17))) aNil)) (eVar 1)))))
def F_law_dip : Fm := funM N_law_dip.length b_law_dip
def M_law_dip : Fm := posM 2 [] F_law_dip
theorem body_law_dip {f : Addr} (z : Zs mg) : BodyOk Pr w K mg base false 0 f N_law_dip "_law_dip" (defScope st_law_dip) (defBody st_law_dip) b_law_dip := by
  intro cdv A outer s H E hr hG tk hp
  exact (ds_cons (ds_if (dt_cmp om_gt (de_ix im_ix (de_var (pv 0)) de_int (fun _ _ => rfl)) de_int (nomark _)) (ds_cons (ds_asg (de_callB cm_divmod rfl z.z_divmod (by decide +kernel) (da_cons (de_ix im_ix (de_var (pv 0)) de_int (fun _ _ => rfl)) (da_cons (de_var (pv 1)) da_nil))) (dg_tup rfl (dgs_cons (dg_sub (ws := [2]) (W := Wno) (de_var (pv 0)) de_int) (dgs_cons (dg_name (ws := [2]) (i := 2) (by decide) sc_law_dip.nd rfl (by first | exact Or.inl rfl | exact Or.inr rfl)) dgs_nil))))
    (ds_one (ds_ret (de_var (pv 2))))) ds_nil)
    (ds_cons (ds_asg (de_bin om_mod (de_callTy cm_int rfl z.z_int (by decide +kernel) (da_cons (de_bin om_add (de_bin om_mul (de_ix im_ix (de_var (pv 0)) de_int (fun _ _ => rfl)) de_int) de_int) da_nil)) de_int) (dg_sub (ws := []) (W := Wno) (de_var (pv 0)) de_int))
    (ds_one (ds_ret (de_bin om_mod (de_callTy cm_int rfl z.z_int (by decide +kernel) (da_cons (de_bin om_div (de_bin om_mod (de_callTy cm_int rfl z.z_int (by decide +kernel) (da_cons (de_bin om_mul (de_ix im_ix (de_var (pv 0)) de_int (fun _ _ => rfl)) (de_ix im_ix (de_var (pv 0)) de_int (fun _ _ => rfl))) da_nil)) de_int) de_int) da_nil)) (de_var (pv 1)))))))
theorem cal_law_dip {f : Addr} (T : TxD K "_law_dip" "_law_dip" st_law_dip [] f) (z : Zs mg) : Cal Pr w K mg base false 1 f [] M_law_dip := by
  obtain ⟨fd, Fd⟩ := T
  have B := body_law_dip (Pr := Pr) (w := w) (K := K) (mg := mg) (base := base) (f := f) z
  exact (cal_pos (fn_ok Fd sc_law_dip B) (Fd.bindsN fun _ _ _ _ _ _ us hl => match us, hl with | [_, _], _ => rfl) .nil (fun _ _ => .nil))
/-! ### _law_choice -/
abbrev st_law_choice : Stmt := top 26
def N_law_choice : List Str := ["_law_jar_here", "_law_some"]
theorem sc_law_choice : FnScope N_law_choice ["_law_jar_here", "_law_some"] (defScope st_law_choice) := ⟨rfl, rfl, rfl, by decide +kernel, rfl, by decide +kernel, by decide +kernel⟩
def b_law_choice : Sm := (sRet (eOp gIx (eVar 1) (eCall M_law_dip (aCons (eVar 0) (aCons (eCall (lenM) (aCons (eVar 1) aNil)) aNil)))))
def F_law_choice : Fm := funM N_law_choice.length b_law_choice
def M_law_choice : Fm := posM 2 [] F_law_choice
theorem body_law_choice {f : Addr} (z : Zs mg) (h_law_dip : KFn Pr w K mg base false 1 "_law_dip" [] M_law_dip) : BodyOk Pr w K mg base false 1 f N_law_choice "_law_choice" (defScope st_law_choice) (defBody st_law_choice) b_law_choice := by
  intro cdv A outer s H E hr hG tk hp
  exact (ds_one (ds_ret (de_ix im_ix (de_var (pv 1)) (xe_fn h_law_dip (hr.mono (by decide)) .no tk rfl (da_cons (de_var (pv 0)) (da_cons (de_callB cm_len rfl z.z_len (by decide +kernel) (da_cons (de_var (pv 1)) da_nil)) da_nil))) (fun _ _ => rfl))))
theorem cal_law_choice {f : Addr} (T : TxD K "_law_choice" "_law_choice" st_law_choice [] f) (z : Zs mg) (h_law_dip : KFn Pr w K mg base false 1 "_law_dip" [] M_law_dip) : Cal Pr w K mg base false 2 f [] M_law_choice := by
  obtain ⟨fd, Fd⟩ := T
  have B := body_law_choice (Pr := Pr) (w := w) (K := K) (mg := mg) (base := base) (f := f) z h_law_dip
  exact (cal_pos (fn_ok Fd sc_law_choice B) (Fd.bindsN fun _ _ _ _ _ _ us hl => match us, hl with | [_, _], _ => rfl) .nil (fun _ _ => .nil))
/-! ### _law_integer -/
abbrev st_law_integer : Stmt := top 31
def N_law_integer : List Str := ["_law_jar_here", "_law_size", "_law_found"]
theorem sc_law_integer : FnScope N_law_integer ["_law_jar_here"] (defScope st_law_integer) := ⟨rfl, rfl, rfl, by decide +kernel, rfl, by decide +kernel, by decide +kernel⟩
def b_law_integer : Sm := (sSeq (sSet 1 (eCall M_law_choice (aCons (eVar 0) (aCons (eLst (aCons (eK (.int 2)) (aCons (eK (.int 4)) (aCons (eK (.int 7)) (aCons (eK (.int 13)) (aCons (eOp (datOp pPow) (eK (.int 10)) (eK (.int 5))) (aCons (eOp (datOp pPow) (eK (.int 10)) (eK (.int 10))) (aCons (eOp (datOp pPow) (eK (.int 10)) (eK (.int 29))) aNil)))))))) aNil))))
  (sSeq (sSet 2 (eCall M_law_dip (aCons (eVar 0) (aCons (eVar 1) aNil))))
  (sSeq (sIf (tAndM (tVal (eOp (datOp (pEq false)) (eVar 1) (eOp (datOp pPow) (eK (.int 10)) (eK (.int 29))))) (tVal (eOp (datOp pLt) (eVar 2) (eOp (datOp pPow) (eK (.int 10)) (eK (.int 10)))))) (sSet 2 (eOp (datOp pAdd) (eOp (datOp pAdd) (eOp (datOp pMul) (eVar 2) (eOp (datOp pPow) (eK (.int 10)) (eK (.int 19)))) (eOp (datOp pMul) (eCall M_law_dip (aCons (eVar 0) (aCons (eOp (datOp pPow) (eK (.int 10)) (eK (.int 10))) aNil))) (eOp (datOp pPow) (eK (.int 10)) (eK (.int 9))))) (eCall M_law_dip (aCons (eVar 0) (aCons (eOp (datOp pPow) (eK (.int 10)) (eK (.int 9))) aNil))))) sNil)
  (sRet (eIf (tVal (eOp (datOp (pEq false)) (eCall M_law_dip (aCons (eVar 0) (aCons (eK (.int 2)) aNil))) (eK (.int 1)))) (eUn gNegI (eVar 2)) (eVar 2))))))
def F_law_integer : Fm := funM N_law_integer.length b_law_integer
def M_law_integer : Fm := posM 1 [] F_law_integer
theorem body_law_integer {f : Addr} (h_law_choice : KFn Pr w K mg base false 2 "_law_choice" [] M_law_choice) (h_law_dip : KFn Pr w K mg base false 1 "_law_dip" [] M_law_dip) : BodyOk Pr w K mg base false 2 f N_law_integer "_law_integer" (defScope st_law_integer) (defBody st_law_integer) b_law_integer := by
  intro cdv A outer s H E hr hG tk hp
  exact (ds_cons (ds_set (i := 1) sc_law_integer.nd rfl (by first | exact Or.inl rfl | exact Or.inr rfl) (xe_fn h_law_choice (hr.mono (by decide)) .no tk rfl (da_cons (de_var (pv 0)) (da_cons (de_lst (da_cons de_int (da_cons de_int (da_cons de_int (da_cons de_int (da_cons (de_bin om_pow de_int de_int) (da_cons (de_bin om_pow de_int de_int) (da_cons (de_bin om_pow de_int de_int) da_nil)))))))) da_nil))))
    (ds_cons (ds_set (i := 2) sc_law_integer.nd rfl (by first | exact Or.inl rfl | exact Or.inr rfl) (xe_fn h_law_dip (hr.mono (by decide)) .no tk rfl (da_cons (de_var (pv 0)) (da_cons (de_var (pv 1)) da_nil))))
    (ds_cons (ds_if (PW.pt (dw_and (dt_cmp (om_eq hr.units) (de_var (pv 1)) (de_bin om_pow de_int de_int) (nomark _)) (dw_and1 (dt_cmp om_lt (de_var (pv 2)) (de_bin om_pow de_int de_int) (nomark _))))) (ds_one (ds_set (i := 2) sc_law_integer.nd rfl (by first | exact Or.inl rfl | exact Or.inr rfl) (de_bin om_add (de_bin om_add (de_bin om_mul (de_var (pv 2)) (de_bin om_pow de_int de_int)) (de_bin om_mul (xe_fn h_law_dip (hr.mono (by decide)) .no tk rfl (da_cons (de_var (pv 0)) (da_cons (de_bin om_pow de_int de_int) da_nil))) (de_bin om_pow de_int de_int))) (xe_fn h_law_dip (hr.mono (by decide)) .no tk rfl (da_cons (de_var (pv 0)) (da_cons (de_bin om_pow de_int de_int) da_nil)))))) ds_nil)
    (ds_one (ds_ret (de_if (dt_cmp (om_eq hr.units) (xe_fn h_law_dip (hr.mono (by decide)) .no tk rfl (da_cons (de_var (pv 0)) (da_cons de_int da_nil))) de_int (nomark _)) (de_un um_negI (de_var (pv 2))) (de_var (pv 2))))))))
theorem cal_law_integer {f : Addr} (T : TxD K "_law_integer" "_law_integer" st_law_integer [] f) (h_law_choice : KFn Pr w K mg base false 2 "_law_choice" [] M_law_choice) (h_law_dip : KFn Pr w K mg base false 1 "_law_dip" [] M_law_dip) : Cal Pr w K mg base false 3 f [] M_law_integer := by
  obtain ⟨fd, Fd⟩ := T
  have B := body_law_integer (Pr := Pr) (w := w) (K := K) (mg := mg) (base := base) (f := f) h_law_choice h_law_dip
  exact (cal_pos (fn_ok Fd sc_law_integer B) (Fd.bindsN fun _ _ _ _ _ _ us hl => match us, hl with | [_], _ => rfl) .nil (fun _ _ => .nil))
/-! ### _law_parts -/
abbrev st_law_parts : Stmt := top 32
def N_law_parts : List Str := ["_law_jar_here", "_law_up", "_law_low"]
theorem sc_law_parts : FnScope N_law_parts ["_law_jar_here"] (defScope st_law_parts) := ⟨rfl, rfl, rfl, by decide +kernel, rfl, by decide +kernel, by decide +kernel⟩
def b_law_parts : Sm := (sSeq (sPar 1 2 (aCons (eCall M_law_integer (aCons (eVar 0) aNil)) (aCons (eCall M_law_integer (aCons (eVar 0) aNil)) aNil)))
  (sRet (eTup (aCons (eVar 1) (aCons (eIf (tVal (eOp (datOp (pEq true)) (eVar 2) (eK (.int 0)))) (eVar 2) (eK (.int 1))) aNil)))))
def F_law_parts : Fm := funM N_law_parts.length b_law_parts
def M_law_parts : Fm := posM 1 [] F_law_parts
theorem body_law_parts {f : Addr} (h_law_integer : KFn Pr w K mg base false 3 "_law_integer" [] M_law_integer) : BodyOk Pr w K mg base false 3 f N_law_parts "_law_parts" (defScope st_law_parts) (defBody st_law_parts) b_law_parts := by
  intro cdv A outer s H E hr hG tk hp
  exact (ds_cons (ds_par (i := 1) (j := 2) rfl sc_law_parts.nd rfl rfl (by decide) rfl rfl (da_cons (xe_fn h_law_integer (hr.mono (by decide)) .no tk rfl (da_cons (de_var (pv 0)) da_nil)) (da_cons (xe_fn h_law_integer (hr.mono (by decide)) .no tk rfl (da_cons (de_var (pv 0)) da_nil)) da_nil)) rfl)
    (ds_one (ds_ret (de_tup (da_cons (de_var (pv 1)) (da_cons (de_if (dt_cmp (om_ne hr.units) (de_var (pv 2)) de_int (nomark _)) (de_var (pv 2)) de_int) da_nil))))))
theorem cal_law_parts {f : Addr} (T : TxD K "_law_parts" "_law_parts" st_law_parts [] f) (h_law_integer : KFn Pr w K mg base false 3 "_law_integer" [] M_law_integer) : Cal Pr w K mg base false 4 f [] M_law_parts := by
  obtain ⟨fd, Fd⟩ := T
  have B := body_law_parts (Pr := Pr) (w := w) (K := K) (mg := mg) (base := base) (f := f) h_law_integer
  exact (cal_pos (fn_ok Fd sc_law_parts B) (Fd.bindsN fun _ _ _ _ _ _ us hl => match us, hl with | [_], _ => rfl) .nil (fun _ _ => .nil))
/-! ### _law_sum -/
abbrev st_law_sum : Stmt := top 29
def N_law_sum : List Str := ["_law_one", "_law_two"]
theorem sc_law_sum : FnScope N_law_sum ["_law_one", "_law_two"] (defScope st_law_sum) := ⟨rfl, rfl, rfl, by decide +kernel, rfl, by decide +kernel, by decide +kernel⟩
def b_law_sum : Sm := (sRet (eCall M_law_lowest (aCons (eOp (datOp pAdd) (eOp (datOp pMul) (eOp gIx (eVar 0) (eK (.int 0))) (eOp gIx (eVar 1) (eK (.int 1)))) (eOp (datOp pMul) (eOp gIx (eVar 1) (eK (.int 0))) (eOp gIx (eVar 0) (eK (.int 1))))) (aCons (eOp (datOp pMul) (eOp gIx (eVar 0) (eK (.int 1))) (eOp gIx (eVar 1) (eK (.int 1)))) aNil))))
def F_law_sum : Fm := funM N_law_sum.length b_law_sum
def M_law_sum : Fm := posM 2 [] F_law_sum
theorem body_law_sum {f : Addr} (h_law_lowest : KFn Pr w K mg base false 2 "_law_lowest" [] M_law_lowest) : BodyOk Pr w K mg base false 2 f N_law_sum "_law_sum" (defScope st_law_sum) (defBody st_law_sum) b_law_sum := by
  intro cdv A outer s H E hr hG tk hp
  exact (ds_one (ds_ret (xe_fn h_law_lowest (hr.mono (by decide)) .no tk rfl (da_cons (de_bin om_add (de_bin om_mul (de_ix im_ix (de_var (pv 0)) de_int (fun _ _ => rfl)) (de_ix im_ix (de_var (pv 1)) de_int (fun _ _ => rfl))) (de_bin om_mul (de_ix im_ix (de_var (pv 1)) de_int (fun _ _ => rfl)) (de_ix im_ix (de_var (pv 0)) de_int (fun _ _ => rfl)))) (da_cons (de_bin om_mul (de_ix im_ix (de_var (pv 0)) de_int (fun _ _ => rfl)) (de_ix im_ix (de_var (pv 1)) de_int (fun _ _ => rfl))) da_nil)))))
theorem cal_law_sum {f : Addr} (T : TxD K "_law_sum" "_law_sum" st_law_sum [] f) (h_law_lowest : KFn Pr w K mg base false 2 "_law_lowest" [] M_law_lowest) : Cal Pr w K mg base false 3 f [] M_law_sum := by
  obtain ⟨fd, Fd⟩ := T
  have B := body_law_sum (Pr := Pr) (w := w) (K := K) (mg := mg) (base := base) (f := f) h_law_lowest
  exact (cal_pos (fn_ok Fd sc_law_sum B) (Fd.bindsN fun _ _ _ _ _ _ us hl => match us, hl with | [_, _], _ => rfl) .nil (fun _ _ => .nil))
/-! ### _law_near -/
abbrev st_law_near : Stmt := top 33
def N_law_near : List Str := ["_law_jar_here", "_law_pair", "_law_way", "_law_up", "_law_low"]
theorem sc_law_near : FnScope N_law_near ["_law_jar_here", "_law_pair"] (defScope st_law_near) := ⟨rfl, rfl, rfl, by decide +kernel, rfl, by decide +kernel, by decide +kernel⟩
def b_law_near : Sm := (sSeq (sSet 2 (eCall M_law_dip (aCons (eVar 0) (aCons (eK (.int 6)) aNil))))
  (sSeq (sIf (tVal (eOp (datOp (pEq false)) (eVar 2) (eK (.int 0)))) (sSeq (sAsg (eCall M_law_parts (aCons (eVar 0) aNil)) (gTp 2 (gsCons (gNm 3) (gsCons (gNm 4) gsNil))))
  (sRet (eCall M_law_lowest (aCons (eVar 3) (aCons (eVar 4) aNil))))) sNil)
  (sSeq (sIf (tVal (eOp (datOp (pEq false)) (eVar 2) (eK (.int 1)))) (sRet (eTup (aCons (eUn gNegI (eOp gIx (eVar 1) (eK (.int 0)))) (aCons (eOp gIx (eVar 1) (eK (.int 1))) aNil)))) sNil)
  (sSeq (sIf (tVal (eOp (datOp (pEq false)) (eVar 2) (eK (.int 2)))) (sRet (eVar 1)) sNil)
  (sSeq (sIf (tVal (eOp (datOp (pEq false)) (eVar 2) (eK (.int 3)))) (sRet (eTup (aCons (eOp (datOp pDiv) (eOp gIx (eVar 1) (eK (.int 0))) (eOp gIx (eVar 1) (eK (.int 1)))) (aCons (eK (.int 1)) aNil)))) sNil)
  (sRet (eCall M_law_sum (aCons (eVar 1) (aCons (eTup (aCons (eOp gIx (eLst (aCons (eK (.int 1)) (aCons (eUn gNegI (eK (.int 1))) aNil))) (eOp (datOp pSub) (eVar 2) (eK (.int 4)))) (aCons (eOp (datOp pAdd) (eK (.int 1)) (eCall M_law_dip (aCons (eVar 0) (aCons (eOp (datOp pPow) (eK (.int 10)) (eK (.int 9))) aNil)))) aNil))) aNil)))))))))
def F_law_near : Fm := funM N_law_near.length b_law_near
def M_law_near : Fm := posM 2 [] F_law_near
theorem body_law_near {f : Addr} (h_law_dip : KFn Pr w K mg base false 1 "_law_dip" [] M_law_dip) (h_law_parts : KFn Pr w K mg base false 4 "_law_parts" [] M_law_parts) (h_law_lowest : KFn Pr w K mg base false 2 "_law_lowest" [] M_law_lowest) (h_law_sum : KFn Pr w K mg base false 3 "_law_sum" [] M_law_sum) : BodyOk Pr w K mg base false 4 f N_law_near "_law_near" (defScope st_law_near) (defBody st_law_near) b_law_near := by
  intro cdv A outer s H E hr hG tk hp
  exact (ds_cons (ds_set (i := 2) sc_law_near.nd rfl (by first | exact Or.inl rfl | exact Or.inr rfl) (xe_fn h_law_dip (hr.mono (by decide)) .no tk rfl (da_cons (de_var (pv 0)) (da_cons de_int da_nil))))
    (ds_cons (ds_if (dt_cmp (om_eq hr.units) (de_var (pv 2)) de_int (nomark _)) (ds_cons (ds_asg (xe_fn h_law_parts (hr.mono (by decide)) .no tk rfl (da_cons (de_var (pv 0)) da_nil)) (dg_tup rfl (dgs_cons (dg_name (ws := [3, 4]) (i := 3) (by decide) sc_law_near.nd rfl (by first | exact Or.inl rfl | exact Or.inr rfl)) (dgs_cons (dg_name (ws := [3, 4]) (i := 4) (by decide) sc_law_near.nd rfl (by first | exact Or.inl rfl | exact Or.inr rfl)) dgs_nil))))
    (ds_one (ds_ret (xe_fn h_law_lowest (hr.mono (by decide)) .no tk rfl (da_cons (de_var (pv 3)) (da_cons (de_var (pv 4)) da_nil)))))) ds_nil)
    (ds_cons (ds_if (dt_cmp (om_eq hr.units) (de_var (pv 2)) de_int (nomark _)) (ds_one (ds_ret (de_tup (da_cons (de_un um_negI (de_ix im_ix (de_var (pv 1)) de_int (fun _ _ => rfl))) (da_cons (de_ix im_ix (de_var (pv 1)) de_int (fun _ _ => rfl)) da_nil))))) ds_nil)
    (ds_cons (ds_if (dt_cmp (om_eq hr.units) (de_var (pv 2)) de_int (nomark _)) (ds_one (ds_ret (de_var (pv 1)))) ds_nil)
    (ds_cons (ds_if (dt_cmp (om_eq hr.units) (de_var (pv 2)) de_int (nomark _)) (ds_one (ds_ret (de_tup (da_cons (de_bin om_div (de_ix im_ix (de_var (pv 1)) de_int (fun _ _ => rfl)) (de_ix im_ix (de_var (pv 1)) de_int (fun _ _ => rfl))) (da_cons de_int da_nil))))) ds_nil)
    (ds_one (ds_ret (xe_fn h_law_sum (hr.mono (by decide)) .no tk rfl (da_cons (de_var (pv 1)) (da_cons (de_tup (da_cons (de_ix im_ix (de_lst (da_cons de_int (da_cons (de_un um_negI de_int) da_nil))) (de_bin om_sub (de_var (pv 2)) de_int) (fun _ _ => rfl)) (da_cons (de_bin om_add de_int (xe_fn h_law_dip (hr.mono (by decide)) .no tk rfl (da_cons (de_var (pv 0)) (da_cons (de_bin om_pow de_int de_int) da_nil)))) da_nil))) da_nil))))))))))
theorem cal_law_near {f : Addr} (T : TxD K "_law_near" "_law_near" st_law_near [] f) (h_law_dip : KFn Pr w K mg base false 1 "_law_dip" [] M_law_dip) (h_law_parts : KFn Pr w K mg base false 4 "_law_parts" [] M_law_parts) (h_law_lowest : KFn Pr w K mg base false 2 "_law_lowest" [] M_law_lowest) (h_law_sum : KFn Pr w K mg base false 3 "_law_sum" [] M_law_sum) : Cal Pr w K mg base false 5 f [] M_law_near := by
  obtain ⟨fd, Fd⟩ := T
  have B := body_law_near (Pr := Pr) (w := w) (K := K) (mg := mg) (base := base) (f := f) h_law_dip h_law_parts h_law_lowest h_law_sum
  exact (cal_pos (fn_ok Fd sc_law_near B) (Fd.bindsN fun _ _ _ _ _ _ us hl => match us, hl with | [_, _], _ => rfl) .nil (fun _ _ => .nil))
/-! ### is_integer -/
abbrev st_is_integer : Stmt := top 11
def N_is_integer : List Str := ["value"]
theorem sc_is_integer : FnScope N_is_integer ["value"] (defScope st_is_integer) := ⟨rfl, rfl, rfl, by decide +kernel, rfl, by decide +kernel, by decide +kernel⟩
def b_is_integer : Sm := (sRet (eAnd (eCall (isiM [0, 1]) (aCons (eVar 0) (aCons (eK (.bty "int")) aNil))) (eNotV (eCall (isiM [0, 1]) (aCons (eVar 0) (aCons (eK (.bty "bool")) aNil))))))
def F_is_integer : Fm := funM N_is_integer.length b_is_integer
def M_is_integer : Fm := posM 1 [] F_is_integer
theorem body_is_integer {f : Addr} (z : Zs mg) (isi : IsiF K mg [0, 1]) : BodyOk Pr w K mg base false 0 f N_is_integer "is_integer" (defScope st_is_integer) (defBody st_is_integer) b_is_integer := by
  intro cdv A outer s H E hr hG tk hp
  exact (ds_one (ds_ret (de_and (de_callB (cm_isi isi) rfl z.z_isinstance (by decide +kernel) (da_cons (de_var (pv 0)) (da_cons (de_bty (n := "int") rfl z.z_int (by decide +kernel)) da_nil))) (de_one (de_not (de_callB (cm_isi isi) rfl z.z_isinstance (by decide +kernel) (da_cons (de_var (pv 0)) (da_cons (de_bty (n := "bool") rfl z.z_bool (by decide +kernel)) da_nil))))))))
theorem cal_is_integer {f : Addr} (T : TxD K "is_integer" "is_integer" st_is_integer [] f) (z : Zs mg) (isi : IsiF K mg [0, 1]) : Cal Pr w K mg base false 1 f [] M_is_integer := by
  obtain ⟨fd, Fd⟩ := T
  have B := body_is_integer (Pr := Pr) (w := w) (K := K) (mg := mg) (base := base) (f := f) z isi
  exact (cal_pos (fn_ok Fd sc_is_integer B) (Fd.bindsN fun _ _ _ _ _ _ us hl => match us, hl with | [_], _ => rfl) .nil (fun _ _ => .nil))
/-! ### common_divisor -/
abbrev st_common_divisor : Stmt := top 16
def N_common_divisor : List Str := ["one", "other"]
theorem sc_common_divisor : FnScope N_common_divisor ["one", "other"] (defScope st_common_divisor) := ⟨rfl, rfl, rfl, by decide +kernel, rfl, by decide +kernel, by decide +kernel⟩
def b_common_divisor : Sm := (sSeq (sWhile (fun ρ _ => natAt ρ 1 + 1) (tVal (eOp (datOp pGt) (eVar 1) (eK (.int 0)))) (sPar 0 1 (aCons (eVar 1) (aCons (eOp (datOp pMod) (eVar 0) (eVar 1)) aNil))))
  (sRet (eVar 0)))
def F_common_divisor : Fm := funM N_common_divisor.length b_common_divisor
def M_common_divisor : Fm := posM 2 [] F_common_divisor
theorem body_common_divisor {f : Addr} : BodyOk Pr w K mg base false 0 f N_common_divisor "common_divisor" (defScope st_common_divisor) (defBody st_common_divisor) b_common_divisor := by
  intro cdv A outer s H E hr hG tk hp
  exact (ds_cons (ds_while (fuel := fun ρ _ => natAt ρ 1 + 1) hp (dt_cmp om_gt (de_var (pv 1)) de_int (nomark _)) (ds_one (ds_par (i := 0) (j := 1) rfl sc_common_divisor.nd rfl rfl (by decide) rfl rfl (da_cons (de_var (pv 1)) (da_cons (de_bin om_mod (de_var (pv 0)) (de_var (pv 1))) da_nil)) rfl)))
    (ds_one (ds_ret (de_var (pv 0)))))
theorem cal_common_divisor {f : Addr} (T : TxD K "common_divisor" "common_divisor" st_common_divisor [] f) : Cal Pr w K mg base false 1 f [] M_common_divisor := by
  obtain ⟨fd, Fd⟩ := T
  have B := body_common_divisor (Pr := Pr) (w := w) (K := K) (mg := mg) (base := base) (f := f) 
  exact (cal_pos (fn_ok Fd sc_common_divisor B) (Fd.bindsN fun _ _ _ _ _ _ us hl => match us, hl with | [_, _], _ => rfl) .nil (fun _ _ => .nil))
/-! ### Ratio.__init__ -/
abbrev st_Ratio_DinitD : Stmt := inClass (top 17) 0
def N_Ratio_DinitD : List Str := ["self", "top", "bottom", "divisor"]
theorem sc_Ratio_DinitD : FnScope N_Ratio_DinitD ["self", "top", "bottom"] (defScope st_Ratio_DinitD) := ⟨rfl, rfl, rfl, by decide +kernel, rfl, by decide +kernel, by decide +kernel⟩
def b_Ratio_DinitD : Sm := (sSeq (sIf (tNotM (tVal (eCall M_is_integer (aCons (eVar 1) aNil)))) sBad sNil)
  (sSeq (sIf (tOrM (tNotM (tVal (eCall M_is_integer (aCons (eVar 2) aNil)))) (tVal (eOp (datOp (pEq false)) (eVar 2) (eK (.int 0))))) sBad sNil)
  (sSeq (sSet 3 (eCall M_common_divisor (aCons (eCall (fm1 pAbs) (aCons (eVar 1) aNil)) (aCons (eCall (fm1 pAbs) (aCons (eVar 2) aNil)) aNil))))
  (sSeq (sIf (tVal (eOp (datOp pLt) (eVar 2) (eK (.int 0)))) (sSet 3 (eUn gNegI (eVar 3))) sNil)
  (sSeq (sFldM 0 "own_top" (eVar 0) (eOp (datOp pDiv) (eVar 1) (eVar 3)))
  (sFldM 0 "own_bottom" (eVar 0) (eOp (datOp pDiv) (eVar 2) (eVar 3))))))))
def F_Ratio_DinitD : Fm := funM N_Ratio_DinitD.length b_Ratio_DinitD
def M_Ratio_DinitD : Fm := (lenM2 3 (posM 3 [] F_Ratio_DinitD) (posM 3 [(.dat (.int 1))] F_Ratio_DinitD))
theorem body_Ratio_DinitD {f : Addr} (z : Zs mg) (h_is_integer : KFn Pr w K mg base false 1 "is_integer" [] M_is_integer) (h_common_divisor : KFn Pr w K mg base false 1 "common_divisor" [] M_common_divisor) (f_own_top : KFd K mg 0 "own_top") (f_own_bottom : KFd K mg 0 "own_bottom") : BodyOk Pr w K mg base false 1 f N_Ratio_DinitD "Ratio.__init__" (defScope st_Ratio_DinitD) (defBody st_Ratio_DinitD) b_Ratio_DinitD := by
  intro cdv A outer s H E hr hG tk hp
  exact (ds_cons (ds_if (dt_not (dt_val (xe_fn h_is_integer (hr.mono (by decide)) .no tk rfl (da_cons (de_var (pv 1)) da_nil)))) (ds_one ds_never) ds_nil)
    (ds_cons (ds_if (PW.pt (dw_or (dt_not (dt_val (xe_fn h_is_integer (hr.mono (by decide)) .no tk rfl (da_cons (de_var (pv 2)) da_nil)))) (dw_or1 (dt_cmp (om_eq hr.units) (de_var (pv 2)) de_int (nomark _))))) (ds_one ds_never) ds_nil)
    (ds_cons (ds_set (i := 3) sc_Ratio_DinitD.nd rfl (by first | exact Or.inl rfl | exact Or.inr rfl) (xe_fn h_common_divisor (hr.mono (by decide)) .no tk rfl (da_cons (de_callB cm_abs rfl z.z_abs (by decide +kernel) (da_cons (de_var (pv 1)) da_nil)) (da_cons (de_callB cm_abs rfl z.z_abs (by decide +kernel) (da_cons (de_var (pv 2)) da_nil)) da_nil))))
    (ds_cons (ds_if (dt_cmp om_lt (de_var (pv 2)) de_int (nomark _)) (ds_one (ds_set (i := 3) sc_Ratio_DinitD.nd rfl (by first | exact Or.inl rfl | exact Or.inr rfl) (de_un um_negI (de_var (pv 3))))) ds_nil)
    (ds_cons (xs_fd f_own_top (de_var (pv 0)) (de_bin om_div (de_var (pv 1)) (de_var (pv 3))))
    (ds_one (xs_fd f_own_bottom (de_var (pv 0)) (de_bin om_div (de_var (pv 2)) (de_var (pv 3))))))))))
theorem cal_Ratio_DinitD {f : Addr} (T : TxD K "__init__" "Ratio.__init__" st_Ratio_DinitD [.int 1] f) (z : Zs mg) (h_is_integer : KFn Pr w K mg base false 1 "is_integer" [] M_is_integer) (h_common_divisor : KFn Pr w K mg base false 1 "common_divisor" [] M_common_divisor) (f_own_top : KFd K mg 0 "own_top") (f_own_bottom : KFd K mg 0 "own_bottom") : Cal Pr w K mg base false 2 f [] M_Ratio_DinitD := by
  obtain ⟨fd, Fd⟩ := T
  have B := body_Ratio_DinitD (Pr := Pr) (w := w) (K := K) (mg := mg) (base := base) (f := f) z h_is_integer h_common_divisor f_own_top f_own_bottom
  have G := fn_ok Fd sc_Ratio_DinitD B
  obtain ⟨d2, v2, b2⟩ := Fd.binds1 (ps := ["self", "top", "bottom"]) 2 0 (by simp) rfl (fun _ _ _ _ _ _ _ us its h1 h2 => match us, its, h1, h2 with | [_, _], [_], _, _ => ⟨_, rfl, rfl⟩)
  obtain ⟨d3, v3, b3⟩ := Fd.binds1 (ps := ["self", "top", "bottom"]) 3 1 (by simp) rfl (fun _ _ _ _ _ _ _ us its h1 h2 => match us, its, h1, h2 with | [_, _, _], [_], _, _ => ⟨_, rfl, rfl⟩)
  exact (Cal.len 3 (cal_pos G b3 v3 (fun _ _ => .nil)) (cal_pos G b2 v2 (fun _ _ => .cons (.dat (.int _)) (.nil))))
/-! ### _law_made -/
abbrev st_law_made : Stmt := top 34
def N_law_made : List Str := ["_law_jar_here", "_law_pair", "_law_times_here"]
theorem sc_law_made : FnScope N_law_made ["_law_jar_here", "_law_pair"] (defScope st_law_made) := ⟨rfl, rfl, rfl, by decide +kernel, rfl, by decide +kernel, by decide +kernel⟩
def b_law_made : Sm := (sSeq (sSet 2 (eCall M_law_choice (aCons (eVar 0) (aCons (eLst (aCons (eK (.int 1)) (aCons (eUn gNegI (eK (.int 1))) (aCons (eK (.int 2)) (aCons (eUn gNegI (eK (.int 3))) (aCons (eOp (datOp pPow) (eK (.int 10)) (eK (.int 4))) aNil)))))) aNil))))
  (sSeq (sIf (tOrM (tVal (eOp (datOp pGe) (eCall (fm1 pAbs) (aCons (eOp (datOp pMul) (eOp gIx (eVar 1) (eK (.int 0))) (eVar 2)) aNil)) (eOp (datOp pPow) (eK (.int 10)) (eK (.int 30))))) (tVal (eOp (datOp pGe) (eCall (fm1 pAbs) (aCons (eOp (datOp pMul) (eOp gIx (eVar 1) (eK (.int 1))) (eVar 2)) aNil)) (eOp (datOp pPow) (eK (.int 10)) (eK (.int 30)))))) (sRet (eCall (mkM 0 M_Ratio_DinitD) (aCons (eOp gIx (eVar 1) (eK (.int 0))) (aCons (eOp gIx (eVar 1) (eK (.int 1))) aNil)))) sNil)
  (sRet (eCall (mkM 0 M_Ratio_DinitD) (aCons (eOp (datOp pMul) (eOp gIx (eVar 1) (eK (.int 0))) (eVar 2)) (aCons (eOp (datOp pMul) (eOp gIx (eVar 1) (eK (.int 1))) (eVar 2)) aNil))))))
def F_law_made : Fm := funM N_law_made.length b_law_made
def M_law_made : Fm := posM 2 [] F_law_made
theorem body_law_made {f : Addr} (z : Zs mg) (h_law_choice : KFn Pr w K mg base false 2 "_law_choice" [] M_law_choice) (h_Ratio_DinitD_mk : KMk Pr w K mg base false 2 0 [] M_Ratio_DinitD) : BodyOk Pr w K mg base false 3 f N_law_made "_law_made" (defScope st_law_made) (defBody st_law_made) b_law_made := by
  intro cdv A outer s H E hr hG tk hp
  exact (ds_cons (ds_set (i := 2) sc_law_made.nd rfl (by first | exact Or.inl rfl | exact Or.inr rfl) (xe_fn h_law_choice (hr.mono (by decide)) .no tk rfl (da_cons (de_var (pv 0)) (da_cons (de_lst (da_cons de_int (da_cons (de_un um_negI de_int) (da_cons de_int (da_cons (de_un um_negI de_int) (da_cons (de_bin om_pow de_int de_int) da_nil)))))) da_nil))))
    (ds_cons (ds_if (PW.pt (dw_or (dt_cmp om_ge (de_callB cm_abs rfl z.z_abs (by decide +kernel) (da_cons (de_bin om_mul (de_ix im_ix (de_var (pv 1)) de_int (fun _ _ => rfl)) (de_var (pv 2))) da_nil)) (de_bin om_pow de_int de_int) (nomark _)) (dw_or1 (dt_cmp om_ge (de_callB cm_abs rfl z.z_abs (by decide +kernel) (da_cons (de_bin om_mul (de_ix im_ix (de_var (pv 1)) de_int (fun _ _ => rfl)) (de_var (pv 2))) da_nil)) (de_bin om_pow de_int de_int) (nomark _))))) (ds_one (ds_ret (xe_mk h_Ratio_DinitD_mk (by decide +kernel) (hr.mono (by decide)) .no tk rfl (da_cons (de_ix im_ix (de_var (pv 1)) de_int (fun _ _ => rfl)) (da_cons (de_ix im_ix (de_var (pv 1)) de_int (fun _ _ => rfl)) da_nil))))) ds_nil)
    (ds_one (ds_ret (xe_mk h_Ratio_DinitD_mk (by decide +kernel) (hr.mono (by decide)) .no tk rfl (da_cons (de_bin om_mul (de_ix im_ix (de_var (pv 1)) de_int (fun _ _ => rfl)) (de_var (pv 2))) (da_cons (de_bin om_mul (de_ix im_ix (de_var (pv 1)) de_int (fun _ _ => rfl)) (de_var (pv 2))) da_nil)))))))
theorem cal_law_made {f : Addr} (T : TxD K "_law_made" "_law_made" st_law_made [] f) (z : Zs mg) (h_law_choice : KFn Pr w K mg base false 2 "_law_choice" [] M_law_choice) (h_Ratio_DinitD_mk : KMk Pr w K mg base false 2 0 [] M_Ratio_DinitD) : Cal Pr w K mg base false 4 f [] M_law_made := by
  obtain ⟨fd, Fd⟩ := T
  have B := body_law_made (Pr := Pr) (w := w) (K := K) (mg := mg) (base := base) (f := f) z h_law_choice h_Ratio_DinitD_mk
  exact (cal_pos (fn_ok Fd sc_law_made B) (Fd.bindsN fun _ _ _ _ _ _ us hl => match us, hl with | [_, _], _ => rfl) .nil (fun _ _ => .nil))
/-! ### Ratio.__repr__ -/
abbrev st_Ratio_DreprD : Stmt := inClass (top 17) 16
def N_Ratio_DreprD : List Str := ["self"]
theorem sc_Ratio_DreprD : FnScope N_Ratio_DreprD ["self"] (defScope st_Ratio_DreprD) := ⟨rfl, rfl, rfl, by decide +kernel, rfl, by decide +kernel, by decide +kernel⟩
def b_Ratio_DreprD : Sm := (sRet (eJoin [(eK (.str "Ratio(")), (eFmt (eFld 0 "own_top" 0 (eVar 0))), (eK (.str ", ")), (eFmt (eFld 0 "own_bottom" 1 (eVar 0))), (eK (.str ")"))]))
def F_Ratio_DreprD : Fm := funM N_Ratio_DreprD.length b_Ratio_DreprD
def M_Ratio_DreprD : Fm := posM 1 [] F_Ratio_DreprD
theorem body_Ratio_DreprD {f : Addr} (dg : DigF K) (f_own_top : KFd K mg 0 "own_top") (f_own_bottom : KFd K mg 0 "own_bottom") : BodyOk Pr w K mg base false 0 f N_Ratio_DreprD "Ratio.__repr__" (defScope st_Ratio_DreprD) (defBody st_Ratio_DreprD) b_Ratio_DreprD := by
  intro cdv A outer s H E hr hG tk hp
  exact (ds_one (ds_ret (de_joined (dj_cons de_str (dj_cons (de_fmt rfl dg (xe_fd (i := 0) f_own_top (de_var (pv 0)))) (dj_cons de_str (dj_cons (de_fmt rfl dg (xe_fd (i := 1) f_own_bottom (de_var (pv 0)))) (dj_cons de_str dj_nil))))))))
theorem cal_Ratio_DreprD {f : Addr} (T : TxD K "__repr__" "Ratio.__repr__" st_Ratio_DreprD [] f) (dg : DigF K) (f_own_top : KFd K mg 0 "own_top") (f_own_bottom : KFd K mg 0 "own_bottom") : Cal Pr w K mg base false 1 f [] M_Ratio_DreprD := by
  obtain ⟨fd, Fd⟩ := T
  have B := body_Ratio_DreprD (Pr := Pr) (w := w) (K := K) (mg := mg) (base := base) (f := f) dg f_own_top f_own_bottom
  exact (cal_pos (fn_ok Fd sc_Ratio_DreprD B) (Fd.bindsN fun _ _ _ _ _ _ us hl => match us, hl with | [_], _ => rfl) .nil (fun _ _ => .nil))
/-! ### is_number -/
abbrev st_is_number : Stmt := top 12
def N_is_number : List Str := ["value"]
theorem sc_is_number : FnScope N_is_number ["value"] (defScope st_is_number) := ⟨rfl, rfl, rfl, by decide +kernel, rfl, by decide +kernel, by decide +kernel⟩
def b_is_number : Sm := (sRet (eOr (eCall M_is_integer (aCons (eVar 0) aNil)) (eCall (isiM [0, 1]) (aCons (eVar 0) (aCons (eK (.cls 0)) aNil)))))
def F_is_number : Fm := funM N_is_number.length b_is_number
def M_is_number : Fm := posM 1 [] F_is_number
theorem body_is_number {f : Addr} (z : Zs mg) (isi : IsiF K mg [0, 1]) (h_is_integer : KFn Pr w K mg base false 1 "is_integer" [] M_is_integer) : BodyOk Pr w K mg base false 1 f N_is_number "is_number" (defScope st_is_number) (defBody st_is_number) b_is_number := by
  intro cdv A outer s H E hr hG tk hp
  exact (ds_one (ds_ret (de_or (xe_fn h_is_integer (hr.mono (by decide)) .no tk rfl (da_cons (de_var (pv 0)) da_nil)) (de_one (de_callB (cm_isi isi) rfl z.z_isinstance (by decide +kernel) (da_cons (de_var (pv 0)) (da_cons (xe_cls isi (by simp) rfl (by decide +kernel)) da_nil)))))))
theorem cal_is_number {f : Addr} (T : TxD K "is_number" "is_number" st_is_number [] f) (z : Zs mg) (isi : IsiF K mg [0, 1]) (h_is_integer : KFn Pr w K mg base false 1 "is_integer" [] M_is_integer) : Cal Pr w K mg base false 2 f [] M_is_number := by
  obtain ⟨fd, Fd⟩ := T
  have B := body_is_number (Pr := Pr) (w := w) (K := K) (mg := mg) (base := base) (f := f) z isi h_is_integer
  exact (cal_pos (fn_ok Fd sc_is_number B) (Fd.bindsN fun _ _ _ _ _ _ us hl => match us, hl with | [_], _ => rfl) .nil (fun _ _ => .nil))
/-! ### want_number -/
abbrev st_want_number : Stmt := top 14
def N_want_number : List Str := ["value"]
theorem sc_want_number : FnScope N_want_number ["value"] (defScope st_want_number) := ⟨rfl, rfl, rfl, by decide +kernel, rfl, by decide +kernel, by decide +kernel⟩
def b_want_number : Sm := (sIf (tNotM (tVal (eCall M_is_number (aCons (eVar 0) aNil)))) sBad sNil)
def F_want_number : Fm := funM N_want_number.length b_want_number
def M_want_number : Fm := posM 1 [] F_want_number
theorem body_want_number {f : Addr} (h_is_number : KFn Pr w K mg base false 2 "is_number" [] M_is_number) : BodyOk Pr w K mg base false 2 f N_want_number "want_number" (defScope st_want_number) (defBody st_want_number) b_want_number := by
  intro cdv A outer s H E hr hG tk hp
  exact (ds_one (ds_if (dt_not (dt_val (xe_fn h_is_number (hr.mono (by decide)) .no tk rfl (da_cons (de_var (pv 0)) da_nil)))) (ds_one ds_never) ds_nil))
theorem cal_want_number {f : Addr} (T : TxD K "want_number" "want_number" st_want_number [] f) (h_is_number : KFn Pr w K mg base false 2 "is_number" [] M_is_number) : Cal Pr w K mg base false 3 f [] M_want_number := by
  obtain ⟨fd, Fd⟩ := T
  have B := body_want_number (Pr := Pr) (w := w) (K := K) (mg := mg) (base := base) (f := f) h_is_number
  exact (cal_pos (fn_ok Fd sc_want_number B) (Fd.bindsN fun _ _ _ _ _ _ us hl => match us, hl with | [_], _ => rfl) .nil (fun _ _ => .nil))
/-! ### as_ratio -/
abbrev st_as_ratio : Stmt := top 15
def N_as_ratio : List Str := ["number"]
theorem sc_as_ratio : FnScope N_as_ratio ["number"] (defScope st_as_ratio) := ⟨rfl, rfl, rfl, by decide +kernel, rfl, by decide +kernel, by decide +kernel⟩
def b_as_ratio : Sm := (sRet (eIf (tVal (eCall (isiM [0, 1]) (aCons (eVar 0) (aCons (eK (.cls 0)) aNil)))) (eVar 0) (eCall (mkM 0 M_Ratio_DinitD) (aCons (eVar 0) aNil))))
def F_as_ratio : Fm := funM N_as_ratio.length b_as_ratio
def M_as_ratio : Fm := posM 1 [] F_as_ratio
theorem body_as_ratio {f : Addr} (z : Zs mg) (isi : IsiF K mg [0, 1]) (h_Ratio_DinitD_mk : KMk Pr w K mg base false 2 0 [] M_Ratio_DinitD) : BodyOk Pr w K mg base false 3 f N_as_ratio "as_ratio" (defScope st_as_ratio) (defBody st_as_ratio) b_as_ratio := by
  intro cdv A outer s H E hr hG tk hp
  exact (ds_one (ds_ret (de_if (dt_val (de_callB (cm_isi isi) rfl z.z_isinstance (by decide +kernel) (da_cons (de_var (pv 0)) (da_cons (xe_cls isi (by simp) rfl (by decide +kernel)) da_nil)))) (de_var (pv 0)) (xe_mk h_Ratio_DinitD_mk (by decide +kernel) (hr.mono (by decide)) .no tk rfl (da_cons (de_var (pv 0)) da_nil)))))
theorem cal_as_ratio {f : Addr} (T : TxD K "as_ratio" "as_ratio" st_as_ratio [] f) (z : Zs mg) (isi : IsiF K mg [0, 1]) (h_Ratio_DinitD_mk : KMk Pr w K mg base false 2 0 [] M_Ratio_DinitD) : Cal Pr w K mg base false 4 f [] M_as_ratio := by
  obtain ⟨fd, Fd⟩ := T
  have B := body_as_ratio (Pr := Pr) (w := w) (K := K) (mg := mg) (base := base) (f := f) z isi h_Ratio_DinitD_mk
  exact (cal_pos (fn_ok Fd sc_as_ratio B) (Fd.bindsN fun _ _ _ _ _ _ us hl => match us, hl with | [_], _ => rfl) .nil (fun _ _ => .nil))
/-! ### Ratio.is_below -/
abbrev st_Ratio_is_below : Stmt := inClass (top 17) 6
def N_Ratio_is_below : List Str := ["self", "other", "more"]
theorem sc_Ratio_is_below : FnScope N_Ratio_is_below ["self", "other"] (defScope st_Ratio_is_below) := ⟨rfl, rfl, rfl, by decide +kernel, rfl, by decide +kernel, by decide +kernel⟩
def b_Ratio_is_below : Sm := (sSeq (sExpr (eCall M_want_number (aCons (eVar 1) aNil)))
  (sSeq (sSet 2 (eCall M_as_ratio (aCons (eVar 1) aNil)))
  (sRet (eOp (datOp pLt) (eOp (datOp pMul) (eFld 0 "own_top" 0 (eVar 0)) (eFld 0 "own_bottom" 1 (eVar 2))) (eOp (datOp pMul) (eFld 0 "own_top" 0 (eVar 2)) (eFld 0 "own_bottom" 1 (eVar 0)))))))
def F_Ratio_is_below : Fm := funM N_Ratio_is_below.length b_Ratio_is_below
def M_Ratio_is_below : Fm := posM 2 [] F_Ratio_is_below
theorem body_Ratio_is_below {f : Addr} (h_want_number : KFn Pr w K mg base false 3 "want_number" [] M_want_number) (h_as_ratio : KFn Pr w K mg base false 4 "as_ratio" [] M_as_ratio) (f_own_top : KFd K mg 0 "own_top") (f_own_bottom : KFd K mg 0 "own_bottom") : BodyOk Pr w K mg base false 4 f N_Ratio_is_below "Ratio.is_below" (defScope st_Ratio_is_below) (defBody st_Ratio_is_below) b_Ratio_is_below := by
  intro cdv A outer s H E hr hG tk hp
  exact (ds_cons (ds_expr (xe_fn h_want_number (hr.mono (by decide)) .no tk rfl (da_cons (de_var (pv 1)) da_nil)))
    (ds_cons (ds_set (i := 2) sc_Ratio_is_below.nd rfl (by first | exact Or.inl rfl | exact Or.inr rfl) (xe_fn h_as_ratio (hr.mono (by decide)) .no tk rfl (da_cons (de_var (pv 1)) da_nil)))
    (ds_one (ds_ret (de_cmp om_lt (de_bin om_mul (xe_fd (i := 0) f_own_top (de_var (pv 0))) (xe_fd (i := 1) f_own_bottom (de_var (pv 2)))) (de_bin om_mul (xe_fd (i := 0) f_own_top (de_var (pv 2))) (xe_fd (i := 1) f_own_bottom (de_var (pv 0)))) (nomark _))))))
theorem cal_Ratio_is_below {f : Addr} (T : TxD K "is_below" "Ratio.is_below" st_Ratio_is_below [] f) (h_want_number : KFn Pr w K mg base false 3 "want_number" [] M_want_number) (h_as_ratio : KFn Pr w K mg base false 4 "as_ratio" [] M_as_ratio) (f_own_top : KFd K mg 0 "own_top") (f_own_bottom : KFd K mg 0 "own_bottom") : Cal Pr w K mg base false 5 f [] M_Ratio_is_below := by
  obtain ⟨fd, Fd⟩ := T
  have B := body_Ratio_is_below (Pr := Pr) (w := w) (K := K) (mg := mg) (base := base) (f := f) h_want_number h_as_ratio f_own_top f_own_bottom
  exact (cal_pos (fn_ok Fd sc_Ratio_is_below B) (Fd.bindsN fun _ _ _ _ _ _ us hl => match us, hl with | [_, _], _ => rfl) .nil (fun _ _ => .nil))
def MK_Ratio_is_below_other : Fm := kwM (1 + 1) [0, 1] [] F_Ratio_is_below
theorem calk_Ratio_is_below_other {f : Addr} (T : TxD K "is_below" "Ratio.is_below" st_Ratio_is_below [] f) (h_want_number : KFn Pr w K mg base false 3 "want_number" [] M_want_number) (h_as_ratio : KFn Pr w K mg base false 4 "as_ratio" [] M_as_ratio) (f_own_top : KFd K mg 0 "own_top") (f_own_bottom : KFd K mg 0 "own_bottom") : Cal Pr w K mg base false 5 f ["other"] MK_Ratio_is_below_other := by
  obtain ⟨fd, Fd⟩ := T
  have B := body_Ratio_is_below (Pr := Pr) (w := w) (K := K) (mg := mg) (base := base) (f := f) h_want_number h_as_ratio f_own_top f_own_bottom
  exact cal_kw (n := 1) (ks := ["other"]) (ord := [0, 1]) (dvs := []) (dds := []) (dsV := []) (fn_ok Fd sc_Ratio_is_below B) .nil (fun _ _ => .nil) (kwb_n Fd fun _ _ _ _ _ _ us ws h1 h2 => match us, ws, h1, h2 with | [_], [_], _, _ => rfl) (fun ds h => match ds, h with | [_, _], _ => rfl)
/-! ### Ratio.__eq__ -/
abbrev st_Ratio_DeqD : Stmt := inClass (top 17) 14
def N_Ratio_DeqD : List Str := ["self", "other"]
theorem sc_Ratio_DeqD : FnScope N_Ratio_DeqD ["self", "other"] (defScope st_Ratio_DeqD) := ⟨rfl, rfl, rfl, by decide +kernel, rfl, by decide +kernel, by decide +kernel⟩
def b_Ratio_DeqD : Sm := (sRet (eAnd (eCall (isiM [0, 1]) (aCons (eVar 1) (aCons (eK (.cls 0)) aNil))) (eAnd (eOp (datOp (pEq false)) (eFld 0 "own_top" 0 (eVar 0)) (eFld 0 "own_top" 0 (eVar 1))) (eOp (datOp (pEq false)) (eFld 0 "own_bottom" 1 (eVar 0)) (eFld 0 "own_bottom" 1 (eVar 1))))))
def F_Ratio_DeqD : Fm := funM N_Ratio_DeqD.length b_Ratio_DeqD
def M_Ratio_DeqD : Fm := posM 2 [] F_Ratio_DeqD
theorem body_Ratio_DeqD {f : Addr} (z : Zs mg) (isi : IsiF K mg [0, 1]) (f_own_top : KFd K mg 0 "own_top") (f_own_bottom : KFd K mg 0 "own_bottom") : BodyOk Pr w K mg base false 0 f N_Ratio_DeqD "Ratio.__eq__" (defScope st_Ratio_DeqD) (defBody st_Ratio_DeqD) b_Ratio_DeqD := by
  intro cdv A outer s H E hr hG tk hp
  exact (ds_one (ds_ret (de_and (de_callB (cm_isi isi) rfl z.z_isinstance (by decide +kernel) (da_cons (de_var (pv 1)) (da_cons (xe_cls isi (by simp) rfl (by decide +kernel)) da_nil))) (de_and (de_cmp (om_eq hr.units) (xe_fd (i := 0) f_own_top (de_var (pv 0))) (xe_fd (i := 0) f_own_top (de_var (pv 1))) (nomark _)) (de_one (de_cmp (om_eq hr.units) (xe_fd (i := 1) f_own_bottom (de_var (pv 0))) (xe_fd (i := 1) f_own_bottom (de_var (pv 1))) (nomark _)))))))
theorem cal_Ratio_DeqD {f : Addr} (T : TxD K "__eq__" "Ratio.__eq__" st_Ratio_DeqD [] f) (z : Zs mg) (isi : IsiF K mg [0, 1]) (f_own_top : KFd K mg 0 "own_top") (f_own_bottom : KFd K mg 0 "own_bottom") : Cal Pr w K mg base false 1 f [] M_Ratio_DeqD := by
  obtain ⟨fd, Fd⟩ := T
  have B := body_Ratio_DeqD (Pr := Pr) (w := w) (K := K) (mg := mg) (base := base) (f := f) z isi f_own_top f_own_bottom
  exact (cal_pos (fn_ok Fd sc_Ratio_DeqD B) (Fd.bindsN fun _ _ _ _ _ _ us hl => match us, hl with | [_, _], _ => rfl) .nil (fun _ _ => .nil))
/-! ### Form.__eq__ -/
abbrev st_Form_DeqD : Stmt := inClass (top 22) 17
def N_Form_DeqD : List Str := ["self", "other"]
theorem sc_Form_DeqD : FnScope N_Form_DeqD ["self", "other"] (defScope st_Form_DeqD) := ⟨rfl, rfl, rfl, by decide +kernel, rfl, by decide +kernel, by decide +kernel⟩
def b_Form_DeqD : Sm := (sSeq (sIf (tNotM (tVal (eCall (isiM [0, 1]) (aCons (eVar 1) (aCons (eK (.cls 1)) aNil))))) (sRet (eK (.bl false))) sNil)
  sBad)
def F_Form_DeqD : Fm := funM N_Form_DeqD.length b_Form_DeqD
def M_Form_DeqD : Fm := posM 2 [] F_Form_DeqD
theorem body_Form_DeqD {f : Addr} (z : Zs mg) (isi : IsiF K mg [0, 1]) : BodyOk Pr w K mg base false 0 f N_Form_DeqD "Form.__eq__" (defScope st_Form_DeqD) (defBody st_Form_DeqD) b_Form_DeqD := by
  intro cdv A outer s H E hr hG tk hp
  exact (ds_cons (ds_if (dt_not (dt_val (de_callB (cm_isi isi) rfl z.z_isinstance (by decide +kernel) (da_cons (de_var (pv 1)) (da_cons (xe_cls isi (by simp) rfl (by decide +kernel)) da_nil))))) (ds_one (ds_ret de_bl)) ds_nil)
    (ds_one ds_never))
theorem cal_Form_DeqD {f : Addr} (T : TxD K "__eq__" "Form.__eq__" st_Form_DeqD [] f) (z : Zs mg) (isi : IsiF K mg [0, 1]) : Cal Pr w K mg base false 1 f [] M_Form_DeqD := by
  obtain ⟨fd, Fd⟩ := T
  have B := body_Form_DeqD (Pr := Pr) (w := w) (K := K) (mg := mg) (base := base) (f := f) z isi
  exact (cal_pos (fn_ok Fd sc_Form_DeqD B) (Fd.bindsN fun _ _ _ _ _ _ us hl => match us, hl with | [_, _], _ => rfl) .nil (fun _ _ => .nil))
/-! ### Ratio.__str__ -/
abbrev st_Ratio_DstrD : Stmt := inClass (top 17) 15
def N_Ratio_DstrD : List Str := ["self"]
theorem sc_Ratio_DstrD : FnScope N_Ratio_DstrD ["self"] (defScope st_Ratio_DstrD) := ⟨rfl, rfl, rfl, by decide +kernel, rfl, by decide +kernel, by decide +kernel⟩
def b_Ratio_DstrD : Sm := (sSeq (sIf (tVal (eOp (datOp (pEq false)) (eFld 0 "own_bottom" 1 (eVar 0)) (eK (.int 1)))) (sRet (eCall (fm1 pStrI) (aCons (eFld 0 "own_top" 0 (eVar 0)) aNil))) sNil)
  (sRet (eJoin [(eFmt (eFld 0 "own_top" 0 (eVar 0))), (eK (.str "/")), (eFmt (eFld 0 "own_bottom" 1 (eVar 0)))])))
def F_Ratio_DstrD : Fm := funM N_Ratio_DstrD.length b_Ratio_DstrD
def M_Ratio_DstrD : Fm := posM 1 [] F_Ratio_DstrD
theorem body_Ratio_DstrD {f : Addr} (z : Zs mg) (dg : DigF K) (f_own_bottom : KFd K mg 0 "own_bottom") (f_own_top : KFd K mg 0 "own_top") : BodyOk Pr w K mg base false 0 f N_Ratio_DstrD "Ratio.__str__" (defScope st_Ratio_DstrD) (defBody st_Ratio_DstrD) b_Ratio_DstrD := by
  intro cdv A outer s H E hr hG tk hp
  exact (ds_cons (ds_if (dt_cmp (om_eq hr.units) (xe_fd (i := 1) f_own_bottom (de_var (pv 0))) de_int (nomark _)) (ds_one (ds_ret (de_callTy (cm_strI rfl dg) rfl z.z_str (by decide +kernel) (da_cons (xe_fd (i := 0) f_own_top (de_var (pv 0))) da_nil)))) ds_nil)
    (ds_one (ds_ret (de_joined (dj_cons (de_fmt rfl dg (xe_fd (i := 0) f_own_top (de_var (pv 0)))) (dj_cons de_str (dj_cons (de_fmt rfl dg (xe_fd (i := 1) f_own_bottom (de_var (pv 0)))) dj_nil)))))))
theorem cal_Ratio_DstrD {f : Addr} (T : TxD K "__str__" "Ratio.__str__" st_Ratio_DstrD [] f) (z : Zs mg) (dg : DigF K) (f_own_bottom : KFd K mg 0 "own_bottom") (f_own_top : KFd K mg 0 "own_top") : Cal Pr w K mg base false 1 f [] M_Ratio_DstrD := by
  obtain ⟨fd, Fd⟩ := T
  have B := body_Ratio_DstrD (Pr := Pr) (w := w) (K := K) (mg := mg) (base := base) (f := f) z dg f_own_bottom f_own_top
  exact (cal_pos (fn_ok Fd sc_Ratio_DstrD B) (Fd.bindsN fun _ _ _ _ _ _ us hl => match us, hl with | [_], _ => rfl) .nil (fun _ _ => .nil))
/-! ### is_name -/
abbrev st_is_name : Stmt := top 13
def N_is_name : List Str := ["value", "sign"]
theorem sc_is_name : FnScope N_is_name ["value"] (defScope st_is_name) := ⟨rfl, rfl, rfl, by decide +kernel, rfl, by decide +kernel, by decide +kernel⟩
def b_is_name : Sm := (sSeq (sIf (tOrM (tNotM (tVal (eCall (isiM [0, 1]) (aCons (eVar 0) (aCons (eK (.bty "str")) aNil))))) (tNotM (tVal (eChain (datOp pLe) (datOp pLe) (eK (.int 1)) (eCall (lenM) (aCons (eVar 0) aNil)) (eK (.int 8)))))) (sRet (eK (.bl false))) sNil)
  (sRet (eCall (allM fun bs => bs.all id) (aCons (eLc (iStrM (eVar 0)) [1] (gNm 1) tYesM (eOp (datOp (pInS false)) (eVar 1) (eK (.str "abcdefghijklmnopqrstuvwxyz")))) aNil))))
def F_is_name : Fm := funM N_is_name.length b_is_name
def M_is_name : Fm := posM 1 [] F_is_name
theorem body_is_name {f : Addr} (z : Zs mg) (isi : IsiF K mg [0, 1]) (c_MOST_LETTERS : GInt mg "MOST_LETTERS" 8) (c_LETTERS : GStr mg "LETTERS" "abcdefghijklmnopqrstuvwxyz") : BodyOk Pr w K mg base false 0 f N_is_name "is_name" (defScope st_is_name) (defBody st_is_name) b_is_name := by
  intro cdv A outer s H E hr hG tk hp
  exact (ds_cons (ds_if (PW.pt (dw_or (dt_not (dt_val (de_callB (cm_isi isi) rfl z.z_isinstance (by decide +kernel) (da_cons (de_var (pv 0)) (da_cons (de_bty (n := "str") rfl z.z_str (by decide +kernel)) da_nil))))) (dw_or1 (dt_not (dt_chain om_le om_le de_int (de_callB cm_len rfl z.z_len (by decide +kernel) (da_cons (de_var (pv 0)) da_nil)) (xe_gint c_MOST_LETTERS rfl)))))) (ds_one (ds_ret de_bl)) ds_nil)
    (ds_one (ds_ret (de_callB (cm_all rfl) rfl z.z_all (by decide +kernel) (da_cons (de_lc (own := [("sign", 1)]) rfl sc_is_name.nd (di_str (de_var (pv 0))) (blkOk_by (N := N_is_name) (sc := defScope st_is_name) (by decide +kernel)) (fun _ _ _ _ _ => (dg_name (ws := (List.map (·.2) ([("sign", 1)] : List (Str × Nat)))) (i := 1) (by simp) sc_is_name.nd rfl (by first | exact Or.inl rfl | exact Or.inr rfl))) (fun _ _ _ _ _ => dts_nil) (fun _ _ _ _ _ => (de_cmp om_inS (de_var (pv 1)) (xe_gstr c_LETTERS rfl) rfl))) da_nil)))))
theorem cal_is_name {f : Addr} (T : TxD K "is_name" "is_name" st_is_name [] f) (z : Zs mg) (isi : IsiF K mg [0, 1]) (c_MOST_LETTERS : GInt mg "MOST_LETTERS" 8) (c_LETTERS : GStr mg "LETTERS" "abcdefghijklmnopqrstuvwxyz") : Cal Pr w K mg base false 1 f [] M_is_name := by
  obtain ⟨fd, Fd⟩ := T
  have B := body_is_name (Pr := Pr) (w := w) (K := K) (mg := mg) (base := base) (f := f) z isi c_MOST_LETTERS c_LETTERS
  exact (cal_pos (fn_ok Fd sc_is_name B) (Fd.bindsN fun _ _ _ _ _ _ us hl => match us, hl with | [_], _ => rfl) .nil (fun _ _ => .nil))
/-! ### is_chart -/
abbrev st_is_chart : Stmt := top 19
def N_is_chart : List Str := ["value", "thing", "number"]
theorem sc_is_chart : FnScope N_is_chart ["value"] (defScope st_is_chart) := ⟨rfl, rfl, rfl, by decide +kernel, rfl, by decide +kernel, by decide +kernel⟩
def b_is_chart : Sm := (sSeq (sIf (tNotM (tVal (eCall (isiM [0, 1]) (aCons (eVar 0) (aCons (eK (.bty "dict")) aNil))))) (sRet (eK (.bl false))) sNil)
  (sRet (eCall (allM fun bs => bs.all id) (aCons (eLc (iItemsD (eVar 0)) [1, 2] (gTp 2 (gsCons (gNm 1) (gsCons (gNm 2) gsNil))) tYesM (eAnd (eCall M_is_name (aCons (eVar 1) aNil)) (eCall M_is_number (aCons (eVar 2) aNil)))) aNil))))
def F_is_chart : Fm := funM N_is_chart.length b_is_chart
def M_is_chart : Fm := posM 1 [] F_is_chart
theorem body_is_chart {f : Addr} (z : Zs mg) (isi : IsiF K mg [0, 1]) (h_is_name : KFn Pr w K mg base false 1 "is_name" [] M_is_name) (h_is_number : KFn Pr w K mg base false 2 "is_number" [] M_is_number) : BodyOk Pr w K mg base false 2 f N_is_chart "is_chart" (defScope st_is_chart) (defBody st_is_chart) b_is_chart := by
  intro cdv A outer s H E hr hG tk hp
  exact (ds_cons (ds_if (dt_not (dt_val (de_callB (cm_isi isi) rfl z.z_isinstance (by decide +kernel) (da_cons (de_var (pv 0)) (da_cons (de_bty (n := "dict") rfl z.z_dict (by decide +kernel)) da_nil))))) (ds_one (ds_ret de_bl)) ds_nil)
    (ds_one (ds_ret (de_callB (cm_all rfl) rfl z.z_all (by decide +kernel) (da_cons (de_lc (own := [("thing", 1), ("number", 2)]) rfl sc_is_chart.nd (di_items (de_var (pv 0))) (blkOk_by (N := N_is_chart) (sc := defScope st_is_chart) (by decide +kernel)) (fun _ _ _ _ _ => (dg_tup rfl (dgs_cons (dg_name (ws := (List.map (·.2) ([("thing", 1), ("number", 2)] : List (Str × Nat)))) (i := 1) (by simp) sc_is_chart.nd rfl (by first | exact Or.inl rfl | exact Or.inr rfl)) (dgs_cons (dg_name (ws := (List.map (·.2) ([("thing", 1), ("number", 2)] : List (Str × Nat)))) (i := 2) (by simp) sc_is_chart.nd rfl (by first | exact Or.inl rfl | exact Or.inr rfl)) dgs_nil)))) (fun _ _ _ _ _ => dts_nil) (fun _ _ _ _ _ => (de_and (xe_fn h_is_name (hr.mono (by decide)) .no takes_no rfl (da_cons (de_var (pv 1)) da_nil)) (de_one (xe_fn h_is_number (hr.mono (by decide)) .no takes_no rfl (da_cons (de_var (pv 2)) da_nil)))))) da_nil)))))
theorem cal_is_chart {f : Addr} (T : TxD K "is_chart" "is_chart" st_is_chart [] f) (z : Zs mg) (isi : IsiF K mg [0, 1]) (h_is_name : KFn Pr w K mg base false 1 "is_name" [] M_is_name) (h_is_number : KFn Pr w K mg base false 2 "is_number" [] M_is_number) : Cal Pr w K mg base false 3 f [] M_is_chart := by
  obtain ⟨fd, Fd⟩ := T
  have B := body_is_chart (Pr := Pr) (w := w) (K := K) (mg := mg) (base := base) (f := f) z isi h_is_name h_is_number
  exact (cal_pos (fn_ok Fd sc_is_chart B) (Fd.bindsN fun _ _ _ _ _ _ us hl => match us, hl with | [_], _ => rfl) .nil (fun _ _ => .nil))
/-! ### Ratio.sign -/
abbrev st_Ratio_sign : Stmt := inClass (top 17) 4
def N_Ratio_sign : List Str := ["self"]
theorem sc_Ratio_sign : FnScope N_Ratio_sign ["self"] (defScope st_Ratio_sign) := ⟨rfl, rfl, rfl, by decide +kernel, rfl, by decide +kernel, by decide +kernel⟩
def b_Ratio_sign : Sm := (sRet (eOp (datOp pSub) (eCall (fm1 pInt) (aCons (eOp (datOp pGt) (eFld 0 "own_top" 0 (eVar 0)) (eK (.int 0))) aNil)) (eCall (fm1 pInt) (aCons (eOp (datOp pLt) (eFld 0 "own_top" 0 (eVar 0)) (eK (.int 0))) aNil))))
def F_Ratio_sign : Fm := funM N_Ratio_sign.length b_Ratio_sign
def M_Ratio_sign : Fm := posM 1 [] F_Ratio_sign
theorem body_Ratio_sign {f : Addr} (z : Zs mg) (f_own_top : KFd K mg 0 "own_top") : BodyOk Pr w K mg base false 0 f N_Ratio_sign "Ratio.sign" (defScope st_Ratio_sign) (defBody st_Ratio_sign) b_Ratio_sign := by
  intro cdv A outer s H E hr hG tk hp
  exact (ds_one (ds_ret (de_bin om_sub (de_callTy cm_int rfl z.z_int (by decide +kernel) (da_cons (de_cmp om_gt (xe_fd (i := 0) f_own_top (de_var (pv 0))) de_int (nomark _)) da_nil)) (de_callTy cm_int rfl z.z_int (by decide +kernel) (da_cons (de_cmp om_lt (xe_fd (i := 0) f_own_top (de_var (pv 0))) de_int (nomark _)) da_nil)))))
theorem cal_Ratio_sign {f : Addr} (T : TxD K "sign" "Ratio.sign" st_Ratio_sign [] f) (z : Zs mg) (f_own_top : KFd K mg 0 "own_top") : Cal Pr w K mg base false 1 f [] M_Ratio_sign := by
  obtain ⟨fd, Fd⟩ := T
  have B := body_Ratio_sign (Pr := Pr) (w := w) (K := K) (mg := mg) (base := base) (f := f) z f_own_top
  exact (cal_pos (fn_ok Fd sc_Ratio_sign B) (Fd.bindsN fun _ _ _ _ _ _ us hl => match us, hl with | [_], _ => rfl) .nil (fun _ _ => .nil))
/-! ### without_zeros -/
abbrev st_without_zeros : Stmt := top 20
def N_without_zeros : List Str := ["chart", "found", "thing", "weight"]
theorem sc_without_zeros : FnScope N_without_zeros ["chart"] (defScope st_without_zeros) := ⟨rfl, rfl, rfl, by decide +kernel, rfl, by decide +kernel, by decide +kernel⟩
def b_without_zeros : Sm := (sSeq (sSet 1 (eDc (iSeq (eCall sortM (aCons (eVar 0) aNil))) [2] (gNm 2) tYesM (eVar 2) (eCall M_as_ratio (aCons (eOp gDGet (eVar 0) (eVar 2)) aNil))))
  (sRet (eDc (iItemsD (eVar 1)) [2, 3] (gTp 2 (gsCons (gNm 2) (gsCons (gNm 3) gsNil))) (tVal (eOp (datOp (pEq true)) (eProp 0 M_Ratio_sign (eVar 3)) (eK (.int 0)))) (eVar 2) (eVar 3))))
def F_without_zeros : Fm := funM N_without_zeros.length b_without_zeros
def M_without_zeros : Fm := posM 1 [] F_without_zeros
theorem body_without_zeros {f : Addr} (z : Zs mg) (h_as_ratio : KFn Pr w K mg base false 4 "as_ratio" [] M_as_ratio) (h_Ratio_sign_pr : KPr Pr w K mg base false 1 0 "sign" M_Ratio_sign) : BodyOk Pr w K mg base false 4 f N_without_zeros "without_zeros" (defScope st_without_zeros) (defBody st_without_zeros) b_without_zeros := by
  intro cdv A outer s H E hr hG tk hp
  exact (ds_cons (ds_setDc (i := 1) (own := [("thing", 2)]) rfl sc_without_zeros.nd rfl rfl (swd_true rfl rfl rfl (by decide +kernel)) (di_list (de_callB (cm_sorted rfl) rfl z.z_sorted (by decide +kernel) (da_cons (de_var (pv 0)) da_nil))) (blkOk_by (N := N_without_zeros) (sc := defScope st_without_zeros) (by decide +kernel)) (fun _ _ _ _ _ => (dg_name (ws := (List.map (·.2) ([("thing", 2)] : List (Str × Nat)))) (i := 2) (by simp) sc_without_zeros.nd rfl (by first | exact Or.inl rfl | exact Or.inr rfl))) (fun _ _ _ _ _ => dts_nil) (fun _ _ _ _ _ => (de_var (pv 2))) (fun _ _ _ _ _ => (xe_fn h_as_ratio (hr.mono (by decide)) .no takes_no rfl (da_cons (de_dget (u1 hr) (de_var (pv 0)) (de_var (pv 2)) (fun _ _ => rfl)) da_nil))))
    (ds_one (ds_ret (de_dc (own := [("thing", 2), ("weight", 3)]) rfl sc_without_zeros.nd (di_items (de_var (pv 1))) (blkOk_by (N := N_without_zeros) (sc := defScope st_without_zeros) (by decide +kernel)) (fun _ _ _ _ _ => (dg_tup rfl (dgs_cons (dg_name (ws := (List.map (·.2) ([("thing", 2), ("weight", 3)] : List (Str × Nat)))) (i := 2) (by simp) sc_without_zeros.nd rfl (by first | exact Or.inl rfl | exact Or.inr rfl)) (dgs_cons (dg_name (ws := (List.map (·.2) ([("thing", 2), ("weight", 3)] : List (Str × Nat)))) (i := 3) (by simp) sc_without_zeros.nd rfl (by first | exact Or.inl rfl | exact Or.inr rfl)) dgs_nil)))) (fun _ _ _ _ _ => (dts_one (dt_cmp (om_ne hr.units) (xe_pr h_Ratio_sign_pr (hr.mono (by decide)) .no (de_var (pv 3))) de_int (nomark _)))) (fun _ _ _ _ _ => (de_var (pv 2))) (fun _ _ _ _ _ => (de_var (pv 3)))))))
theorem cal_without_zeros {f : Addr} (T : TxD K "without_zeros" "without_zeros" st_without_zeros [] f) (z : Zs mg) (h_as_ratio : KFn Pr w K mg base false 4 "as_ratio" [] M_as_ratio) (h_Ratio_sign_pr : KPr Pr w K mg base false 1 0 "sign" M_Ratio_sign) : Cal Pr w K mg base false 5 f [] M_without_zeros := by
  obtain ⟨fd, Fd⟩ := T
  have B := body_without_zeros (Pr := Pr) (w := w) (K := K) (mg := mg) (base := base) (f := f) z h_as_ratio h_Ratio_sign_pr
  exact (cal_pos (fn_ok Fd sc_without_zeros B) (Fd.bindsN fun _ _ _ _ _ _ us hl => match us, hl with | [_], _ => rfl) .nil (fun _ _ => .nil))
/-! ### Form.__init__ -/
abbrev st_Form_DinitD : Stmt := inClass (top 22) 0
def N_Form_DinitD : List Str := ["self", "weights", "number"]
theorem sc_Form_DinitD : FnScope N_Form_DinitD ["self", "weights", "number"] (defScope st_Form_DinitD) := ⟨rfl, rfl, rfl, by decide +kernel, rfl, by decide +kernel, by decide +kernel⟩
def b_Form_DinitD : Sm := (sSeq (sIf (tAndM (tVal (eOp (datOp (pIsN true)) (eVar 1) (eK .non))) (tNotM (tVal (eCall M_is_chart (aCons (eVar 1) aNil))))) sBad sNil)
  (sSeq (sExpr (eCall M_want_number (aCons (eVar 2) aNil)))
  (sSeq (sFldM 1 "own_weights" (eVar 0) (eCall M_without_zeros (aCons (eIf (tVal (eOp (datOp (pIsN false)) (eVar 1) (eK .non))) (eK (.dic [])) (eVar 1)) aNil)))
  (sFldM 1 "own_number" (eVar 0) (eCall M_as_ratio (aCons (eVar 2) aNil))))))
def F_Form_DinitD : Fm := funM N_Form_DinitD.length b_Form_DinitD
def M_Form_DinitD : Fm := (lenM2 3 (posM 3 [] F_Form_DinitD) (lenM2 2 (posM 3 [(.dat (.int 0))] F_Form_DinitD) (posM 3 [(.dat .non), (.dat (.int 0))] F_Form_DinitD)))
theorem body_Form_DinitD {f : Addr} (h_is_chart : KFn Pr w K mg base false 3 "is_chart" [] M_is_chart) (h_want_number : KFn Pr w K mg base false 3 "want_number" [] M_want_number) (f_own_weights : KFd K mg 1 "own_weights") (h_without_zeros : KFn Pr w K mg base false 5 "without_zeros" [] M_without_zeros) (f_own_number : KFd K mg 1 "own_number") (h_as_ratio : KFn Pr w K mg base false 4 "as_ratio" [] M_as_ratio) : BodyOk Pr w K mg base false 5 f N_Form_DinitD "Form.__init__" (defScope st_Form_DinitD) (defBody st_Form_DinitD) b_Form_DinitD := by
  intro cdv A outer s H E hr hG tk hp
  exact (ds_cons (ds_if (PW.pt (dw_and (dt_cmp om_notN (de_var (pv 1)) de_non (nomark _)) (dw_and1 (dt_not (dt_val (xe_fn h_is_chart (hr.mono (by decide)) .no tk rfl (da_cons (de_var (pv 1)) da_nil))))))) (ds_one ds_never) ds_nil)
    (ds_cons (ds_expr (xe_fn h_want_number (hr.mono (by decide)) .no tk rfl (da_cons (de_var (pv 2)) da_nil)))
    (ds_cons (xs_fd f_own_weights (de_var (pv 0)) (xe_fn h_without_zeros (hr.mono (by decide)) .no tk rfl (da_cons (de_if (dt_cmp om_isN (de_var (pv 1)) de_non (nomark _)) de_dic0 (de_var (pv 1))) da_nil)))
    (ds_one (xs_fd f_own_number (de_var (pv 0)) (xe_fn h_as_ratio (hr.mono (by decide)) .no tk rfl (da_cons (de_var (pv 2)) da_nil)))))))
theorem cal_Form_DinitD {f : Addr} (T : TxD K "__init__" "Form.__init__" st_Form_DinitD [.non, .int 0] f) (h_is_chart : KFn Pr w K mg base false 3 "is_chart" [] M_is_chart) (h_want_number : KFn Pr w K mg base false 3 "want_number" [] M_want_number) (f_own_weights : KFd K mg 1 "own_weights") (h_without_zeros : KFn Pr w K mg base false 5 "without_zeros" [] M_without_zeros) (f_own_number : KFd K mg 1 "own_number") (h_as_ratio : KFn Pr w K mg base false 4 "as_ratio" [] M_as_ratio) : Cal Pr w K mg base false 6 f [] M_Form_DinitD := by
  obtain ⟨fd, Fd⟩ := T
  have B := body_Form_DinitD (Pr := Pr) (w := w) (K := K) (mg := mg) (base := base) (f := f) h_is_chart h_want_number f_own_weights h_without_zeros f_own_number h_as_ratio
  have G := fn_ok Fd sc_Form_DinitD B
  obtain ⟨d1, v1, b1⟩ := Fd.binds1 (ps := ["self", "weights", "number"]) 1 0 (by simp) rfl (fun _ _ _ _ _ _ _ us its h1 h2 => match us, its, h1, h2 with | [_], [_, _], _, _ => ⟨_, rfl, rfl⟩)
  obtain ⟨d2, v2, b2⟩ := Fd.binds1 (ps := ["self", "weights", "number"]) 2 1 (by simp) rfl (fun _ _ _ _ _ _ _ us its h1 h2 => match us, its, h1, h2 with | [_, _], [_, _], _, _ => ⟨_, rfl, rfl⟩)
  obtain ⟨d3, v3, b3⟩ := Fd.binds1 (ps := ["self", "weights", "number"]) 3 2 (by simp) rfl (fun _ _ _ _ _ _ _ us its h1 h2 => match us, its, h1, h2 with | [_, _, _], [_, _], _, _ => ⟨_, rfl, rfl⟩)
  exact (Cal.len 3 (cal_pos G b3 v3 (fun _ _ => .nil)) (Cal.len 2 (cal_pos G b2 v2 (fun _ _ => .cons (.dat (.int _)) (.nil))) (cal_pos G b1 v1 (fun _ _ => .cons (.dat .non) (.cons (.dat (.int _)) (.nil))))))
/-! ### Form.of -/
abbrev st_Form_of : Stmt := inClass (top 22) 1
def N_Form_of : List Str := ["cls", "names", "name", "other"]
theorem sc_Form_of : FnScope N_Form_of ["cls", "names"] (defScope st_Form_of) := ⟨rfl, rfl, rfl, by decide +kernel, rfl, by decide +kernel, by decide +kernel⟩
def b_Form_of : Sm := (sSeq (sFor (iTpl (eVar 1)) (gNm 2) (sIf (tNotM (tVal (eCall M_is_name (aCons (eVar 2) aNil)))) sBad sNil))
  (sRet (eCallV 0 1 (mkM 1 M_Form_DinitD) (aCons (eDc (iTpl (eVar 1)) [2] (gNm 2) tYesM (eVar 2) (eCall (lenM) (aCons (eLc (iTpl (eVar 1)) [3] (gNm 3) (tVal (eOp (datOp (pEq false)) (eVar 3) (eVar 2))) (eVar 3)) aNil))) aNil))))
def F_Form_of : Fm := funM N_Form_of.length b_Form_of
def M_Form_of : Fm := starM 1 F_Form_of
theorem body_Form_of {f : Addr} (z : Zs mg) (h_is_name : KFn Pr w K mg base false 1 "is_name" [] M_is_name) (h_Form_DinitD_mk : KMk Pr w K mg base false 6 1 [] M_Form_DinitD) : BodyOk Pr w K mg base false 7 f N_Form_of "Form.of" (defScope st_Form_of) (defBody st_Form_of) b_Form_of := by
  intro cdv A outer s H E hr hG tk hp
  exact (ds_cons (ds_for hp rfl (di_tup (de_var (pv 1))) (dg_name (ws := [2]) (i := 2) (by decide) sc_Form_of.nd rfl (by first | exact Or.inl rfl | exact Or.inr rfl)) (ds_one (ds_if (dt_not (dt_val (xe_fn h_is_name (hr.mono (by decide)) .no tk rfl (da_cons (de_var (pv 2)) da_nil)))) (ds_one ds_never) ds_nil)))
    (ds_one (ds_ret (xe_mkV (i := 0) h_Form_DinitD_mk (hr.mono (by decide)) .no tk (pv 0) (da_cons (de_dc (own := [("name", 2)]) rfl sc_Form_of.nd (di_tup (de_var (pv 1))) (blkOk_by (N := N_Form_of) (sc := defScope st_Form_of) (by decide +kernel)) (fun _ _ _ _ _ => (dg_name (ws := (List.map (·.2) ([("name", 2)] : List (Str × Nat)))) (i := 2) (by simp) sc_Form_of.nd rfl (by first | exact Or.inl rfl | exact Or.inr rfl))) (fun _ _ _ _ _ => dts_nil) (fun _ _ _ _ _ => (de_var (pv 2))) (fun _ _ _ _ _ => (de_callB cm_len rfl z.z_len (by decide +kernel) (da_cons (de_lc (own := [("other", 3)]) rfl sc_Form_of.nd (di_tup (de_var (pv 1))) (blkOk_by (by kernel_rfl)) (fun _ _ _ _ _ => (dg_name (ws := (List.map (·.2) ([("other", 3)] : List (Str × Nat)))) (i := 3) (by simp) sc_Form_of.nd rfl (by first | exact Or.inl rfl | exact Or.inr rfl))) (fun _ _ _ _ _ => (dts_one (dt_cmp (om_eq hr.units) (de_var (pv 3)) (de_var (pv 2)) (nomark _)))) (fun _ _ _ _ _ => (de_var (pv 3)))) da_nil)))) da_nil)))))
theorem cal_Form_of {f : Addr} (T : TxD K "of" "Form.of" st_Form_of [] f) (z : Zs mg) (h_is_name : KFn Pr w K mg base false 1 "is_name" [] M_is_name) (h_Form_DinitD_mk : KMk Pr w K mg base false 6 1 [] M_Form_DinitD) : Cal Pr w K mg base false 8 f [] M_Form_of := by
  obtain ⟨fd, Fd⟩ := T
  have B := body_Form_of (Pr := Pr) (w := w) (K := K) (mg := mg) (base := base) (f := f) z h_is_name h_Form_DinitD_mk
  exact fn_star (ps := ["cls"]) (pv := "names") Fd sc_Form_of (star_b Fd fun _ _ _ _ _ _ us rest hl => match us, rest, hl with | [_], [], _ => rfl | [_], _ :: _, _ => rfl) B
/-! ### _law_whole_right -/
abbrev st_law_whole_right : Stmt := top 36
def N_law_whole_right : List Str := ["_law_jar_here", "_law_one", "_law_pair", "_law_down", "_law_n", "_law_some", "_law_odd"]
theorem sc_law_whole_right : FnScope N_law_whole_right ["_law_jar_here", "_law_one", "_law_pair"] (defScope st_law_whole_right) := ⟨rfl, rfl, rfl, by decide +kernel, rfl, by decide +kernel, by decide +kernel⟩
def b_law_whole_right : Sm := (sSeq (sSet 3 (eOp (datOp pDiv) (eOp gIx (eVar 2) (eK (.int 0))) (eOp gIx (eVar 2) (eK (.int 1)))))
  (sSeq (sFor (iSeq (eLst (aCons (eVar 3) (aCons (eOp (datOp pAdd) (eVar 3) (eK (.int 1))) (aCons (eOp (datOp pSub) (eVar 3) (eK (.int 1))) (aCons (eK (.int 0)) (aCons (eCall M_law_integer (aCons (eVar 0) aNil)) aNil))))))) (gNm 4) (sSeq (sIf (tVal (eOp (datOp (pEq true)) (eCall (reprB (reprM 0 M_Ratio_DreprD (rpO 0 M_Ratio_DreprD rpB))) (aCons (eLst (aCons (eMeth 0 M_Ratio_is_below (eVar 1) (aCons (eVar 4) aNil)) (aCons (eMeth 0 M_Ratio_is_below (eCall (mkM 0 M_Ratio_DinitD) (aCons (eVar 4) aNil)) (aCons (eVar 1) aNil)) aNil))) aNil)) (eCall (reprB (reprM 0 M_Ratio_DreprD (rpO 0 M_Ratio_DreprD rpB))) (aCons (eLst (aCons (eOp (datOp pLt) (eOp gIx (eVar 2) (eK (.int 0))) (eOp (datOp pMul) (eVar 4) (eOp gIx (eVar 2) (eK (.int 1))))) (aCons (eOp (datOp pLt) (eOp (datOp pMul) (eVar 4) (eOp gIx (eVar 2) (eK (.int 1)))) (eOp gIx (eVar 2) (eK (.int 0)))) aNil))) aNil)))) (sRet (eK (.bl false))) sNil)
  (sIf (tOrM (tVal (eOp (gEqO [(0, M_Ratio_DeqD), (1, M_Form_DeqD)] (datOp (pEq false))) (eVar 1) (eVar 4))) (tOrM (tVal (eOp (gEqO [(0, M_Ratio_DeqD), (1, M_Form_DeqD)] (datOp (pEq false))) (eVar 4) (eVar 1))) (tOrM (tNotM (tVal (eOp (gNeO [(0, M_Ratio_DeqD), (1, M_Form_DeqD)] (datOp (pEq true))) (eVar 1) (eVar 4)))) (tVal (eOp (datOp (pEq true)) (eCall (reprB (reprM 0 M_Ratio_DreprD (rpO 0 M_Ratio_DreprD rpB))) (aCons (eOp (gEqO [(0, M_Ratio_DeqD), (1, M_Form_DeqD)] (datOp (pEq false))) (eVar 1) (eCall (mkM 0 M_Ratio_DinitD) (aCons (eVar 4) aNil))) aNil)) (eCall (reprB (reprM 0 M_Ratio_DreprD (rpO 0 M_Ratio_DreprD rpB))) (aCons (eOp (datOp (pEq false)) (eVar 2) (eTup (aCons (eVar 4) (aCons (eK (.int 1)) aNil)))) aNil))))))) (sRet (eK (.bl false))) sNil)))
  (sSeq (sSet 5 (eLst (aCons (eK .non) (aCons (eK (.bl true)) (aCons (eK (.bl false)) (aCons (eK (.str "")) (aCons (eCall (strM 0 M_Ratio_DstrD) (aCons (eVar 1) aNil)) (aCons (eCall (reprB (reprM 0 M_Ratio_DreprD (rpO 0 M_Ratio_DreprD rpB))) (aCons (eVar 1) aNil)) (aCons (eVar 2) (aCons (eCall listM (aCons (eVar 2) aNil)) (aCons (eLst (aCons (eVar 1) aNil)) (aCons (eK (.dic [])) (aCons (eCall (mkM 1 M_Form_DinitD) (aCons (eK .non) (aCons (eVar 1) aNil))) (aCons (eCm 1 M_Form_of (aCons (eK (.str "a")) aNil)) aNil))))))))))))))
  (sRet (eNotV (eCall (allM fun bs => bs.any id) (aCons (eLc (iSeq (eVar 5)) [6] (gNm 6) tYesM (eOr (eOp (gEqO [(0, M_Ratio_DeqD), (1, M_Form_DeqD)] (datOp (pEq false))) (eVar 1) (eVar 6)) (eOp (gEqO [(0, M_Ratio_DeqD), (1, M_Form_DeqD)] (datOp (pEq false))) (eVar 6) (eVar 1)))) aNil)))))))
def F_law_whole_right : Fm := funM N_law_whole_right.length b_law_whole_right
def M_law_whole_right : Fm := posM 3 [] F_law_whole_right
theorem body_law_whole_right {f : Addr} (z : Zs mg) (dg : DigF K) (h_law_integer : KFn Pr w K mg base false 3 "_law_integer" [] M_law_integer) (h_Ratio_DreprD_sp : KSp Pr w K mg base false 1 0 "__repr__" M_Ratio_DreprD) (h_Ratio_is_below_mt : KMt Pr w K mg base false 5 0 "is_below" [] M_Ratio_is_below) (h_Ratio_DinitD_mk : KMk Pr w K mg base false 2 0 [] M_Ratio_DinitD) (eqt : EqTab Pr w K mg base false 1 [(0, M_Ratio_DeqD), (1, M_Form_DeqD)]) (net : NeTab K mg [(0, M_Ratio_DeqD), (1, M_Form_DeqD)]) (h_Ratio_DstrD_sp : KSp Pr w K mg base false 1 0 "__str__" M_Ratio_DstrD) (h_Form_DinitD_mk : KMk Pr w K mg base false 6 1 [] M_Form_DinitD) (h_Form_of_cm : KCm Pr w K mg base false 8 1 "of" M_Form_of) : BodyOk Pr w K mg base true 8 f N_law_whole_right "_law_whole_right" (defScope st_law_whole_right) (defBody st_law_whole_right) b_law_whole_right := by
  intro cdv A outer s H E hr hG tk hp
  exact (ds_cons (ds_set (i := 3) sc_law_whole_right.nd rfl (by first | exact Or.inl rfl | exact Or.inr rfl) (de_bin om_div (de_ix im_ix (de_var (pv 2)) de_int (fun _ _ => rfl)) (de_ix im_ix (de_var (pv 2)) de_int (fun _ _ => rfl))))
    (ds_cons (ds_for hp rfl (di_list (de_lst (da_cons (de_var (pv 3)) (da_cons (de_bin om_add (de_var (pv 3)) de_int) (da_cons (de_bin om_sub (de_var (pv 3)) de_int) (da_cons de_int (da_cons (xe_fn h_law_integer (hr.mono (by decide)) .no tk rfl (da_cons (de_var (pv 0)) da_nil)) da_nil))))))) (dg_name (ws := [4]) (i := 4) (by decide) sc_law_whole_right.nd rfl (by first | exact Or.inl rfl | exact Or.inr rfl)) (ds_cons (ds_if (dt_cmp (om_ne hr.units) (de_callB (cm_reprB (xm_repr h_Ratio_DreprD_sp dg (hr.mono (by decide)) hG)) rfl z.z_repr (by decide +kernel) (da_cons (de_lst (da_cons (xe_mt h_Ratio_is_below_mt (hr.mono (by decide)) .no tk (de_var (pv 1)) (da_cons (de_var (pv 4)) da_nil)) (da_cons (xe_mt h_Ratio_is_below_mt (hr.mono (by decide)) .no tk (xe_mk h_Ratio_DinitD_mk (by decide +kernel) (hr.mono (by decide)) .no tk rfl (da_cons (de_var (pv 4)) da_nil)) (da_cons (de_var (pv 1)) da_nil)) da_nil))) da_nil)) (de_callB (cm_reprB (xm_repr h_Ratio_DreprD_sp dg (hr.mono (by decide)) hG)) rfl z.z_repr (by decide +kernel) (da_cons (de_lst (da_cons (de_cmp om_lt (de_ix im_ix (de_var (pv 2)) de_int (fun _ _ => rfl)) (de_bin om_mul (de_var (pv 4)) (de_ix im_ix (de_var (pv 2)) de_int (fun _ _ => rfl))) (nomark _)) (da_cons (de_cmp om_lt (de_bin om_mul (de_var (pv 4)) (de_ix im_ix (de_var (pv 2)) de_int (fun _ _ => rfl))) (de_ix im_ix (de_var (pv 2)) de_int (fun _ _ => rfl)) (nomark _)) da_nil))) da_nil)) (nomark _)) (ds_one (ds_ret de_bl)) ds_nil)
    (ds_one (ds_if (PW.pt (dw_or (dt_cmp (om_eqO eqt hr.units0 (hr.mono (by decide)) .no tk (om_eq hr.units)) (de_var (pv 1)) (de_var (pv 4)) (nomark _)) (dw_or (dt_cmp (om_eqO eqt hr.units0 (hr.mono (by decide)) .no tk (om_eq hr.units)) (de_var (pv 4)) (de_var (pv 1)) (nomark _)) (dw_or (dt_not (dt_cmp (om_neO eqt net (hr.mono (by decide)) .no tk (om_ne hr.units)) (de_var (pv 1)) (de_var (pv 4)) (nomark _))) (dw_or1 (dt_cmp (om_ne hr.units) (de_callB (cm_reprB (xm_repr h_Ratio_DreprD_sp dg (hr.mono (by decide)) hG)) rfl z.z_repr (by decide +kernel) (da_cons (de_cmp (om_eqO eqt hr.units0 (hr.mono (by decide)) .no tk (om_eq hr.units)) (de_var (pv 1)) (xe_mk h_Ratio_DinitD_mk (by decide +kernel) (hr.mono (by decide)) .no tk rfl (da_cons (de_var (pv 4)) da_nil)) (nomark _)) da_nil)) (de_callB (cm_reprB (xm_repr h_Ratio_DreprD_sp dg (hr.mono (by decide)) hG)) rfl z.z_repr (by decide +kernel) (da_cons (de_cmp (om_eq hr.units) (de_var (pv 2)) (de_tup (da_cons (de_var (pv 4)) (da_cons de_int da_nil))) (nomark _)) da_nil)) (nomark _))))))) (ds_one (ds_ret de_bl)) ds_nil))))
    (ds_cons (ds_set (i := 5) sc_law_whole_right.nd rfl (by first | exact Or.inl rfl | exact Or.inr rfl) (de_lst (da_cons de_non (da_cons de_bl (da_cons de_bl (da_cons de_str (da_cons (de_callTy (xm_str h_Ratio_DstrD_sp dg (hr.mono (by decide)) .no) rfl z.z_str (by decide +kernel) (da_cons (de_var (pv 1)) da_nil)) (da_cons (de_callB (cm_reprB (xm_repr h_Ratio_DreprD_sp dg (hr.mono (by decide)) hG)) rfl z.z_repr (by decide +kernel) (da_cons (de_var (pv 1)) da_nil)) (da_cons (de_var (pv 2)) (da_cons (de_callTy (cm_list rfl) rfl z.z_list (by decide +kernel) (da_cons (de_var (pv 2)) da_nil)) (da_cons (de_lst (da_cons (de_var (pv 1)) da_nil)) (da_cons de_dic0 (da_cons (xe_mk h_Form_DinitD_mk (by decide +kernel) (hr.mono (by decide)) .no tk rfl (da_cons de_non (da_cons (de_var (pv 1)) da_nil))) (da_cons (xe_cm h_Form_of_cm (by decide +kernel) (hr.mono (by decide)) .no tk rfl (da_cons de_str da_nil)) da_nil))))))))))))))
    (ds_one (ds_ret (de_not (de_callB (cm_any rfl) rfl z.z_any (by decide +kernel) (da_cons (de_lc (own := [("_law_odd", 6)]) rfl sc_law_whole_right.nd (di_list (de_var (pv 5))) (blkOk_by (N := N_law_whole_right) (sc := defScope st_law_whole_right) (by decide +kernel)) (fun _ _ _ _ _ => (dg_name (ws := (List.map (·.2) ([("_law_odd", 6)] : List (Str × Nat)))) (i := 6) (by simp) sc_law_whole_right.nd rfl (by first | exact Or.inl rfl | exact Or.inr rfl))) (fun _ _ _ _ _ => dts_nil) (fun _ _ _ _ _ => (de_or (de_cmp (om_eqO eqt hr.units0 (hr.mono (by decide)) .no takes_no (om_eq hr.units)) (de_var (pv 1)) (de_var (pv 6)) (nomark _)) (de_one (de_cmp (om_eqO eqt hr.units0 (hr.mono (by decide)) .no takes_no (om_eq hr.units)) (de_var (pv 6)) (de_var (pv 1)) (nomark _)))))) da_nil))))))))
theorem cal_law_whole_right {f : Addr} (T : TxD K "_law_whole_right" "_law_whole_right" st_law_whole_right [] f) (z : Zs mg) (dg : DigF K) (h_law_integer : KFn Pr w K mg base false 3 "_law_integer" [] M_law_integer) (h_Ratio_DreprD_sp : KSp Pr w K mg base false 1 0 "__repr__" M_Ratio_DreprD) (h_Ratio_is_below_mt : KMt Pr w K mg base false 5 0 "is_below" [] M_Ratio_is_below) (h_Ratio_DinitD_mk : KMk Pr w K mg base false 2 0 [] M_Ratio_DinitD) (eqt : EqTab Pr w K mg base false 1 [(0, M_Ratio_DeqD), (1, M_Form_DeqD)]) (net : NeTab K mg [(0, M_Ratio_DeqD), (1, M_Form_DeqD)]) (h_Ratio_DstrD_sp : KSp Pr w K mg base false 1 0 "__str__" M_Ratio_DstrD) (h_Form_DinitD_mk : KMk Pr w K mg base false 6 1 [] M_Form_DinitD) (h_Form_of_cm : KCm Pr w K mg base false 8 1 "of" M_Form_of) : Cal Pr w K mg base true 9 f [] M_law_whole_right := by
  obtain ⟨fd, Fd⟩ := T
  have B := body_law_whole_right (Pr := Pr) (w := w) (K := K) (mg := mg) (base := base) (f := f) z dg h_law_integer h_Ratio_DreprD_sp h_Ratio_is_below_mt h_Ratio_DinitD_mk eqt net h_Ratio_DstrD_sp h_Form_DinitD_mk h_Form_of_cm
  exact (cal_pos (fn_ok Fd sc_law_whole_right B) (Fd.bindsN fun _ _ _ _ _ _ us hl => match us, hl with | [_, _, _], _ => rfl) .nil (fun _ _ => .nil))
/-! ### _law_two_right -/
abbrev st_law_two_right : Stmt := top 35
def N_law_two_right : List Str := ["_law_one", "_law_pair", "_law_two", "_law_second", "_law_left", "_law_right_here", "_law_told"]
theorem sc_law_two_right : FnScope N_law_two_right ["_law_one", "_law_pair", "_law_two", "_law_second"] (defScope st_law_two_right) := ⟨rfl, rfl, rfl, by decide +kernel, rfl, by decide +kernel, by decide +kernel⟩
def b_law_two_right : Sm := (sSeq (sPar 4 5 (aCons (eOp (datOp pMul) (eOp gIx (eVar 1) (eK (.int 0))) (eOp gIx (eVar 3) (eK (.int 1)))) (aCons (eOp (datOp pMul) (eOp gIx (eVar 3) (eK (.int 0))) (eOp gIx (eVar 1) (eK (.int 1)))) aNil)))
  (sSeq (sSet 6 (eLst (aCons (eMeth 0 M_Ratio_is_below (eVar 0) (aCons (eVar 2) aNil)) (aCons (eMeth 0 M_Ratio_is_below (eVar 2) (aCons (eVar 0) aNil)) (aCons (eOp (gEqO [(0, M_Ratio_DeqD), (1, M_Form_DeqD)] (datOp (pEq false))) (eVar 0) (eVar 2)) (aCons (eOp (gNeO [(0, M_Ratio_DeqD), (1, M_Form_DeqD)] (datOp (pEq true))) (eVar 0) (eVar 2)) (aCons (eMeth 0 (fun ds S => if ds.length = (["other"] : List Str).length + 1 then MK_Ratio_is_below_other ds S else .bad) (eVar 0) (aCons (eVar 2) aNil)) aNil)))))))
  (sRet (eOp (datOp (pEq false)) (eCall (reprB (reprM 0 M_Ratio_DreprD (rpO 0 M_Ratio_DreprD rpB))) (aCons (eVar 6) aNil)) (eCall (reprB (reprM 0 M_Ratio_DreprD (rpO 0 M_Ratio_DreprD rpB))) (aCons (eLst (aCons (eOp (datOp pLt) (eVar 4) (eVar 5)) (aCons (eOp (datOp pLt) (eVar 5) (eVar 4)) (aCons (eOp (datOp (pEq false)) (eVar 4) (eVar 5)) (aCons (eOp (datOp (pEq true)) (eVar 4) (eVar 5)) (aCons (eOp (datOp pLt) (eVar 4) (eVar 5)) aNil)))))) aNil))))))
def F_law_two_right : Fm := funM N_law_two_right.length b_law_two_right
def M_law_two_right : Fm := posM 4 [] F_law_two_right
theorem body_law_two_right {f : Addr} (z : Zs mg) (dg : DigF K) (h_Ratio_is_below_mt : KMt Pr w K mg base false 5 0 "is_below" [] M_Ratio_is_below) (eqt : EqTab Pr w K mg base false 1 [(0, M_Ratio_DeqD), (1, M_Form_DeqD)]) (net : NeTab K mg [(0, M_Ratio_DeqD), (1, M_Form_DeqD)]) (h_Ratio_is_below_mt_other : KMt Pr w K mg base false 5 0 "is_below" ["other"] MK_Ratio_is_below_other) (h_Ratio_DreprD_sp : KSp Pr w K mg base false 1 0 "__repr__" M_Ratio_DreprD) : BodyOk Pr w K mg base true 5 f N_law_two_right "_law_two_right" (defScope st_law_two_right) (defBody st_law_two_right) b_law_two_right := by
  intro cdv A outer s H E hr hG tk hp
  exact (ds_cons (ds_par (i := 4) (j := 5) rfl sc_law_two_right.nd rfl rfl (by decide) rfl rfl (da_cons (de_bin om_mul (de_ix im_ix (de_var (pv 1)) de_int (fun _ _ => rfl)) (de_ix im_ix (de_var (pv 3)) de_int (fun _ _ => rfl))) (da_cons (de_bin om_mul (de_ix im_ix (de_var (pv 3)) de_int (fun _ _ => rfl)) (de_ix im_ix (de_var (pv 1)) de_int (fun _ _ => rfl))) da_nil)) rfl)
    (ds_cons (ds_set (i := 6) sc_law_two_right.nd rfl (by first | exact Or.inl rfl | exact Or.inr rfl) (de_lst (da_cons (xe_mt h_Ratio_is_below_mt (hr.mono (by decide)) .no tk (de_var (pv 0)) (da_cons (de_var (pv 2)) da_nil)) (da_cons (xe_mt h_Ratio_is_below_mt (hr.mono (by decide)) .no tk (de_var (pv 2)) (da_cons (de_var (pv 0)) da_nil)) (da_cons (de_cmp (om_eqO eqt hr.units0 (hr.mono (by decide)) .no tk (om_eq hr.units)) (de_var (pv 0)) (de_var (pv 2)) (nomark _)) (da_cons (de_cmp (om_neO eqt net (hr.mono (by decide)) .no tk (om_ne hr.units)) (de_var (pv 0)) (de_var (pv 2)) (nomark _)) (da_cons (xe_mtK (ks := ["other"]) h_Ratio_is_below_mt_other (hr.mono (by decide)) .no tk (de_var (pv 0)) (dk_cons (de_var (pv 2)) dk_nil)) da_nil)))))))
    (ds_one (ds_ret (de_cmp (om_eq hr.units) (de_callB (cm_reprB (xm_repr h_Ratio_DreprD_sp dg (hr.mono (by decide)) hG)) rfl z.z_repr (by decide +kernel) (da_cons (de_var (pv 6)) da_nil)) (de_callB (cm_reprB (xm_repr h_Ratio_DreprD_sp dg (hr.mono (by decide)) hG)) rfl z.z_repr (by decide +kernel) (da_cons (de_lst (da_cons (de_cmp om_lt (de_var (pv 4)) (de_var (pv 5)) (nomark _)) (da_cons (de_cmp om_lt (de_var (pv 5)) (de_var (pv 4)) (nomark _)) (da_cons (de_cmp (om_eq hr.units) (de_var (pv 4)) (de_var (pv 5)) (nomark _)) (da_cons (de_cmp (om_ne hr.units) (de_var (pv 4)) (de_var (pv 5)) (nomark _)) (da_cons (de_cmp om_lt (de_var (pv 4)) (de_var (pv 5)) (nomark _)) da_nil)))))) da_nil)) (nomark _))))))
theorem cal_law_two_right {f : Addr} (T : TxD K "_law_two_right" "_law_two_right" st_law_two_right [] f) (z : Zs mg) (dg : DigF K) (h_Ratio_is_below_mt : KMt Pr w K mg base false 5 0 "is_below" [] M_Ratio_is_below) (eqt : EqTab Pr w K mg base false 1 [(0, M_Ratio_DeqD), (1, M_Form_DeqD)]) (net : NeTab K mg [(0, M_Ratio_DeqD), (1, M_Form_DeqD)]) (h_Ratio_is_below_mt_other : KMt Pr w K mg base false 5 0 "is_below" ["other"] MK_Ratio_is_below_other) (h_Ratio_DreprD_sp : KSp Pr w K mg base false 1 0 "__repr__" M_Ratio_DreprD) : Cal Pr w K mg base true 6 f [] M_law_two_right := by
  obtain ⟨fd, Fd⟩ := T
  have B := body_law_two_right (Pr := Pr) (w := w) (K := K) (mg := mg) (base := base) (f := f) z dg h_Ratio_is_below_mt eqt net h_Ratio_is_below_mt_other h_Ratio_DreprD_sp
  exact (cal_pos (fn_ok Fd sc_law_two_right B) (Fd.bindsN fun _ _ _ _ _ _ us hl => match us, hl with | [_, _, _, _], _ => rfl) .nil (fun _ _ => .nil))
/-! ### _law_right -/
abbrev st_law_right : Stmt := top 37
def N_law_right : List Str := ["_law_jar_here", "_law_pairs", "_law_turn", "_law_near_here", "_law_made_here", "_law_k", "_law_one", "_law_below", "_law_due", "_law_pair", "_law_j"]
theorem sc_law_right : FnScope N_law_right ["_law_jar_here"] (defScope st_law_right) := ⟨rfl, rfl, rfl, by decide +kernel, rfl, by decide +kernel, by decide +kernel⟩
def b_law_right : Sm := (sSeq (sSet 1 (eLstM (aCons (eCall M_law_lowest (aCons (eK (.int 7)) (aCons (eK (.int 3)) aNil))) aNil)))
  (sSeq (sFrz 1 (sFor (iRg (aCons (eK (.int 5)) aNil)) (gNm 2) (sSeq (sSet 3 (eCall M_law_near (aCons (eVar 0) (aCons (eOp gIx (eVar 1) (eUn gNegI (eK (.int 1)))) aNil))))
  (sExpr (eApp (eVar 1) (eIf (tVal (eOp (datOp pLt) (eCall (fm2 pMax) (aCons (eCall (fm1 pAbs) (aCons (eOp gIx (eVar 3) (eK (.int 0))) aNil)) (aCons (eOp gIx (eVar 3) (eK (.int 1))) aNil))) (eOp (datOp pPow) (eK (.int 10)) (eK (.int 30))))) (eVar 3) (eTup (aCons (eVar 2) (aCons (eK (.int 1)) aNil)))))))))
  (sSeq (sSet 4 (eLc (iSeq (eVar 1)) [9] (gNm 9) tYesM (eCall M_law_made (aCons (eVar 0) (aCons (eVar 9) aNil)))))
  (sSeq (sFor (iEnm (aCons (eVar 4) aNil)) (gTp 2 (gsCons (gNm 5) (gsCons (gNm 6) gsNil))) (sSeq (sIf (tOrM (tNotM (tVal (eCall M_law_whole_right (aCons (eVar 0) (aCons (eVar 6) (aCons (eOp gIx (eVar 1) (eVar 5)) aNil)))))) (tVal (eOp (datOp (pEq true)) (eCall (reprB (reprM 0 M_Ratio_DreprD (rpO 0 M_Ratio_DreprD rpB))) (aCons (eOp (gInO [(0, M_Ratio_DeqD), (1, M_Form_DeqD)] (datOp (pInD false))) (eVar 6) (eSl (eVar 4) pNone (pSome (eVar 5)))) aNil)) (eCall (reprB (reprM 0 M_Ratio_DreprD (rpO 0 M_Ratio_DreprD rpB))) (aCons (eOp (datOp (pInD false)) (eOp gIx (eVar 1) (eVar 5)) (eSl (eVar 1) pNone (pSome (eVar 5)))) aNil))))) (sRet (eK (.bl false))) sNil)
  (sIf (tNotM (tVal (eCall (allM fun bs => bs.all id) (aCons (eLc (iRg (aCons (eCall (lenM) (aCons (eVar 4) aNil)) aNil)) [10] (gNm 10) tYesM (eCall M_law_two_right (aCons (eVar 6) (aCons (eOp gIx (eVar 1) (eVar 5)) (aCons (eOp gIx (eVar 4) (eVar 10)) (aCons (eOp gIx (eVar 1) (eVar 10)) aNil)))))) aNil)))) (sRet (eK (.bl false))) sNil)))
  (sSeq (sSet 7 (eLc (iSeq (eVar 4)) [6] (gNm 6) tYesM (eCall (lenM) (aCons (eLc (iRg (aCons (eCall (lenM) (aCons (eVar 4) aNil)) aNil)) [10] (gNm 10) (tVal (eMeth 0 M_Ratio_is_below (eOp gIx (eVar 4) (eVar 10)) (aCons (eVar 6) aNil))) (eVar 10)) aNil))))
  (sSeq (sSet 8 (eLc (iSeq (eVar 1)) [9] (gNm 9) tYesM (eCall (lenM) (aCons (eLc (iRg (aCons (eCall (lenM) (aCons (eVar 1) aNil)) aNil)) [10] (gNm 10) (tVal (eOp (datOp pLt) (eOp (datOp pMul) (eOp gIx (eOp gIx (eVar 1) (eVar 10)) (eK (.int 0))) (eOp gIx (eVar 9) (eK (.int 1)))) (eOp (datOp pMul) (eOp gIx (eVar 9) (eK (.int 0))) (eOp gIx (eOp gIx (eVar 1) (eVar 10)) (eK (.int 1)))))) (eVar 10)) aNil))))
  (sRet (eOp (datOp (pEq false)) (eVar 7) (eVar 8)))))))))
def F_law_right : Fm := funM N_law_right.length b_law_right
def M_law_right : Fm := posM 1 [] F_law_right
theorem body_law_right {f : Addr} (z : Zs mg) (dg : DigF K) (h_law_lowest : KFn Pr w K mg base false 2 "_law_lowest" [] M_law_lowest) (h_law_near : KFn Pr w K mg base false 5 "_law_near" [] M_law_near) (h_law_made : KFn Pr w K mg base false 4 "_law_made" [] M_law_made) (h_law_whole_right : KFn Pr w K mg base true 9 "_law_whole_right" [] M_law_whole_right) (h_Ratio_DreprD_sp : KSp Pr w K mg base false 1 0 "__repr__" M_Ratio_DreprD) (eqt : EqTab Pr w K mg base false 1 [(0, M_Ratio_DeqD), (1, M_Form_DeqD)]) (h_law_two_right : KFn Pr w K mg base true 6 "_law_two_right" [] M_law_two_right) (h_Ratio_is_below_mt : KMt Pr w K mg base false 5 0 "is_below" [] M_Ratio_is_below) : BodyOk Pr w K mg base true 9 f N_law_right "_law_right" (defScope st_law_right) (defBody st_law_right) b_law_right := by
  intro cdv A outer s H E hr hG tk hp
  exact (ds_cons (ds_set (i := 1) sc_law_right.nd rfl (by first | exact Or.inl rfl | exact Or.inr rfl) (de_lstM (da_cons (xe_fn h_law_lowest (hr.mono (by decide)) .no tk rfl (da_cons de_int (da_cons de_int da_nil))) da_nil)))
    (ds_cons (ds_frz (i := 1) (ds_for hp rfl (di_range1 rfl z.z_range (da_cons de_int da_nil)) (dg_name (ws := [2]) (i := 2) (by decide) sc_law_right.nd rfl (by first | exact Or.inl rfl | exact Or.inr rfl)) (ds_cons (ds_set (i := 3) sc_law_right.nd rfl (by first | exact Or.inl rfl | exact Or.inr rfl) (xe_fn h_law_near (hr.mono (by decide)) .no tk rfl (da_cons (de_var (pv 0)) (da_cons (de_ix im_ix (de_var (pv 1)) (de_un um_negI de_int) (fun _ _ => rfl)) da_nil))))
    (ds_one (ds_expr (de_append (de_var (pv 1)) (de_if (dt_cmp om_lt (de_callB (cm_max rfl) rfl z.z_max (by decide +kernel) (da_cons (de_callB cm_abs rfl z.z_abs (by decide +kernel) (da_cons (de_ix im_ix (de_var (pv 3)) de_int (fun _ _ => rfl)) da_nil)) (da_cons (de_ix im_ix (de_var (pv 3)) de_int (fun _ _ => rfl)) da_nil))) (de_bin om_pow de_int de_int) (nomark _)) (de_var (pv 3)) (de_tup (da_cons (de_var (pv 2)) (da_cons de_int da_nil))))))))))
    (ds_cons (ds_set (i := 4) sc_law_right.nd rfl (by first | exact Or.inl rfl | exact Or.inr rfl) (de_lc (own := [("_law_pair", 9)]) rfl sc_law_right.nd (di_list (de_var (pv 1))) (blkOk_by (N := N_law_right) (sc := defScope st_law_right) (by decide +kernel)) (fun _ _ _ _ _ => (dg_name (ws := (List.map (·.2) ([("_law_pair", 9)] : List (Str × Nat)))) (i := 9) (by simp) sc_law_right.nd rfl (by first | exact Or.inl rfl | exact Or.inr rfl))) (fun _ _ _ _ _ => dts_nil) (fun _ _ _ _ _ => (xe_fn h_law_made (hr.mono (by decide)) .no takes_no rfl (da_cons (de_var (pv 0)) (da_cons (de_var (pv 9)) da_nil))))))
    (ds_cons (ds_for hp rfl (di_enum rfl z.z_enumerate (da_cons (de_var (pv 4)) da_nil)) (dg_tup rfl (dgs_cons (dg_name (ws := [5, 6]) (i := 5) (by decide) sc_law_right.nd rfl (by first | exact Or.inl rfl | exact Or.inr rfl)) (dgs_cons (dg_name (ws := [5, 6]) (i := 6) (by decide) sc_law_right.nd rfl (by first | exact Or.inl rfl | exact Or.inr rfl)) dgs_nil))) (ds_cons (ds_if (PW.pt (dw_or (dt_not (dt_val (xe_fn h_law_whole_right (hr.mono (by decide)) hG tk rfl (da_cons (de_var (pv 0)) (da_cons (de_var (pv 6)) (da_cons (de_ix im_ix (de_var (pv 1)) (de_var (pv 5)) (fun _ _ => rfl)) da_nil)))))) (dw_or1 (dt_cmp (om_ne hr.units) (de_callB (cm_reprB (xm_repr h_Ratio_DreprD_sp dg (hr.mono (by decide)) hG)) rfl z.z_repr (by decide +kernel) (da_cons (de_cmp (om_inO eqt (hr.mono (by decide)) .no tk (om_inD (u65 hr))) (de_var (pv 6)) (de_slice (de_var (pv 4)) do_none (do_some (de_var (pv 5)))) rfl) da_nil)) (de_callB (cm_reprB (xm_repr h_Ratio_DreprD_sp dg (hr.mono (by decide)) hG)) rfl z.z_repr (by decide +kernel) (da_cons (de_cmp (om_inD (u65 hr)) (de_ix im_ix (de_var (pv 1)) (de_var (pv 5)) (fun _ _ => rfl)) (de_slice (de_var (pv 1)) do_none (do_some (de_var (pv 5)))) rfl) da_nil)) (nomark _))))) (ds_one (ds_ret de_bl)) ds_nil)
    (ds_one (ds_if (dt_not (dt_val (de_callB (cm_all rfl) rfl z.z_all (by decide +kernel) (da_cons (de_lc (own := [("_law_j", 10)]) rfl sc_law_right.nd (di_range1 rfl z.z_range (da_cons (de_callB cm_len rfl z.z_len (by decide +kernel) (da_cons (de_var (pv 4)) da_nil)) da_nil)) (blkOk_by (N := N_law_right) (sc := defScope st_law_right) (by decide +kernel)) (fun _ _ _ _ _ => (dg_name (ws := (List.map (·.2) ([("_law_j", 10)] : List (Str × Nat)))) (i := 10) (by simp) sc_law_right.nd rfl (by first | exact Or.inl rfl | exact Or.inr rfl))) (fun _ _ _ _ _ => dts_nil) (fun _ _ _ _ _ => (xe_fn h_law_two_right (hr.mono (by decide)) hG takes_no rfl (da_cons (de_var (pv 6)) (da_cons (de_ix im_ix (de_var (pv 1)) (de_var (pv 5)) (fun _ _ => rfl)) (da_cons (de_ix im_ix (de_var (pv 4)) (de_var (pv 10)) (fun _ _ => rfl)) (da_cons (de_ix im_ix (de_var (pv 1)) (de_var (pv 10)) (fun _ _ => rfl)) da_nil))))))) da_nil)))) (ds_one (ds_ret de_bl)) ds_nil))))
    (ds_cons (ds_setLc (i := 7) (own := [("_law_one", 6)]) rfl sc_law_right.nd rfl rfl (sw_true rfl rfl rfl (by decide +kernel)) (di_list (de_var (pv 4))) (blkOk_by (N := N_law_right) (sc := defScope st_law_right) (by decide +kernel)) (fun _ _ _ _ _ => (dg_name (ws := (List.map (·.2) ([("_law_one", 6)] : List (Str × Nat)))) (i := 6) (by simp) sc_law_right.nd rfl (by first | exact Or.inl rfl | exact Or.inr rfl))) (fun _ _ _ _ _ => dts_nil) (fun _ _ _ _ _ => (de_callB cm_len rfl z.z_len (by decide +kernel) (da_cons (de_lc (own := [("_law_j", 10)]) rfl sc_law_right.nd (di_range1 rfl z.z_range (da_cons (de_callB cm_len rfl z.z_len (by decide +kernel) (da_cons (de_var (pv 4)) da_nil)) da_nil)) (blkOk_by (by kernel_rfl)) (fun _ _ _ _ _ => (dg_name (ws := (List.map (·.2) ([("_law_j", 10)] : List (Str × Nat)))) (i := 10) (by simp) sc_law_right.nd rfl (by first | exact Or.inl rfl | exact Or.inr rfl))) (fun _ _ _ _ _ => (dts_one (dt_val (xe_mt h_Ratio_is_below_mt (hr.mono (by decide)) .no takes_no (de_ix im_ix (de_var (pv 4)) (de_var (pv 10)) (fun _ _ => rfl)) (da_cons (de_var (pv 6)) da_nil))))) (fun _ _ _ _ _ => (de_var (pv 10)))) da_nil))))
    (ds_cons (ds_setLc (i := 8) (own := [("_law_pair", 9)]) rfl sc_law_right.nd rfl rfl (sw_true rfl rfl rfl (by decide +kernel)) (di_list (de_var (pv 1))) (blkOk_by (N := N_law_right) (sc := defScope st_law_right) (by decide +kernel)) (fun _ _ _ _ _ => (dg_name (ws := (List.map (·.2) ([("_law_pair", 9)] : List (Str × Nat)))) (i := 9) (by simp) sc_law_right.nd rfl (by first | exact Or.inl rfl | exact Or.inr rfl))) (fun _ _ _ _ _ => dts_nil) (fun _ _ _ _ _ => (de_callB cm_len rfl z.z_len (by decide +kernel) (da_cons (de_lc (own := [("_law_j", 10)]) rfl sc_law_right.nd (di_range1 rfl z.z_range (da_cons (de_callB cm_len rfl z.z_len (by decide +kernel) (da_cons (de_var (pv 1)) da_nil)) da_nil)) (blkOk_by (by kernel_rfl)) (fun _ _ _ _ _ => (dg_name (ws := (List.map (·.2) ([("_law_j", 10)] : List (Str × Nat)))) (i := 10) (by simp) sc_law_right.nd rfl (by first | exact Or.inl rfl | exact Or.inr rfl))) (fun _ _ _ _ _ => (dts_one (dt_cmp om_lt (de_bin om_mul (de_ix im_ix (de_ix im_ix (de_var (pv 1)) (de_var (pv 10)) (fun _ _ => rfl)) de_int (fun _ _ => rfl)) (de_ix im_ix (de_var (pv 9)) de_int (fun _ _ => rfl))) (de_bin om_mul (de_ix im_ix (de_var (pv 9)) de_int (fun _ _ => rfl)) (de_ix im_ix (de_ix im_ix (de_var (pv 1)) (de_var (pv 10)) (fun _ _ => rfl)) de_int (fun _ _ => rfl))) (nomark _)))) (fun _ _ _ _ _ => (de_var (pv 10)))) da_nil))))
    (ds_one (ds_ret (de_cmp (om_eq hr.units) (de_var (pv 7)) (de_var (pv 8)) (nomark _))))))))))
theorem cal_law_right {f : Addr} (T : TxD K "_law_right" "_law_right" st_law_right [] f) (z : Zs mg) (dg : DigF K) (h_law_lowest : KFn Pr w K mg base false 2 "_law_lowest" [] M_law_lowest) (h_law_near : KFn Pr w K mg base false 5 "_law_near" [] M_law_near) (h_law_made : KFn Pr w K mg base false 4 "_law_made" [] M_law_made) (h_law_whole_right : KFn Pr w K mg base true 9 "_law_whole_right" [] M_law_whole_right) (h_Ratio_DreprD_sp : KSp Pr w K mg base false 1 0 "__repr__" M_Ratio_DreprD) (eqt : EqTab Pr w K mg base false 1 [(0, M_Ratio_DeqD), (1, M_Form_DeqD)]) (h_law_two_right : KFn Pr w K mg base true 6 "_law_two_right" [] M_law_two_right) (h_Ratio_is_below_mt : KMt Pr w K mg base false 5 0 "is_below" [] M_Ratio_is_below) : Cal Pr w K mg base true 10 f [] M_law_right := by
  obtain ⟨fd, Fd⟩ := T
  have B := body_law_right (Pr := Pr) (w := w) (K := K) (mg := mg) (base := base) (f := f) z dg h_law_lowest h_law_near h_law_made h_law_whole_right h_Ratio_DreprD_sp eqt h_law_two_right h_Ratio_is_below_mt
  exact (cal_pos (fn_ok Fd sc_law_right B) (Fd.bindsN fun _ _ _ _ _ _ us hl => match us, hl with | [_], _ => rfl) .nil (fun _ _ => .nil))
/-! ### _law_jar -/
abbrev st_law_jar : Stmt := top 24
def N_law_jar : List Str := ["_law_script", "_law_k", "_law_cell"]
theorem sc_law_jar : FnScope N_law_jar ["_law_script", "_law_k"] (defScope st_law_jar) := ⟨rfl, rfl, rfl, by decide +kernel, rfl, by decide +kernel, by decide +kernel⟩
def b_law_jar : Sm := (sSeq (sSet 2 (eIf (tVal (eOp (datOp pLt) (eVar 1) (eCall (lenM) (aCons (eVar 0) aNil)))) (eCall (fm1 pAbs) (aCons (eOp gIx (eVar 0) (eVar 1)) aNil)) (eOp (datOp pAdd) (eOp (datOp pMul) (eK (.int 23)) (eVar 1)) (eK (.int 9)))))
  (sRet (eLstM (aCons (eCall (fm2 pMax) (aCons (eK (.int 0)) (aCons (eOp (datOp pSub) (eVar 2) (eOp (datOp pPow) (eK (.int 10)) (eK (.int 18)))) aNil))) (aCons (eOp (datOp pAdd) (eOp (datOp pMod) (eCall (fm1 pInt) (aCons (eOp (datOp pAdd) (eOp (datOp pAdd) (eOp (datOp pMul) (eOp (datOp pMod) (eCall (fm1 pInt) (aCons (eVar 2) aNil)) (eK (.int 2147483489))) (eK (.int 40699))) (eOp (datOp pMul) (eK (.int 52711)) (eVar 1))) (eK (.int 17))) aNil)) (eK (.int 2147483423))) (eK (.int 1))) aNil)))))
def F_law_jar : Fm := funM N_law_jar.length b_law_jar
def M_law_jar : Fm := posM 2 [] F_law_jar
theorem body_law_jar {f : Addr} (z : Zs mg) : BodyOk Pr w K mg base false 0 f N_law_jar "_law_jar" (defScope st_law_jar) (defBody st_law_jar) b_law_jar := by
  intro cdv A outer s H E hr hG tk hp
  exact (ds_cons (ds_set (i := 2) sc_law_jar.nd rfl (by first | exact Or.inl rfl | exact Or.inr rfl) (de_if (dt_cmp om_lt (de_var (pv 1)) (de_callB cm_len rfl z.z_len (by decide +kernel) (da_cons (de_var (pv 0)) da_nil)) (nomark _)) (de_callB cm_abs rfl z.z_abs (by decide +kernel) (da_cons (de_ix im_ix (de_var (pv 0)) (de_var (pv 1)) (fun _ _ => rfl)) da_nil)) (de_bin om_add (de_bin om_mul de_int (de_var (pv 1))) de_int)))
    (ds_one (ds_ret (de_lstM (da_cons (de_callB (cm_max rfl) rfl z.z_max (by decide +kernel) (da_cons de_int (da_cons (de_bin om_sub (de_var (pv 2)) (de_bin om_pow de_int de_int)) da_nil))) (da_cons (de_bin om_add (de_bin om_mod (de_callTy cm_int rfl z.z_int (by decide +kernel) (da_cons (de_bin om_add (de_bin om_add (de_bin om_mul (de_bin om_mod (de_callTy cm_int rfl z.z_int (by decide +kernel) (da_cons (de_var (pv 2)) da_nil)) de_int) de_int) (de_bin om_mul de_int (de_var (pv 1)))) de_int) da_nil)) de_int) de_int) da_nil))))))
theorem cal_law_jar {f : Addr} (T : TxD K "_law_jar" "_law_jar" st_law_jar [] f) (z : Zs mg) : Cal Pr w K mg base false 1 f [] M_law_jar := by
  obtain ⟨fd, Fd⟩ := T
  have B := body_law_jar (Pr := Pr) (w := w) (K := K) (mg := mg) (base := base) (f := f) z
  exact (cal_pos (fn_ok Fd sc_law_jar B) (Fd.bindsN fun _ _ _ _ _ _ us hl => match us, hl with | [_, _], _ => rfl) .nil (fun _ _ => .nil))
/-! ### law -/
abbrev st_law : Stmt := top 38
def N_law : List Str := ["_law_script", "_law_k"]
theorem sc_law : FnScope N_law ["_law_script"] (defScope st_law) := ⟨rfl, rfl, rfl, by decide +kernel, rfl, by decide +kernel, by decide +kernel⟩
def b_law : Sm := (sRet (eCall (allM fun bs => bs.all id) (aCons (eLc (iRg (aCons (eCall (fm2 pMax) (aCons (eK (.int 1)) (aCons (eCall (fm2 pMin) (aCons (eCall (lenM) (aCons (eVar 0) aNil)) (aCons (eK (.int 4)) aNil))) aNil))) aNil)) [1] (gNm 1) tYesM (eCall M_law_right (aCons (eCall M_law_jar (aCons (eVar 0) (aCons (eVar 1) aNil))) aNil))) aNil)))
def F_law : Fm := funM N_law.length b_law
def M_law : Fm := posM 1 [] F_law
theorem body_law {f : Addr} (z : Zs mg) (h_law_right : KFn Pr w K mg base true 10 "_law_right" [] M_law_right) (h_law_jar : KFn Pr w K mg base false 1 "_law_jar" [] M_law_jar) : BodyOk Pr w K mg base true 10 f N_law "law" (defScope st_law) (defBody st_law) b_law := by
  intro cdv A outer s H E hr hG tk hp
  exact (ds_one (ds_ret (de_callB (cm_all rfl) rfl z.z_all (by decide +kernel) (da_cons (de_lc (own := [("_law_k", 1)]) rfl sc_law.nd (di_range1 rfl z.z_range (da_cons (de_callB (cm_max rfl) rfl z.z_max (by decide +kernel) (da_cons de_int (da_cons (de_callB (cm_min rfl) rfl z.z_min (by decide +kernel) (da_cons (de_callB cm_len rfl z.z_len (by decide +kernel) (da_cons (de_var (pv 0)) da_nil)) (da_cons de_int da_nil))) da_nil))) da_nil)) (blkOk_by (N := N_law) (sc := defScope st_law) (by decide +kernel)) (fun _ _ _ _ _ => (dg_name (ws := (List.map (·.2) ([("_law_k", 1)] : List (Str × Nat)))) (i := 1) (by simp) sc_law.nd rfl (by first | exact Or.inl rfl | exact Or.inr rfl))) (fun _ _ _ _ _ => dts_nil) (fun _ _ _ _ _ => (xe_fn h_law_right (hr.mono (by decide)) hG takes_no rfl (da_cons (xe_fn h_law_jar (hr.mono (by decide)) .no takes_no rfl (da_cons (de_var (pv 0)) (da_cons (de_var (pv 1)) da_nil))) da_nil)))) da_nil))))
theorem cal_law {f : Addr} (T : TxD K "law" "law" st_law [] f) (z : Zs mg) (h_law_right : KFn Pr w K mg base true 10 "_law_right" [] M_law_right) (h_law_jar : KFn Pr w K mg base false 1 "_law_jar" [] M_law_jar) : Cal Pr w K mg base true 11 f [] M_law := by
  obtain ⟨fd, Fd⟩ := T
  have B := body_law (Pr := Pr) (w := w) (K := K) (mg := mg) (base := base) (f := f) z h_law_right h_law_jar
  exact (cal_pos (fn_ok Fd sc_law B) (Fd.bindsN fun _ _ _ _ _ _ us hl => match us, hl with | [_], _ => rfl) .nil (fun _ _ => .nil))
end
end K12

set_option Elab.async false
set_option linter.all false
set_option maxRecDepth 100000
set_option maxHeartbeats 2000000
namespace K12
open PySem L2 DL QR
local macro_rules | `(tactic| walk_at "dl") => `(tactic| try simp -dsimp only [↓r_var, ↓r_K, ↓r_aNil, ↓r_aCons, ↓r_op, ↓r_dat, ↓r_tup, ↓r_lst, ↓r_lstM, ↓r_call, ↓r_cm, ↓r_un, ↓r_negI, ↓r_if, ↓r_val, ↓r_and, ↓r_or, ↓r_not, ↓r_yes, ↓r_andV, ↓r_orV, ↓r_notV, ↓r_fld, ↓r_meth, ↓r_prop, ↓r_ix_lst, ↓r_ix_tup, ↓r_ix_loc, ↓r_len_lst, ↓r_len_tup, ↓r_fm1, ↓r_fm2, ↓r_all, ↓r_app, ↓r_ext, ↓o_seq, ↓o_nil, ↓o_ret, ↓o_set, ↓o_expr, ↓o_if, ↓o_bad, ↓o_par, ↓o_par3, ↓o_asg, ↓o_gNm, ↓o_gTp, ↓o_gsNil, ↓o_gsCons, ↓o_gSb, ↓o_retF, ↓o_fld, ↓o_for, ↓r_iSeq, ↓r_iTpl, ↓r_iRg, ↓r_lc, ↓o_frz, ↓r_iEnm, ↓r_reprB_bl, ↓r_reprB_lst, ↓r_chain, ↓r_iStrM, ↓r_iKeysD, ↓r_iItemsD, ↓r_gDGet, ↓r_gDIn, ↓r_pairs0, ↓r_pairs1, ↓r_disp, ↓r_dc, ↓dcL_nil, ↓r_sortD, ↓r_sortL, ↓r_dictD, ↓r_dictL, ↓r_listD, ↓r_listL, ↓r_listT, ↓r_lenDd, ↓r_len_str, ↓r_jn, ↓r_sl, ↓r_pNone, ↓r_pSome, ↓r_gSlS, ↓r_gSlL, ↓r_ix_str, ↓r_dget2, ↓is_non_int, ↓is_non_bool, ↓is_non_str, ↓is_non_list, ↓is_non_tuple, ↓is_non_dict, ↓is_non_cls, ↓is_bl_int, ↓is_bl_bool, ↓is_bl_str, ↓is_bl_list, ↓is_bl_tuple, ↓is_bl_dict, ↓is_bl_cls, ↓is_int_int, ↓is_int_bool, ↓is_int_str, ↓is_int_list, ↓is_int_tuple, ↓is_int_dict, ↓is_int_cls, ↓is_str_int, ↓is_str_bool, ↓is_str_str, ↓is_str_list, ↓is_str_tuple, ↓is_str_dict, ↓is_str_cls, ↓is_lst_int, ↓is_lst_bool, ↓is_lst_str, ↓is_lst_list, ↓is_lst_tuple, ↓is_lst_dict, ↓is_lst_cls, ↓is_tup_int, ↓is_tup_bool, ↓is_tup_str, ↓is_tup_list, ↓is_tup_tuple, ↓is_tup_dict, ↓is_tup_cls, ↓is_dic_int, ↓is_dic_bool, ↓is_dic_str, ↓is_dic_list, ↓is_dic_tuple, ↓is_dic_dict, ↓is_dic_cls, ↓is_obj_int, ↓is_obj_bool, ↓is_obj_str, ↓is_obj_list, ↓is_obj_tuple, ↓is_obj_dict, ↓is_obj_cls,
  opt_some, opt_ite, opt_ite2, rs_ok, List.getElem?_cons_zero, List.getElem?_cons_succ, List.set_cons_zero, List.set_cons_succ, lstIn_lst, objIn_obj, objOf_dat, objOf_loc, two?, three?, datOf, locIx, intOf, intL, lstD, tupD, blOf, wipeP,
  pAdd_int, pAdd_str, pSub, pMul, pMod, pDiv, pLt, pLe, pGt, pGe, pInt, pAbs, pMax, pMin, pDivmod, tru_bl, tru_int, tru_non, dats, Option.map_some, decide_eq_true_eq, atI0, atI1, atI2, ixN0, ixN1, pEqF_int, pEqT_int, pEqF_str, pEqT_str, p10_4, p10_5, p10_9, p10_10, p10_18, p10_19, p10_29, p10_30, List.length_cons, List.length_nil, true_and, and_true, Bool.not_true, Bool.not_false, if_true, if_false, Bool.false_eq_true, Bool.not_eq_true', decide_eq_false_iff_not, bne_iff_ne, ne_eq, Int.reduceEq, Int.reduceLT, Int.reduceLE, Int.reduceGT, Int.reduceNeg, not_false_eq_true, not_true_eq_false, decide_true, decide_false, eq_self, and_self, sizeLine_eq, Nat.reduceAdd, Nat.reduceLeDiff, Nat.reduceLT, Nat.reduceEqDiff, List.cons_append, List.nil_append, lst1_is, strD, dicD, dicOf_dat, keyOf_str, keyOf_int, kpairs, pKey, pIsN_non, pNotN_non, pIsN_dic, pNotN_dic, pInS_str, seqOf_lst, seqOf_tup, strsOf, strKeys, keyP, List.map_cons, List.map_nil, Option.bind_some, Nat.reduceBEq, ct0, ct1, Bool.true_eq_false, Int.natCast_one, Int.natCast_zero, Int.cast_ofNat_Int])
/-! ### draws -/
theorem run_dip {x0 x1 : Val} {S : Store} {Q E t} : RsP (M_law_dip [x0, x1] S) Q E t = OuP (b_law_dip [some x0, some x1, none] S) (fun _ S1 => Q (.dat .non) S1) Q no2 no2 (fun c fs _ S1 => E c fs S1) .mk := run_pos rfl rfl
theorem m_dip {n : Nat} {many : Int} {T S : Store} {Q E t} (J : JarF n T S) (hm : 0 < many) (hb : many ≤ 10 ^ 30)
    (h : ∀ d S', 0 ≤ d → d < many → JarF n T S' → Q (.dat (.int d)) S') : RsP (M_law_dip [.loc n, .dat (.int many)] S) Q E t := by
  obtain ⟨a, b, hS, ha⟩ := id J.jar
  have hn := J.jar.lt
  have np : Builtin.divisionGoesByPylong a many = false := divS (by omega) (Nat.lt_of_le_of_lt (by omega) p30)
  rw [run_dip]
  unfold b_law_dip
  simp -dsimp only [↓r_var, ↓r_K, ↓r_aNil, ↓r_aCons, ↓r_op, ↓r_dat, ↓r_tup, ↓r_lst, ↓r_lstM, ↓r_call, ↓r_cm, ↓r_un, ↓r_negI, ↓r_if, ↓r_val, ↓r_and, ↓r_or, ↓r_not, ↓r_yes, ↓r_andV, ↓r_orV, ↓r_notV, ↓r_fld, ↓r_meth, ↓r_prop, ↓r_ix_lst, ↓r_ix_tup, ↓r_ix_loc, ↓r_len_lst, ↓r_len_tup, ↓r_fm1, ↓r_fm2, ↓r_all, ↓r_app, ↓r_ext, ↓o_seq, ↓o_nil, ↓o_ret, ↓o_set, ↓o_expr, ↓o_if, ↓o_bad, ↓o_par, ↓o_par3, ↓o_asg, ↓o_gNm, ↓o_gTp, ↓o_gsNil, ↓o_gsCons, ↓o_gSb, ↓o_retF, ↓o_fld, ↓o_for, ↓r_iSeq, ↓r_iTpl, ↓r_iRg, ↓r_lc, ↓o_frz, ↓r_iEnm, ↓r_reprB_bl, ↓r_reprB_lst, ↓r_chain, ↓r_iStrM, ↓r_iKeysD, ↓r_iItemsD, ↓r_gDGet, ↓r_gDIn, ↓r_pairs0, ↓r_pairs1, ↓r_disp, ↓r_dc, ↓dcL_nil, ↓r_sortD, ↓r_sortL, ↓r_dictD, ↓r_dictL, ↓r_listD, ↓r_listL, ↓r_listT, ↓r_lenDd, ↓r_len_str, ↓r_jn, ↓r_sl, ↓r_pNone, ↓r_pSome, ↓r_gSlS, ↓r_gSlL, ↓r_ix_str, ↓r_dget2, ↓is_non_int, ↓is_non_bool, ↓is_non_str, ↓is_non_list, ↓is_non_tuple, ↓is_non_dict, ↓is_non_cls, ↓is_bl_int, ↓is_bl_bool, ↓is_bl_str, ↓is_bl_list, ↓is_bl_tuple, ↓is_bl_dict, ↓is_bl_cls, ↓is_int_int, ↓is_int_bool, ↓is_int_str, ↓is_int_list, ↓is_int_tuple, ↓is_int_dict, ↓is_int_cls, ↓is_str_int, ↓is_str_bool, ↓is_str_str, ↓is_str_list, ↓is_str_tuple, ↓is_str_dict, ↓is_str_cls, ↓is_lst_int, ↓is_lst_bool, ↓is_lst_str, ↓is_lst_list, ↓is_lst_tuple, ↓is_lst_dict, ↓is_lst_cls, ↓is_tup_int, ↓is_tup_bool, ↓is_tup_str, ↓is_tup_list, ↓is_tup_tuple, ↓is_tup_dict, ↓is_tup_cls, ↓is_dic_int, ↓is_dic_bool, ↓is_dic_str, ↓is_dic_list, ↓is_dic_tuple, ↓is_dic_dict, ↓is_dic_cls, ↓is_obj_int, ↓is_obj_bool, ↓is_obj_str, ↓is_obj_list, ↓is_obj_tuple, ↓is_obj_dict, ↓is_obj_cls,
  opt_some, opt_ite, opt_ite2, rs_ok, List.getElem?_cons_zero, List.getElem?_cons_succ, List.set_cons_zero, List.set_cons_succ, lstIn_lst, objIn_obj, objOf_dat, objOf_loc, two?, three?, datOf, locIx, intOf, intL, lstD, tupD, blOf, wipeP,
  pAdd_int, pAdd_str, pSub, pMul, pMod, pDiv, pLt, pLe, pGt, pGe, pInt, pAbs, pMax, pMin, pDivmod, tru_bl, tru_int, tru_non, dats, Option.map_some, decide_eq_true_eq, atI0, atI1, atI2, ixN0, ixN1, pEqF_int, pEqT_int, pEqF_str, pEqT_str, p10_4, p10_5, p10_9, p10_10, p10_18, p10_19, p10_29, p10_30, List.length_cons, List.length_nil, true_and, and_true, Bool.not_true, Bool.not_false, if_true, if_false, Bool.false_eq_true, Bool.not_eq_true', decide_eq_false_iff_not, bne_iff_ne, ne_eq, Int.reduceEq, Int.reduceLT, Int.reduceLE, Int.reduceGT, Int.reduceNeg, not_false_eq_true, not_true_eq_false, decide_true, decide_false, eq_self, and_self, sizeLine_eq, Nat.reduceAdd, Nat.reduceLeDiff, Nat.reduceLT, Nat.reduceEqDiff, List.cons_append, List.nil_append, lst1_is, strD, dicD, dicOf_dat, keyOf_str, keyOf_int, kpairs, pKey, pIsN_non, pNotN_non, pIsN_dic, pNotN_dic, pInS_str, seqOf_lst, seqOf_tup, strsOf, strKeys, keyP, List.map_cons, List.map_nil, Option.bind_some, Nat.reduceBEq, ct0, ct1, Bool.true_eq_false, Int.natCast_one, Int.natCast_zero, Int.cast_ofNat_Int, hS]
  split
  · rename_i h0
    simp -dsimp only [↓r_var, ↓r_K, ↓r_aNil, ↓r_aCons, ↓r_op, ↓r_dat, ↓r_tup, ↓r_lst, ↓r_lstM, ↓r_call, ↓r_cm, ↓r_un, ↓r_negI, ↓r_if, ↓r_val, ↓r_and, ↓r_or, ↓r_not, ↓r_yes, ↓r_andV, ↓r_orV, ↓r_notV, ↓r_fld, ↓r_meth, ↓r_prop, ↓r_ix_lst, ↓r_ix_tup, ↓r_ix_loc, ↓r_len_lst, ↓r_len_tup, ↓r_fm1, ↓r_fm2, ↓r_all, ↓r_app, ↓r_ext, ↓o_seq, ↓o_nil, ↓o_ret, ↓o_set, ↓o_expr, ↓o_if, ↓o_bad, ↓o_par, ↓o_par3, ↓o_asg, ↓o_gNm, ↓o_gTp, ↓o_gsNil, ↓o_gsCons, ↓o_gSb, ↓o_retF, ↓o_fld, ↓o_for, ↓r_iSeq, ↓r_iTpl, ↓r_iRg, ↓r_lc, ↓o_frz, ↓r_iEnm, ↓r_reprB_bl, ↓r_reprB_lst, ↓r_chain, ↓r_iStrM, ↓r_iKeysD, ↓r_iItemsD, ↓r_gDGet, ↓r_gDIn, ↓r_pairs0, ↓r_pairs1, ↓r_disp, ↓r_dc, ↓dcL_nil, ↓r_sortD, ↓r_sortL, ↓r_dictD, ↓r_dictL, ↓r_listD, ↓r_listL, ↓r_listT, ↓r_lenDd, ↓r_len_str, ↓r_jn, ↓r_sl, ↓r_pNone, ↓r_pSome, ↓r_gSlS, ↓r_gSlL, ↓r_ix_str, ↓r_dget2, ↓is_non_int, ↓is_non_bool, ↓is_non_str, ↓is_non_list, ↓is_non_tuple, ↓is_non_dict, ↓is_non_cls, ↓is_bl_int, ↓is_bl_bool, ↓is_bl_str, ↓is_bl_list, ↓is_bl_tuple, ↓is_bl_dict, ↓is_bl_cls, ↓is_int_int, ↓is_int_bool, ↓is_int_str, ↓is_int_list, ↓is_int_tuple, ↓is_int_dict, ↓is_int_cls, ↓is_str_int, ↓is_str_bool, ↓is_str_str, ↓is_str_list, ↓is_str_tuple, ↓is_str_dict, ↓is_str_cls, ↓is_lst_int, ↓is_lst_bool, ↓is_lst_str, ↓is_lst_list, ↓is_lst_tuple, ↓is_lst_dict, ↓is_lst_cls, ↓is_tup_int, ↓is_tup_bool, ↓is_tup_str, ↓is_tup_list, ↓is_tup_tuple, ↓is_tup_dict, ↓is_tup_cls, ↓is_dic_int, ↓is_dic_bool, ↓is_dic_str, ↓is_dic_list, ↓is_dic_tuple, ↓is_dic_dict, ↓is_dic_cls, ↓is_obj_int, ↓is_obj_bool, ↓is_obj_str, ↓is_obj_list, ↓is_obj_tuple, ↓is_obj_dict, ↓is_obj_cls,
  opt_some, opt_ite, opt_ite2, rs_ok, List.getElem?_cons_zero, List.getElem?_cons_succ, List.set_cons_zero, List.set_cons_succ, lstIn_lst, objIn_obj, objOf_dat, objOf_loc, two?, three?, datOf, locIx, intOf, intL, lstD, tupD, blOf, wipeP,
  pAdd_int, pAdd_str, pSub, pMul, pMod, pDiv, pLt, pLe, pGt, pGe, pInt, pAbs, pMax, pMin, pDivmod, tru_bl, tru_int, tru_non, dats, Option.map_some, decide_eq_true_eq, atI0, atI1, atI2, ixN0, ixN1, pEqF_int, pEqT_int, pEqF_str, pEqT_str, p10_4, p10_5, p10_9, p10_10, p10_18, p10_19, p10_29, p10_30, List.length_cons, List.length_nil, true_and, and_true, Bool.not_true, Bool.not_false, if_true, if_false, Bool.false_eq_true, Bool.not_eq_true', decide_eq_false_iff_not, bne_iff_ne, ne_eq, Int.reduceEq, Int.reduceLT, Int.reduceLE, Int.reduceGT, Int.reduceNeg, not_false_eq_true, not_true_eq_false, decide_true, decide_false, eq_self, and_self, sizeLine_eq, Nat.reduceAdd, Nat.reduceLeDiff, Nat.reduceLT, Nat.reduceEqDiff, List.cons_append, List.nil_append, lst1_is, strD, dicD, dicOf_dat, keyOf_str, keyOf_int, kpairs, pKey, pIsN_non, pNotN_non, pIsN_dic, pNotN_dic, pInS_str, seqOf_lst, seqOf_tup, strsOf, strKeys, keyP, List.map_cons, List.map_nil, Option.bind_some, Nat.reduceBEq, ct0, ct1, Bool.true_eq_false, Int.natCast_one, Int.natCast_zero, Int.cast_ofNat_Int, hS, np, hm]
    refine h _ _ (Int.emod_nonneg _ (by omega)) (Int.emod_lt_of_pos _ hm) (J.set (Int.ediv_nonneg ha (by omega)))
  · have hne : many ≠ 0 := by omega
    generalize hc : (b * 44497 + 27011).fmod 2147483563 = c
    have c0 : 0 ≤ c := by rw [← hc]; exact Int.fmod_nonneg_of_pos _ (by decide)
    have c1 : c < 2147483563 := by rw [← hc]; exact Int.fmod_lt_of_pos _ (by decide)
    have hg : ∀ x : Cont, (List.set S n x)[n]? = some x := fun x => List.getElem?_set_self hn
    have m1 : mulOk b 44497 = true := mulR (by decide)
    have m2 : mulOk c c = true := mulR (by omega)
    have d1 : ∀ z : Int, divOk z 17 = true := fun z => by
      unfold divOk
      rw [divS (by decide) (by decide +kernel)]
      rfl
    simp -dsimp only [↓r_var, ↓r_K, ↓r_aNil, ↓r_aCons, ↓r_op, ↓r_dat, ↓r_tup, ↓r_lst, ↓r_lstM, ↓r_call, ↓r_cm, ↓r_un, ↓r_negI, ↓r_if, ↓r_val, ↓r_and, ↓r_or, ↓r_not, ↓r_yes, ↓r_andV, ↓r_orV, ↓r_notV, ↓r_fld, ↓r_meth, ↓r_prop, ↓r_ix_lst, ↓r_ix_tup, ↓r_ix_loc, ↓r_len_lst, ↓r_len_tup, ↓r_fm1, ↓r_fm2, ↓r_all, ↓r_app, ↓r_ext, ↓o_seq, ↓o_nil, ↓o_ret, ↓o_set, ↓o_expr, ↓o_if, ↓o_bad, ↓o_par, ↓o_par3, ↓o_asg, ↓o_gNm, ↓o_gTp, ↓o_gsNil, ↓o_gsCons, ↓o_gSb, ↓o_retF, ↓o_fld, ↓o_for, ↓r_iSeq, ↓r_iTpl, ↓r_iRg, ↓r_lc, ↓o_frz, ↓r_iEnm, ↓r_reprB_bl, ↓r_reprB_lst, ↓r_chain, ↓r_iStrM, ↓r_iKeysD, ↓r_iItemsD, ↓r_gDGet, ↓r_gDIn, ↓r_pairs0, ↓r_pairs1, ↓r_disp, ↓r_dc, ↓dcL_nil, ↓r_sortD, ↓r_sortL, ↓r_dictD, ↓r_dictL, ↓r_listD, ↓r_listL, ↓r_listT, ↓r_lenDd, ↓r_len_str, ↓r_jn, ↓r_sl, ↓r_pNone, ↓r_pSome, ↓r_gSlS, ↓r_gSlL, ↓r_ix_str, ↓r_dget2, ↓is_non_int, ↓is_non_bool, ↓is_non_str, ↓is_non_list, ↓is_non_tuple, ↓is_non_dict, ↓is_non_cls, ↓is_bl_int, ↓is_bl_bool, ↓is_bl_str, ↓is_bl_list, ↓is_bl_tuple, ↓is_bl_dict, ↓is_bl_cls, ↓is_int_int, ↓is_int_bool, ↓is_int_str, ↓is_int_list, ↓is_int_tuple, ↓is_int_dict, ↓is_int_cls, ↓is_str_int, ↓is_str_bool, ↓is_str_str, ↓is_str_list, ↓is_str_tuple, ↓is_str_dict, ↓is_str_cls, ↓is_lst_int, ↓is_lst_bool, ↓is_lst_str, ↓is_lst_list, ↓is_lst_tuple, ↓is_lst_dict, ↓is_lst_cls, ↓is_tup_int, ↓is_tup_bool, ↓is_tup_str, ↓is_tup_list, ↓is_tup_tuple, ↓is_tup_dict, ↓is_tup_cls, ↓is_dic_int, ↓is_dic_bool, ↓is_dic_str, ↓is_dic_list, ↓is_dic_tuple, ↓is_dic_dict, ↓is_dic_cls, ↓is_obj_int, ↓is_obj_bool, ↓is_obj_str, ↓is_obj_list, ↓is_obj_tuple, ↓is_obj_dict, ↓is_obj_cls,
  opt_some, opt_ite, opt_ite2, rs_ok, List.getElem?_cons_zero, List.getElem?_cons_succ, List.set_cons_zero, List.set_cons_succ, lstIn_lst, objIn_obj, objOf_dat, objOf_loc, two?, three?, datOf, locIx, intOf, intL, lstD, tupD, blOf, wipeP,
  pAdd_int, pAdd_str, pSub, pMul, pMod, pDiv, pLt, pLe, pGt, pGe, pInt, pAbs, pMax, pMin, pDivmod, tru_bl, tru_int, tru_non, dats, Option.map_some, decide_eq_true_eq, atI0, atI1, atI2, ixN0, ixN1, pEqF_int, pEqT_int, pEqF_str, pEqT_str, p10_4, p10_5, p10_9, p10_10, p10_18, p10_19, p10_29, p10_30, List.length_cons, List.length_nil, true_and, and_true, Bool.not_true, Bool.not_false, if_true, if_false, Bool.false_eq_true, Bool.not_eq_true', decide_eq_false_iff_not, bne_iff_ne, ne_eq, Int.reduceEq, Int.reduceLT, Int.reduceLE, Int.reduceGT, Int.reduceNeg, not_false_eq_true, not_true_eq_false, decide_true, decide_false, eq_self, and_self, sizeLine_eq, Nat.reduceAdd, Nat.reduceLeDiff, Nat.reduceLT, Nat.reduceEqDiff, List.cons_append, List.nil_append, lst1_is, strD, dicD, dicOf_dat, keyOf_str, keyOf_int, kpairs, pKey, pIsN_non, pNotN_non, pIsN_dic, pNotN_dic, pInS_str, seqOf_lst, seqOf_tup, strsOf, strKeys, keyP, List.map_cons, List.map_nil, Option.bind_some, Nat.reduceBEq, ct0, ct1, Bool.true_eq_false, Int.natCast_one, Int.natCast_zero, Int.cast_ofNat_Int, hS, hg, m1, m2, d1, hne]
    refine h _ _ (Int.fmod_nonneg_of_pos _ hm) (Int.fmod_lt_of_pos _ hm) ?_
    exact J.set ha
theorem run_choice {x0 x1 : Val} {S : Store} {Q E t} : RsP (M_law_choice [x0, x1] S) Q E t = OuP (b_law_choice [some x0, some x1] S) (fun _ S1 => Q (.dat .non) S1) Q no2 no2 (fun c fs _ S1 => E c fs S1) .mk := run_pos rfl rfl
theorem m_choice {n : Nat} {xs : List P} {T S : Store} {Q E t} (J : JarF n T S) (hx : xs ≠ []) (hl : xs.length ≤ 1000)
    (h : ∀ x S', x ∈ xs → JarF n T S' → Q (.dat x) S') : RsP (M_law_choice [.loc n, .dat (.lst xs)] S) Q E t := by
  rw [run_choice]
  unfold b_law_choice
  walk_at "dl"
  have : 0 < xs.length := List.length_pos_iff.mpr hx
  refine m_dip J (by omega) (by omega) fun d S' h0 h1 J' => ?_
  obtain ⟨x, e, hm⟩ := atI_in h0 h1
  simp -dsimp only [↓r_var, ↓r_K, ↓r_aNil, ↓r_aCons, ↓r_op, ↓r_dat, ↓r_tup, ↓r_lst, ↓r_lstM, ↓r_call, ↓r_cm, ↓r_un, ↓r_negI, ↓r_if, ↓r_val, ↓r_and, ↓r_or, ↓r_not, ↓r_yes, ↓r_andV, ↓r_orV, ↓r_notV, ↓r_fld, ↓r_meth, ↓r_prop, ↓r_ix_lst, ↓r_ix_tup, ↓r_ix_loc, ↓r_len_lst, ↓r_len_tup, ↓r_fm1, ↓r_fm2, ↓r_all, ↓r_app, ↓r_ext, ↓o_seq, ↓o_nil, ↓o_ret, ↓o_set, ↓o_expr, ↓o_if, ↓o_bad, ↓o_par, ↓o_par3, ↓o_asg, ↓o_gNm, ↓o_gTp, ↓o_gsNil, ↓o_gsCons, ↓o_gSb, ↓o_retF, ↓o_fld, ↓o_for, ↓r_iSeq, ↓r_iTpl, ↓r_iRg, ↓r_lc, ↓o_frz, ↓r_iEnm, ↓r_reprB_bl, ↓r_reprB_lst, ↓r_chain, ↓r_iStrM, ↓r_iKeysD, ↓r_iItemsD, ↓r_gDGet, ↓r_gDIn, ↓r_pairs0, ↓r_pairs1, ↓r_disp, ↓r_dc, ↓dcL_nil, ↓r_sortD, ↓r_sortL, ↓r_dictD, ↓r_dictL, ↓r_listD, ↓r_listL, ↓r_listT, ↓r_lenDd, ↓r_len_str, ↓r_jn, ↓r_sl, ↓r_pNone, ↓r_pSome, ↓r_gSlS, ↓r_gSlL, ↓r_ix_str, ↓r_dget2, ↓is_non_int, ↓is_non_bool, ↓is_non_str, ↓is_non_list, ↓is_non_tuple, ↓is_non_dict, ↓is_non_cls, ↓is_bl_int, ↓is_bl_bool, ↓is_bl_str, ↓is_bl_list, ↓is_bl_tuple, ↓is_bl_dict, ↓is_bl_cls, ↓is_int_int, ↓is_int_bool, ↓is_int_str, ↓is_int_list, ↓is_int_tuple, ↓is_int_dict, ↓is_int_cls, ↓is_str_int, ↓is_str_bool, ↓is_str_str, ↓is_str_list, ↓is_str_tuple, ↓is_str_dict, ↓is_str_cls, ↓is_lst_int, ↓is_lst_bool, ↓is_lst_str, ↓is_lst_list, ↓is_lst_tuple, ↓is_lst_dict, ↓is_lst_cls, ↓is_tup_int, ↓is_tup_bool, ↓is_tup_str, ↓is_tup_list, ↓is_tup_tuple, ↓is_tup_dict, ↓is_tup_cls, ↓is_dic_int, ↓is_dic_bool, ↓is_dic_str, ↓is_dic_list, ↓is_dic_tuple, ↓is_dic_dict, ↓is_dic_cls, ↓is_obj_int, ↓is_obj_bool, ↓is_obj_str, ↓is_obj_list, ↓is_obj_tuple, ↓is_obj_dict, ↓is_obj_cls,
  opt_some, opt_ite, opt_ite2, rs_ok, List.getElem?_cons_zero, List.getElem?_cons_succ, List.set_cons_zero, List.set_cons_succ, lstIn_lst, objIn_obj, objOf_dat, objOf_loc, two?, three?, datOf, locIx, intOf, intL, lstD, tupD, blOf, wipeP,
  pAdd_int, pAdd_str, pSub, pMul, pMod, pDiv, pLt, pLe, pGt, pGe, pInt, pAbs, pMax, pMin, pDivmod, tru_bl, tru_int, tru_non, dats, Option.map_some, decide_eq_true_eq, atI0, atI1, atI2, ixN0, ixN1, pEqF_int, pEqT_int, pEqF_str, pEqT_str, p10_4, p10_5, p10_9, p10_10, p10_18, p10_19, p10_29, p10_30, List.length_cons, List.length_nil, true_and, and_true, Bool.not_true, Bool.not_false, if_true, if_false, Bool.false_eq_true, Bool.not_eq_true', decide_eq_false_iff_not, bne_iff_ne, ne_eq, Int.reduceEq, Int.reduceLT, Int.reduceLE, Int.reduceGT, Int.reduceNeg, not_false_eq_true, not_true_eq_false, decide_true, decide_false, eq_self, and_self, sizeLine_eq, Nat.reduceAdd, Nat.reduceLeDiff, Nat.reduceLT, Nat.reduceEqDiff, List.cons_append, List.nil_append, lst1_is, strD, dicD, dicOf_dat, keyOf_str, keyOf_int, kpairs, pKey, pIsN_non, pNotN_non, pIsN_dic, pNotN_dic, pInS_str, seqOf_lst, seqOf_tup, strsOf, strKeys, keyP, List.map_cons, List.map_nil, Option.bind_some, Nat.reduceBEq, ct0, ct1, Bool.true_eq_false, Int.natCast_one, Int.natCast_zero, Int.cast_ofNat_Int, e]
  exact h x S' hm J'
theorem run_integer {x0 : Val} {S : Store} {Q E t} : RsP (M_law_integer [x0] S) Q E t = OuP (b_law_integer [some x0, none, none] S) (fun _ S1 => Q (.dat .non) S1) Q no2 no2 (fun c fs _ S1 => E c fs S1) .mk := run_pos rfl rfl
theorem m_integer {n : Nat} {T S : Store} {Q E t} (J : JarF n T S)
    (h : ∀ x S', Bd 97 x → JarF n T S' → Q (.dat (.int x)) S') : RsP (M_law_integer [.loc n] S) Q E t := by
  rw [run_integer]
  unfold b_law_integer
  walk_at "dl"
  refine m_choice J (by simp) (by simp) fun x S1 hx J1 => ?_
  have hx' : ∃ z : Int, x = .int z ∧ 0 < z ∧ z ≤ 100000000000000000000000000000 ∧ (z < 100000000000000000000000000000 ∨ z = 100000000000000000000000000000) := by
    simp only [List.mem_cons, List.mem_nil_iff, or_false] at hx
    rcases hx with rfl | rfl | rfl | rfl | rfl | rfl | rfl <;> exact ⟨_, rfl, by decide, by decide, by decide⟩
  obtain ⟨z, rfl, z0, z1, _⟩ := hx'
  walk_at "dl"
  refine m_dip J1 z0 (by omega) fun d S2 h0 h1 J2 => ?_
  walk_at "dl"
  have fin : ∀ (y : Int) (S3 : Store), 0 ≤ y → y < 100000000000000000000000000000 → JarF n T S3 → RsP (M_law_dip [.loc n, .dat (.int 2)] S3) (fun x S4 => ∃ d, x = .dat (.int d) ∧ Q (.dat (.int y)) S4 ∧ Q (.dat (.int (-y))) S4) E .mk := by
    intro y S3 y0 y1 J3
    refine m_dip J3 (by decide) (by decide) fun d S4 _ _ J4 => ⟨d, rfl, h _ _ (bd97 (by omega) (by omega)) J4, h _ _ (bd97 (by omega) (by omega)) J4⟩
  split
  · split
    · have m1 : ∀ d : Int, mulOk d 10000000000000000000 = true := fun d => mulR (by decide)
      have m2 : ∀ d : Int, mulOk d 1000000000 = true := fun d => mulR (by decide)
      simp -dsimp only [↓r_var, ↓r_K, ↓r_aNil, ↓r_aCons, ↓r_op, ↓r_dat, ↓r_tup, ↓r_lst, ↓r_lstM, ↓r_call, ↓r_cm, ↓r_un, ↓r_negI, ↓r_if, ↓r_val, ↓r_and, ↓r_or, ↓r_not, ↓r_yes, ↓r_andV, ↓r_orV, ↓r_notV, ↓r_fld, ↓r_meth, ↓r_prop, ↓r_ix_lst, ↓r_ix_tup, ↓r_ix_loc, ↓r_len_lst, ↓r_len_tup, ↓r_fm1, ↓r_fm2, ↓r_all, ↓r_app, ↓r_ext, ↓o_seq, ↓o_nil, ↓o_ret, ↓o_set, ↓o_expr, ↓o_if, ↓o_bad, ↓o_par, ↓o_par3, ↓o_asg, ↓o_gNm, ↓o_gTp, ↓o_gsNil, ↓o_gsCons, ↓o_gSb, ↓o_retF, ↓o_fld, ↓o_for, ↓r_iSeq, ↓r_iTpl, ↓r_iRg, ↓r_lc, ↓o_frz, ↓r_iEnm, ↓r_reprB_bl, ↓r_reprB_lst, ↓r_chain, ↓r_iStrM, ↓r_iKeysD, ↓r_iItemsD, ↓r_gDGet, ↓r_gDIn, ↓r_pairs0, ↓r_pairs1, ↓r_disp, ↓r_dc, ↓dcL_nil, ↓r_sortD, ↓r_sortL, ↓r_dictD, ↓r_dictL, ↓r_listD, ↓r_listL, ↓r_listT, ↓r_lenDd, ↓r_len_str, ↓r_jn, ↓r_sl, ↓r_pNone, ↓r_pSome, ↓r_gSlS, ↓r_gSlL, ↓r_ix_str, ↓r_dget2, ↓is_non_int, ↓is_non_bool, ↓is_non_str, ↓is_non_list, ↓is_non_tuple, ↓is_non_dict, ↓is_non_cls, ↓is_bl_int, ↓is_bl_bool, ↓is_bl_str, ↓is_bl_list, ↓is_bl_tuple, ↓is_bl_dict, ↓is_bl_cls, ↓is_int_int, ↓is_int_bool, ↓is_int_str, ↓is_int_list, ↓is_int_tuple, ↓is_int_dict, ↓is_int_cls, ↓is_str_int, ↓is_str_bool, ↓is_str_str, ↓is_str_list, ↓is_str_tuple, ↓is_str_dict, ↓is_str_cls, ↓is_lst_int, ↓is_lst_bool, ↓is_lst_str, ↓is_lst_list, ↓is_lst_tuple, ↓is_lst_dict, ↓is_lst_cls, ↓is_tup_int, ↓is_tup_bool, ↓is_tup_str, ↓is_tup_list, ↓is_tup_tuple, ↓is_tup_dict, ↓is_tup_cls, ↓is_dic_int, ↓is_dic_bool, ↓is_dic_str, ↓is_dic_list, ↓is_dic_tuple, ↓is_dic_dict, ↓is_dic_cls, ↓is_obj_int, ↓is_obj_bool, ↓is_obj_str, ↓is_obj_list, ↓is_obj_tuple, ↓is_obj_dict, ↓is_obj_cls,
  opt_some, opt_ite, opt_ite2, rs_ok, List.getElem?_cons_zero, List.getElem?_cons_succ, List.set_cons_zero, List.set_cons_succ, lstIn_lst, objIn_obj, objOf_dat, objOf_loc, two?, three?, datOf, locIx, intOf, intL, lstD, tupD, blOf, wipeP,
  pAdd_int, pAdd_str, pSub, pMul, pMod, pDiv, pLt, pLe, pGt, pGe, pInt, pAbs, pMax, pMin, pDivmod, tru_bl, tru_int, tru_non, dats, Option.map_some, decide_eq_true_eq, atI0, atI1, atI2, ixN0, ixN1, pEqF_int, pEqT_int, pEqF_str, pEqT_str, p10_4, p10_5, p10_9, p10_10, p10_18, p10_19, p10_29, p10_30, List.length_cons, List.length_nil, true_and, and_true, Bool.not_true, Bool.not_false, if_true, if_false, Bool.false_eq_true, Bool.not_eq_true', decide_eq_false_iff_not, bne_iff_ne, ne_eq, Int.reduceEq, Int.reduceLT, Int.reduceLE, Int.reduceGT, Int.reduceNeg, not_false_eq_true, not_true_eq_false, decide_true, decide_false, eq_self, and_self, sizeLine_eq, Nat.reduceAdd, Nat.reduceLeDiff, Nat.reduceLT, Nat.reduceEqDiff, List.cons_append, List.nil_append, lst1_is, strD, dicD, dicOf_dat, keyOf_str, keyOf_int, kpairs, pKey, pIsN_non, pNotN_non, pIsN_dic, pNotN_dic, pInS_str, seqOf_lst, seqOf_tup, strsOf, strKeys, keyP, List.map_cons, List.map_nil, Option.bind_some, Nat.reduceBEq, ct0, ct1, Bool.true_eq_false, Int.natCast_one, Int.natCast_zero, Int.cast_ofNat_Int, m1, m2]
      refine m_dip J2 (by decide) (by decide) fun d2 S3 h2 h3 J3 => ?_
      simp -dsimp only [↓r_var, ↓r_K, ↓r_aNil, ↓r_aCons, ↓r_op, ↓r_dat, ↓r_tup, ↓r_lst, ↓r_lstM, ↓r_call, ↓r_cm, ↓r_un, ↓r_negI, ↓r_if, ↓r_val, ↓r_and, ↓r_or, ↓r_not, ↓r_yes, ↓r_andV, ↓r_orV, ↓r_notV, ↓r_fld, ↓r_meth, ↓r_prop, ↓r_ix_lst, ↓r_ix_tup, ↓r_ix_loc, ↓r_len_lst, ↓r_len_tup, ↓r_fm1, ↓r_fm2, ↓r_all, ↓r_app, ↓r_ext, ↓o_seq, ↓o_nil, ↓o_ret, ↓o_set, ↓o_expr, ↓o_if, ↓o_bad, ↓o_par, ↓o_par3, ↓o_asg, ↓o_gNm, ↓o_gTp, ↓o_gsNil, ↓o_gsCons, ↓o_gSb, ↓o_retF, ↓o_fld, ↓o_for, ↓r_iSeq, ↓r_iTpl, ↓r_iRg, ↓r_lc, ↓o_frz, ↓r_iEnm, ↓r_reprB_bl, ↓r_reprB_lst, ↓r_chain, ↓r_iStrM, ↓r_iKeysD, ↓r_iItemsD, ↓r_gDGet, ↓r_gDIn, ↓r_pairs0, ↓r_pairs1, ↓r_disp, ↓r_dc, ↓dcL_nil, ↓r_sortD, ↓r_sortL, ↓r_dictD, ↓r_dictL, ↓r_listD, ↓r_listL, ↓r_listT, ↓r_lenDd, ↓r_len_str, ↓r_jn, ↓r_sl, ↓r_pNone, ↓r_pSome, ↓r_gSlS, ↓r_gSlL, ↓r_ix_str, ↓r_dget2, ↓is_non_int, ↓is_non_bool, ↓is_non_str, ↓is_non_list, ↓is_non_tuple, ↓is_non_dict, ↓is_non_cls, ↓is_bl_int, ↓is_bl_bool, ↓is_bl_str, ↓is_bl_list, ↓is_bl_tuple, ↓is_bl_dict, ↓is_bl_cls, ↓is_int_int, ↓is_int_bool, ↓is_int_str, ↓is_int_list, ↓is_int_tuple, ↓is_int_dict, ↓is_int_cls, ↓is_str_int, ↓is_str_bool, ↓is_str_str, ↓is_str_list, ↓is_str_tuple, ↓is_str_dict, ↓is_str_cls, ↓is_lst_int, ↓is_lst_bool, ↓is_lst_str, ↓is_lst_list, ↓is_lst_tuple, ↓is_lst_dict, ↓is_lst_cls, ↓is_tup_int, ↓is_tup_bool, ↓is_tup_str, ↓is_tup_list, ↓is_tup_tuple, ↓is_tup_dict, ↓is_tup_cls, ↓is_dic_int, ↓is_dic_bool, ↓is_dic_str, ↓is_dic_list, ↓is_dic_tuple, ↓is_dic_dict, ↓is_dic_cls, ↓is_obj_int, ↓is_obj_bool, ↓is_obj_str, ↓is_obj_list, ↓is_obj_tuple, ↓is_obj_dict, ↓is_obj_cls,
  opt_some, opt_ite, opt_ite2, rs_ok, List.getElem?_cons_zero, List.getElem?_cons_succ, List.set_cons_zero, List.set_cons_succ, lstIn_lst, objIn_obj, objOf_dat, objOf_loc, two?, three?, datOf, locIx, intOf, intL, lstD, tupD, blOf, wipeP,
  pAdd_int, pAdd_str, pSub, pMul, pMod, pDiv, pLt, pLe, pGt, pGe, pInt, pAbs, pMax, pMin, pDivmod, tru_bl, tru_int, tru_non, dats, Option.map_some, decide_eq_true_eq, atI0, atI1, atI2, ixN0, ixN1, pEqF_int, pEqT_int, pEqF_str, pEqT_str, p10_4, p10_5, p10_9, p10_10, p10_18, p10_19, p10_29, p10_30, List.length_cons, List.length_nil, true_and, and_true, Bool.not_true, Bool.not_false, if_true, if_false, Bool.false_eq_true, Bool.not_eq_true', decide_eq_false_iff_not, bne_iff_ne, ne_eq, Int.reduceEq, Int.reduceLT, Int.reduceLE, Int.reduceGT, Int.reduceNeg, not_false_eq_true, not_true_eq_false, decide_true, decide_false, eq_self, and_self, sizeLine_eq, Nat.reduceAdd, Nat.reduceLeDiff, Nat.reduceLT, Nat.reduceEqDiff, List.cons_append, List.nil_append, lst1_is, strD, dicD, dicOf_dat, keyOf_str, keyOf_int, kpairs, pKey, pIsN_non, pNotN_non, pIsN_dic, pNotN_dic, pInS_str, seqOf_lst, seqOf_tup, strsOf, strKeys, keyP, List.map_cons, List.map_nil, Option.bind_some, Nat.reduceBEq, ct0, ct1, Bool.true_eq_false, Int.natCast_one, Int.natCast_zero, Int.cast_ofNat_Int, m1, m2]
      refine m_dip J3 (by decide) (by decide) fun d3 S4 h4 h5 J4 => ?_
      walk_at "dl"
      refine (fin (d * 10000000000000000000 + d2 * 1000000000 + d3) S4 (by omega) (by omega) J4).mono (fun x S5 ⟨d, e, q1, q2⟩ => ?_) (fun _ _ _ h => h)
      subst e
      walk_at "dl"
      split <;> assumption
    · walk_at "dl"
      refine (fin d S2 (by omega) (by omega) J2).mono (fun x S5 ⟨d, e, q1, q2⟩ => ?_) (fun _ _ _ h => h)
      subst e
      walk_at "dl"
      split <;> assumption
  · walk_at "dl"
    refine (fin d S2 (by omega) (by omega) J2).mono (fun x S5 ⟨d, e, q1, q2⟩ => ?_) (fun _ _ _ h => h)
    subst e
    walk_at "dl"
    split <;> assumption
end K12
set_option Elab.async false
set_option linter.all false
set_option maxRecDepth 100000
set_option maxHeartbeats 2000000
namespace K12
open PySem L2 DL QR
local macro_rules | `(tactic| walk_at "dl") => `(tactic| try simp -dsimp only [↓r_var, ↓r_K, ↓r_aNil, ↓r_aCons, ↓r_op, ↓r_dat, ↓r_tup, ↓r_lst, ↓r_lstM, ↓r_call, ↓r_cm, ↓r_un, ↓r_negI, ↓r_if, ↓r_val, ↓r_and, ↓r_or, ↓r_not, ↓r_yes, ↓r_andV, ↓r_orV, ↓r_notV, ↓r_fld, ↓r_meth, ↓r_prop, ↓r_ix_lst, ↓r_ix_tup, ↓r_ix_loc, ↓r_len_lst, ↓r_len_tup, ↓r_fm1, ↓r_fm2, ↓r_all, ↓r_app, ↓r_ext, ↓o_seq, ↓o_nil, ↓o_ret, ↓o_set, ↓o_expr, ↓o_if, ↓o_bad, ↓o_par, ↓o_par3, ↓o_asg, ↓o_gNm, ↓o_gTp, ↓o_gsNil, ↓o_gsCons, ↓o_gSb, ↓o_retF, ↓o_fld, ↓o_for, ↓r_iSeq, ↓r_iTpl, ↓r_iRg, ↓r_lc, ↓o_frz, ↓r_iEnm, ↓r_reprB_bl, ↓r_reprB_lst, ↓r_chain, ↓r_iStrM, ↓r_iKeysD, ↓r_iItemsD, ↓r_gDGet, ↓r_gDIn, ↓r_pairs0, ↓r_pairs1, ↓r_disp, ↓r_dc, ↓dcL_nil, ↓r_sortD, ↓r_sortL, ↓r_dictD, ↓r_dictL, ↓r_listD, ↓r_listL, ↓r_listT, ↓r_lenDd, ↓r_len_str, ↓r_jn, ↓r_sl, ↓r_pNone, ↓r_pSome, ↓r_gSlS, ↓r_gSlL, ↓r_ix_str, ↓r_dget2, ↓is_non_int, ↓is_non_bool, ↓is_non_str, ↓is_non_list, ↓is_non_tuple, ↓is_non_dict, ↓is_non_cls, ↓is_bl_int, ↓is_bl_bool, ↓is_bl_str, ↓is_bl_list, ↓is_bl_tuple, ↓is_bl_dict, ↓is_bl_cls, ↓is_int_int, ↓is_int_bool, ↓is_int_str, ↓is_int_list, ↓is_int_tuple, ↓is_int_dict, ↓is_int_cls, ↓is_str_int, ↓is_str_bool, ↓is_str_str, ↓is_str_list, ↓is_str_tuple, ↓is_str_dict, ↓is_str_cls, ↓is_lst_int, ↓is_lst_bool, ↓is_lst_str, ↓is_lst_list, ↓is_lst_tuple, ↓is_lst_dict, ↓is_lst_cls, ↓is_tup_int, ↓is_tup_bool, ↓is_tup_str, ↓is_tup_list, ↓is_tup_tuple, ↓is_tup_dict, ↓is_tup_cls, ↓is_dic_int, ↓is_dic_bool, ↓is_dic_str, ↓is_dic_list, ↓is_dic_tuple, ↓is_dic_dict, ↓is_dic_cls, ↓is_obj_int, ↓is_obj_bool, ↓is_obj_str, ↓is_obj_list, ↓is_obj_tuple, ↓is_obj_dict, ↓is_obj_cls,
  opt_some, opt_ite, opt_ite2, rs_ok, List.getElem?_cons_zero, List.getElem?_cons_succ, List.set_cons_zero, List.set_cons_succ, lstIn_lst, objIn_obj, objOf_dat, objOf_loc, two?, three?, datOf, locIx, intOf, intL, lstD, tupD, blOf, wipeP,
  pAdd_int, pAdd_str, pSub, pMul, pMod, pDiv, pLt, pLe, pGt, pGe, pInt, pAbs, pMax, pMin, pDivmod, tru_bl, tru_int, tru_non, dats, Option.map_some, decide_eq_true_eq, atI0, atI1, atI2, ixN0, ixN1, pEqF_int, pEqT_int, pEqF_str, pEqT_str, p10_4, p10_5, p10_9, p10_10, p10_18, p10_19, p10_29, p10_30, List.length_cons, List.length_nil, true_and, and_true, Bool.not_true, Bool.not_false, if_true, if_false, Bool.false_eq_true, Bool.not_eq_true', decide_eq_false_iff_not, bne_iff_ne, ne_eq, Int.reduceEq, Int.reduceLT, Int.reduceLE, Int.reduceGT, Int.reduceNeg, not_false_eq_true, not_true_eq_false, decide_true, decide_false, eq_self, and_self, sizeLine_eq, Nat.reduceAdd, Nat.reduceLeDiff, Nat.reduceLT, Nat.reduceEqDiff, List.cons_append, List.nil_append, lst1_is, strD, dicD, dicOf_dat, keyOf_str, keyOf_int, kpairs, pKey, pIsN_non, pNotN_non, pIsN_dic, pNotN_dic, pInS_str, seqOf_lst, seqOf_tup, strsOf, strKeys, keyP, List.map_cons, List.map_nil, Option.bind_some, Nat.reduceBEq, ct0, ct1, Bool.true_eq_false, Int.natCast_one, Int.natCast_zero, Int.cast_ofNat_Int])
theorem run_law_common {x0 x1 : Val} {S : Store} {Q E t} : RsP (M_law_common [x0, x1] S) Q E t = OuP (b_law_common [some x0, some x1] S) (fun _ S1 => Q (.dat .non) S1) Q no2 no2 (fun c fs _ S1 => E c fs S1) .mk := run_pos (n := 2) rfl rfl
theorem run_law_lowest {x0 x1 : Val} {S : Store} {Q E t} : RsP (M_law_lowest [x0, x1] S) Q E t = OuP (b_law_lowest [some x0, some x1, none] S) (fun _ S1 => Q (.dat .non) S1) Q no2 no2 (fun c fs _ S1 => E c fs S1) .mk := run_pos (n := 2) rfl rfl
theorem run_law_parts {x0 : Val} {S : Store} {Q E t} : RsP (M_law_parts [x0] S) Q E t = OuP (b_law_parts [some x0, none, none] S) (fun _ S1 => Q (.dat .non) S1) Q no2 no2 (fun c fs _ S1 => E c fs S1) .mk := run_pos (n := 1) rfl rfl
theorem run_law_sum {x0 x1 : Val} {S : Store} {Q E t} : RsP (M_law_sum [x0, x1] S) Q E t = OuP (b_law_sum [some x0, some x1] S) (fun _ S1 => Q (.dat .non) S1) Q no2 no2 (fun c fs _ S1 => E c fs S1) .mk := run_pos (n := 2) rfl rfl
theorem run_law_near {x0 x1 : Val} {S : Store} {Q E t} : RsP (M_law_near [x0, x1] S) Q E t = OuP (b_law_near [some x0, some x1, none, none, none] S) (fun _ S1 => Q (.dat .non) S1) Q no2 no2 (fun c fs _ S1 => E c fs S1) .mk := run_pos (n := 2) rfl rfl
theorem run_is_integer {x0 : Val} {S : Store} {Q E t} : RsP (M_is_integer [x0] S) Q E t = OuP (b_is_integer [some x0] S) (fun _ S1 => Q (.dat .non) S1) Q no2 no2 (fun c fs _ S1 => E c fs S1) .mk := run_pos (n := 1) rfl rfl
theorem run_common_divisor {x0 x1 : Val} {S : Store} {Q E t} : RsP (M_common_divisor [x0, x1] S) Q E t = OuP (b_common_divisor [some x0, some x1] S) (fun _ S1 => Q (.dat .non) S1) Q no2 no2 (fun c fs _ S1 => E c fs S1) .mk := run_pos (n := 2) rfl rfl
theorem run_law_made {x0 x1 : Val} {S : Store} {Q E t} : RsP (M_law_made [x0, x1] S) Q E t = OuP (b_law_made [some x0, some x1, none] S) (fun _ S1 => Q (.dat .non) S1) Q no2 no2 (fun c fs _ S1 => E c fs S1) .mk := run_pos (n := 2) rfl rfl
theorem run_Ratio_DreprD {x0 : Val} {S : Store} {Q E t} : RsP (M_Ratio_DreprD [x0] S) Q E t = OuP (b_Ratio_DreprD [some x0] S) (fun _ S1 => Q (.dat .non) S1) Q no2 no2 (fun c fs _ S1 => E c fs S1) .mk := run_pos (n := 1) rfl rfl
theorem run_is_number {x0 : Val} {S : Store} {Q E t} : RsP (M_is_number [x0] S) Q E t = OuP (b_is_number [some x0] S) (fun _ S1 => Q (.dat .non) S1) Q no2 no2 (fun c fs _ S1 => E c fs S1) .mk := run_pos (n := 1) rfl rfl
theorem run_want_number {x0 : Val} {S : Store} {Q E t} : RsP (M_want_number [x0] S) Q E t = OuP (b_want_number [some x0] S) (fun _ S1 => Q (.dat .non) S1) Q no2 no2 (fun c fs _ S1 => E c fs S1) .mk := run_pos (n := 1) rfl rfl
theorem run_as_ratio {x0 : Val} {S : Store} {Q E t} : RsP (M_as_ratio [x0] S) Q E t = OuP (b_as_ratio [some x0] S) (fun _ S1 => Q (.dat .non) S1) Q no2 no2 (fun c fs _ S1 => E c fs S1) .mk := run_pos (n := 1) rfl rfl
theorem run_Ratio_is_below {x0 x1 : Val} {S : Store} {Q E t} : RsP (M_Ratio_is_below [x0, x1] S) Q E t = OuP (b_Ratio_is_below [some x0, some x1, none] S) (fun _ S1 => Q (.dat .non) S1) Q no2 no2 (fun c fs _ S1 => E c fs S1) .mk := run_pos (n := 2) rfl rfl
theorem run_Ratio_DeqD {x0 x1 : Val} {S : Store} {Q E t} : RsP (M_Ratio_DeqD [x0, x1] S) Q E t = OuP (b_Ratio_DeqD [some x0, some x1] S) (fun _ S1 => Q (.dat .non) S1) Q no2 no2 (fun c fs _ S1 => E c fs S1) .mk := run_pos (n := 2) rfl rfl
theorem run_Form_DeqD {x0 x1 : Val} {S : Store} {Q E t} : RsP (M_Form_DeqD [x0, x1] S) Q E t = OuP (b_Form_DeqD [some x0, some x1] S) (fun _ S1 => Q (.dat .non) S1) Q no2 no2 (fun c fs _ S1 => E c fs S1) .mk := run_pos (n := 2) rfl rfl
theorem run_Ratio_DstrD {x0 : Val} {S : Store} {Q E t} : RsP (M_Ratio_DstrD [x0] S) Q E t = OuP (b_Ratio_DstrD [some x0] S) (fun _ S1 => Q (.dat .non) S1) Q no2 no2 (fun c fs _ S1 => E c fs S1) .mk := run_pos (n := 1) rfl rfl
theorem run_is_name {x0 : Val} {S : Store} {Q E t} : RsP (M_is_name [x0] S) Q E t = OuP (b_is_name [some x0, none] S) (fun _ S1 => Q (.dat .non) S1) Q no2 no2 (fun c fs _ S1 => E c fs S1) .mk := run_pos (n := 1) rfl rfl
theorem run_is_chart {x0 : Val} {S : Store} {Q E t} : RsP (M_is_chart [x0] S) Q E t = OuP (b_is_chart [some x0, none, none] S) (fun _ S1 => Q (.dat .non) S1) Q no2 no2 (fun c fs _ S1 => E c fs S1) .mk := run_pos (n := 1) rfl rfl
theorem run_Ratio_sign {x0 : Val} {S : Store} {Q E t} : RsP (M_Ratio_sign [x0] S) Q E t = OuP (b_Ratio_sign [some x0] S) (fun _ S1 => Q (.dat .non) S1) Q no2 no2 (fun c fs _ S1 => E c fs S1) .mk := run_pos (n := 1) rfl rfl
theorem run_without_zeros {x0 : Val} {S : Store} {Q E t} : RsP (M_without_zeros [x0] S) Q E t = OuP (b_without_zeros [some x0, none, none, none] S) (fun _ S1 => Q (.dat .non) S1) Q no2 no2 (fun c fs _ S1 => E c fs S1) .mk := run_pos (n := 1) rfl rfl
theorem run_law_whole_right {x0 x1 x2 : Val} {S : Store} {Q E t} : RsP (M_law_whole_right [x0, x1, x2] S) Q E t = OuP (b_law_whole_right [some x0, some x1, some x2, none, none, none, none] S) (fun _ S1 => Q (.dat .non) S1) Q no2 no2 (fun c fs _ S1 => E c fs S1) .mk := run_pos (n := 3) rfl rfl
theorem run_law_two_right {x0 x1 x2 x3 : Val} {S : Store} {Q E t} : RsP (M_law_two_right [x0, x1, x2, x3] S) Q E t = OuP (b_law_two_right [some x0, some x1, some x2, some x3, none, none, none] S) (fun _ S1 => Q (.dat .non) S1) Q no2 no2 (fun c fs _ S1 => E c fs S1) .mk := run_pos (n := 4) rfl rfl
theorem run_law_right {x0 : Val} {S : Store} {Q E t} : RsP (M_law_right [x0] S) Q E t = OuP (b_law_right [some x0, none, none, none, none, none, none, none, none, none, none] S) (fun _ S1 => Q (.dat .non) S1) Q no2 no2 (fun c fs _ S1 => E c fs S1) .mk := run_pos (n := 1) rfl rfl
theorem run_law_jar {x0 x1 : Val} {S : Store} {Q E t} : RsP (M_law_jar [x0, x1] S) Q E t = OuP (b_law_jar [some x0, some x1, none] S) (fun _ S1 => Q (.dat .non) S1) Q no2 no2 (fun c fs _ S1 => E c fs S1) .mk := run_pos (n := 2) rfl rfl
theorem run_law {x0 : Val} {S : Store} {Q E t} : RsP (M_law [x0] S) Q E t = OuP (b_law [some x0, none] S) (fun _ S1 => Q (.dat .non) S1) Q no2 no2 (fun c fs _ S1 => E c fs S1) .mk := run_pos (n := 1) rfl rfl
def kInt : P → Bool
  | .int _ => true
  | _ => false
def kNum : P → Bool
  | .int _ => true
  | .obj 0 _ => true
  | _ => false
def okK : P → Prop
  | .cls _ => False
  | .bty _ => False
  | .obj c _ => c = 0 ∨ c = 1
  | .str x => x.length ≤ 10000
  | _ => True
theorem b_isint {x : P} {S : Store} {N : SS} {R : Val → Store → Prop} {B C : SS} {ER : XR} {t} (h : okK x) (hR : R (.dat (.bl (kInt x))) S) : OuP (b_is_integer [some (.dat x)] S) N R B C ER t := by
  unfold b_is_integer
  cases x with
  | cls _ => exact h.elim
  | bty _ => exact h.elim
  | obj c fs =>
    rcases h with rfl | rfl <;> walk_at "dl" <;> exact hR
  | _ => walk_at "dl"; exact hR
theorem e_isint {x : P} {S : Store} (h : okK x) : M_is_integer [.dat x] S = .ok (.dat (.bl (kInt x))) S := by
  refine eq_of_rsp (t := .mk) ?_
  rw [run_is_integer]
  exact b_isint h ⟨rfl, rfl⟩
theorem b_isnum {x : P} {S : Store} {N : SS} {R : Val → Store → Prop} {B C : SS} {ER : XR} {t} (h : okK x) (hR : R (.dat (.bl (kNum x))) S) : OuP (b_is_number [some (.dat x)] S) N R B C ER t := by
  unfold b_is_number
  have e := fun S => e_isint (S := S) h
  cases x with
  | cls _ => exact h.elim
  | bty _ => exact h.elim
  | obj c fs =>
    rcases h with rfl | rfl <;> simp -dsimp only [↓r_var, ↓r_K, ↓r_aNil, ↓r_aCons, ↓r_op, ↓r_dat, ↓r_tup, ↓r_lst, ↓r_lstM, ↓r_call, ↓r_cm, ↓r_un, ↓r_negI, ↓r_if, ↓r_val, ↓r_and, ↓r_or, ↓r_not, ↓r_yes, ↓r_andV, ↓r_orV, ↓r_notV, ↓r_fld, ↓r_meth, ↓r_prop, ↓r_ix_lst, ↓r_ix_tup, ↓r_ix_loc, ↓r_len_lst, ↓r_len_tup, ↓r_fm1, ↓r_fm2, ↓r_all, ↓r_app, ↓r_ext, ↓o_seq, ↓o_nil, ↓o_ret, ↓o_set, ↓o_expr, ↓o_if, ↓o_bad, ↓o_par, ↓o_par3, ↓o_asg, ↓o_gNm, ↓o_gTp, ↓o_gsNil, ↓o_gsCons, ↓o_gSb, ↓o_retF, ↓o_fld, ↓o_for, ↓r_iSeq, ↓r_iTpl, ↓r_iRg, ↓r_lc, ↓o_frz, ↓r_iEnm, ↓r_reprB_bl, ↓r_reprB_lst, ↓r_chain, ↓r_iStrM, ↓r_iKeysD, ↓r_iItemsD, ↓r_gDGet, ↓r_gDIn, ↓r_pairs0, ↓r_pairs1, ↓r_disp, ↓r_dc, ↓dcL_nil, ↓r_sortD, ↓r_sortL, ↓r_dictD, ↓r_dictL, ↓r_listD, ↓r_listL, ↓r_listT, ↓r_lenDd, ↓r_len_str, ↓r_jn, ↓r_sl, ↓r_pNone, ↓r_pSome, ↓r_gSlS, ↓r_gSlL, ↓r_ix_str, ↓r_dget2, ↓is_non_int, ↓is_non_bool, ↓is_non_str, ↓is_non_list, ↓is_non_tuple, ↓is_non_dict, ↓is_non_cls, ↓is_bl_int, ↓is_bl_bool, ↓is_bl_str, ↓is_bl_list, ↓is_bl_tuple, ↓is_bl_dict, ↓is_bl_cls, ↓is_int_int, ↓is_int_bool, ↓is_int_str, ↓is_int_list, ↓is_int_tuple, ↓is_int_dict, ↓is_int_cls, ↓is_str_int, ↓is_str_bool, ↓is_str_str, ↓is_str_list, ↓is_str_tuple, ↓is_str_dict, ↓is_str_cls, ↓is_lst_int, ↓is_lst_bool, ↓is_lst_str, ↓is_lst_list, ↓is_lst_tuple, ↓is_lst_dict, ↓is_lst_cls, ↓is_tup_int, ↓is_tup_bool, ↓is_tup_str, ↓is_tup_list, ↓is_tup_tuple, ↓is_tup_dict, ↓is_tup_cls, ↓is_dic_int, ↓is_dic_bool, ↓is_dic_str, ↓is_dic_list, ↓is_dic_tuple, ↓is_dic_dict, ↓is_dic_cls, ↓is_obj_int, ↓is_obj_bool, ↓is_obj_str, ↓is_obj_list, ↓is_obj_tuple, ↓is_obj_dict, ↓is_obj_cls,
  opt_some, opt_ite, opt_ite2, rs_ok, List.getElem?_cons_zero, List.getElem?_cons_succ, List.set_cons_zero, List.set_cons_succ, lstIn_lst, objIn_obj, objOf_dat, objOf_loc, two?, three?, datOf, locIx, intOf, intL, lstD, tupD, blOf, wipeP,
  pAdd_int, pAdd_str, pSub, pMul, pMod, pDiv, pLt, pLe, pGt, pGe, pInt, pAbs, pMax, pMin, pDivmod, tru_bl, tru_int, tru_non, dats, Option.map_some, decide_eq_true_eq, atI0, atI1, atI2, ixN0, ixN1, pEqF_int, pEqT_int, pEqF_str, pEqT_str, p10_4, p10_5, p10_9, p10_10, p10_18, p10_19, p10_29, p10_30, List.length_cons, List.length_nil, true_and, and_true, Bool.not_true, Bool.not_false, if_true, if_false, Bool.false_eq_true, Bool.not_eq_true', decide_eq_false_iff_not, bne_iff_ne, ne_eq, Int.reduceEq, Int.reduceLT, Int.reduceLE, Int.reduceGT, Int.reduceNeg, not_false_eq_true, not_true_eq_false, decide_true, decide_false, eq_self, and_self, sizeLine_eq, Nat.reduceAdd, Nat.reduceLeDiff, Nat.reduceLT, Nat.reduceEqDiff, List.cons_append, List.nil_append, lst1_is, strD, dicD, dicOf_dat, keyOf_str, keyOf_int, kpairs, pKey, pIsN_non, pNotN_non, pIsN_dic, pNotN_dic, pInS_str, seqOf_lst, seqOf_tup, strsOf, strKeys, keyP, List.map_cons, List.map_nil, Option.bind_some, Nat.reduceBEq, ct0, ct1, Bool.true_eq_false, Int.natCast_one, Int.natCast_zero, Int.cast_ofNat_Int, e, kInt] <;> exact hR
  | _ => simp -dsimp only [↓r_var, ↓r_K, ↓r_aNil, ↓r_aCons, ↓r_op, ↓r_dat, ↓r_tup, ↓r_lst, ↓r_lstM, ↓r_call, ↓r_cm, ↓r_un, ↓r_negI, ↓r_if, ↓r_val, ↓r_and, ↓r_or, ↓r_not, ↓r_yes, ↓r_andV, ↓r_orV, ↓r_notV, ↓r_fld, ↓r_meth, ↓r_prop, ↓r_ix_lst, ↓r_ix_tup, ↓r_ix_loc, ↓r_len_lst, ↓r_len_tup, ↓r_fm1, ↓r_fm2, ↓r_all, ↓r_app, ↓r_ext, ↓o_seq, ↓o_nil, ↓o_ret, ↓o_set, ↓o_expr, ↓o_if, ↓o_bad, ↓o_par, ↓o_par3, ↓o_asg, ↓o_gNm, ↓o_gTp, ↓o_gsNil, ↓o_gsCons, ↓o_gSb, ↓o_retF, ↓o_fld, ↓o_for, ↓r_iSeq, ↓r_iTpl, ↓r_iRg, ↓r_lc, ↓o_frz, ↓r_iEnm, ↓r_reprB_bl, ↓r_reprB_lst, ↓r_chain, ↓r_iStrM, ↓r_iKeysD, ↓r_iItemsD, ↓r_gDGet, ↓r_gDIn, ↓r_pairs0, ↓r_pairs1, ↓r_disp, ↓r_dc, ↓dcL_nil, ↓r_sortD, ↓r_sortL, ↓r_dictD, ↓r_dictL, ↓r_listD, ↓r_listL, ↓r_listT, ↓r_lenDd, ↓r_len_str, ↓r_jn, ↓r_sl, ↓r_pNone, ↓r_pSome, ↓r_gSlS, ↓r_gSlL, ↓r_ix_str, ↓r_dget2, ↓is_non_int, ↓is_non_bool, ↓is_non_str, ↓is_non_list, ↓is_non_tuple, ↓is_non_dict, ↓is_non_cls, ↓is_bl_int, ↓is_bl_bool, ↓is_bl_str, ↓is_bl_list, ↓is_bl_tuple, ↓is_bl_dict, ↓is_bl_cls, ↓is_int_int, ↓is_int_bool, ↓is_int_str, ↓is_int_list, ↓is_int_tuple, ↓is_int_dict, ↓is_int_cls, ↓is_str_int, ↓is_str_bool, ↓is_str_str, ↓is_str_list, ↓is_str_tuple, ↓is_str_dict, ↓is_str_cls, ↓is_lst_int, ↓is_lst_bool, ↓is_lst_str, ↓is_lst_list, ↓is_lst_tuple, ↓is_lst_dict, ↓is_lst_cls, ↓is_tup_int, ↓is_tup_bool, ↓is_tup_str, ↓is_tup_list, ↓is_tup_tuple, ↓is_tup_dict, ↓is_tup_cls, ↓is_dic_int, ↓is_dic_bool, ↓is_dic_str, ↓is_dic_list, ↓is_dic_tuple, ↓is_dic_dict, ↓is_dic_cls, ↓is_obj_int, ↓is_obj_bool, ↓is_obj_str, ↓is_obj_list, ↓is_obj_tuple, ↓is_obj_dict, ↓is_obj_cls,
  opt_some, opt_ite, opt_ite2, rs_ok, List.getElem?_cons_zero, List.getElem?_cons_succ, List.set_cons_zero, List.set_cons_succ, lstIn_lst, objIn_obj, objOf_dat, objOf_loc, two?, three?, datOf, locIx, intOf, intL, lstD, tupD, blOf, wipeP,
  pAdd_int, pAdd_str, pSub, pMul, pMod, pDiv, pLt, pLe, pGt, pGe, pInt, pAbs, pMax, pMin, pDivmod, tru_bl, tru_int, tru_non, dats, Option.map_some, decide_eq_true_eq, atI0, atI1, atI2, ixN0, ixN1, pEqF_int, pEqT_int, pEqF_str, pEqT_str, p10_4, p10_5, p10_9, p10_10, p10_18, p10_19, p10_29, p10_30, List.length_cons, List.length_nil, true_and, and_true, Bool.not_true, Bool.not_false, if_true, if_false, Bool.false_eq_true, Bool.not_eq_true', decide_eq_false_iff_not, bne_iff_ne, ne_eq, Int.reduceEq, Int.reduceLT, Int.reduceLE, Int.reduceGT, Int.reduceNeg, not_false_eq_true, not_true_eq_false, decide_true, decide_false, eq_self, and_self, sizeLine_eq, Nat.reduceAdd, Nat.reduceLeDiff, Nat.reduceLT, Nat.reduceEqDiff, List.cons_append, List.nil_append, lst1_is, strD, dicD, dicOf_dat, keyOf_str, keyOf_int, kpairs, pKey, pIsN_non, pNotN_non, pIsN_dic, pNotN_dic, pInS_str, seqOf_lst, seqOf_tup, strsOf, strKeys, keyP, List.map_cons, List.map_nil, Option.bind_some, Nat.reduceBEq, ct0, ct1, Bool.true_eq_false, Int.natCast_one, Int.natCast_zero, Int.cast_ofNat_Int, e, kInt]; exact hR
theorem e_isnum {x : P} {S : Store} (h : okK x) : M_is_number [.dat x] S = .ok (.dat (.bl (kNum x))) S := by
  refine eq_of_rsp (t := .mk) ?_
  rw [run_is_number]
  exact b_isnum h ⟨rfl, rfl⟩
/-! ### names -/
def sg (c : Nat) : P := .str ⟨#[c]⟩
def lett (c : Nat) : Bool := !(Builtin.Str.occurrences "abcdefghijklmnopqrstuvwxyz" ⟨#[c]⟩ 0 (Str.ofString "abcdefghijklmnopqrstuvwxyz").length 1).isEmpty
theorem lett_is (c : Nat) : pInS false (sg c) (.str "abcdefghijklmnopqrstuvwxyz") = some (.bl (lett c)) := (rfl)
def nameOk (s : Str) : Bool := if (1 : Int) ≤ s.length then (if (s.length : Int) ≤ 8 then s.cps.toList.all lett else false) else false
def kName : P → Bool
  | .str s => nameOk s
  | _ => false
theorem signs_eq (s : Str) : signsP s = s.cps.toList.map sg := (rfl)
theorem cps_len (s : Str) : s.cps.toList.length = s.length := by
  show s.cps.toList.length = s.cps.size
  simp
theorem b_isname {x : P} {S : Store} {N : SS} {R : Val → Store → Prop} {B C : SS} {ER : XR} {t} (h : okK x) (hR : R (.dat (.bl (kName x))) S) : OuP (b_is_name [some (.dat x), none] S) N R B C ER t := by
  unfold b_is_name
  cases x with
  | cls _ => exact h.elim
  | bty _ => exact h.elim
  | obj c fs =>
    rcases h with rfl | rfl <;> walk_at "dl" <;> exact hR
  | str s =>
    have hs : s.length ≤ 16777216 := Nat.le_trans h (by decide)
    simp -dsimp only [↓r_var, ↓r_K, ↓r_aNil, ↓r_aCons, ↓r_op, ↓r_dat, ↓r_tup, ↓r_lst, ↓r_lstM, ↓r_call, ↓r_cm, ↓r_un, ↓r_negI, ↓r_if, ↓r_val, ↓r_and, ↓r_or, ↓r_not, ↓r_yes, ↓r_andV, ↓r_orV, ↓r_notV, ↓r_fld, ↓r_meth, ↓r_prop, ↓r_ix_lst, ↓r_ix_tup, ↓r_ix_loc, ↓r_len_lst, ↓r_len_tup, ↓r_fm1, ↓r_fm2, ↓r_all, ↓r_app, ↓r_ext, ↓o_seq, ↓o_nil, ↓o_ret, ↓o_set, ↓o_expr, ↓o_if, ↓o_bad, ↓o_par, ↓o_par3, ↓o_asg, ↓o_gNm, ↓o_gTp, ↓o_gsNil, ↓o_gsCons, ↓o_gSb, ↓o_retF, ↓o_fld, ↓o_for, ↓r_iSeq, ↓r_iTpl, ↓r_iRg, ↓r_lc, ↓o_frz, ↓r_iEnm, ↓r_reprB_bl, ↓r_reprB_lst, ↓r_chain, ↓r_iStrM, ↓r_iKeysD, ↓r_iItemsD, ↓r_gDGet, ↓r_gDIn, ↓r_pairs0, ↓r_pairs1, ↓r_disp, ↓r_dc, ↓dcL_nil, ↓r_sortD, ↓r_sortL, ↓r_dictD, ↓r_dictL, ↓r_listD, ↓r_listL, ↓r_listT, ↓r_lenDd, ↓r_len_str, ↓r_jn, ↓r_sl, ↓r_pNone, ↓r_pSome, ↓r_gSlS, ↓r_gSlL, ↓r_ix_str, ↓r_dget2, ↓is_non_int, ↓is_non_bool, ↓is_non_str, ↓is_non_list, ↓is_non_tuple, ↓is_non_dict, ↓is_non_cls, ↓is_bl_int, ↓is_bl_bool, ↓is_bl_str, ↓is_bl_list, ↓is_bl_tuple, ↓is_bl_dict, ↓is_bl_cls, ↓is_int_int, ↓is_int_bool, ↓is_int_str, ↓is_int_list, ↓is_int_tuple, ↓is_int_dict, ↓is_int_cls, ↓is_str_int, ↓is_str_bool, ↓is_str_str, ↓is_str_list, ↓is_str_tuple, ↓is_str_dict, ↓is_str_cls, ↓is_lst_int, ↓is_lst_bool, ↓is_lst_str, ↓is_lst_list, ↓is_lst_tuple, ↓is_lst_dict, ↓is_lst_cls, ↓is_tup_int, ↓is_tup_bool, ↓is_tup_str, ↓is_tup_list, ↓is_tup_tuple, ↓is_tup_dict, ↓is_tup_cls, ↓is_dic_int, ↓is_dic_bool, ↓is_dic_str, ↓is_dic_list, ↓is_dic_tuple, ↓is_dic_dict, ↓is_dic_cls, ↓is_obj_int, ↓is_obj_bool, ↓is_obj_str, ↓is_obj_list, ↓is_obj_tuple, ↓is_obj_dict, ↓is_obj_cls,
  opt_some, opt_ite, opt_ite2, rs_ok, List.getElem?_cons_zero, List.getElem?_cons_succ, List.set_cons_zero, List.set_cons_succ, lstIn_lst, objIn_obj, objOf_dat, objOf_loc, two?, three?, datOf, locIx, intOf, intL, lstD, tupD, blOf, wipeP,
  pAdd_int, pAdd_str, pSub, pMul, pMod, pDiv, pLt, pLe, pGt, pGe, pInt, pAbs, pMax, pMin, pDivmod, tru_bl, tru_int, tru_non, dats, Option.map_some, decide_eq_true_eq, atI0, atI1, atI2, ixN0, ixN1, pEqF_int, pEqT_int, pEqF_str, pEqT_str, p10_4, p10_5, p10_9, p10_10, p10_18, p10_19, p10_29, p10_30, List.length_cons, List.length_nil, true_and, and_true, Bool.not_true, Bool.not_false, if_true, if_false, Bool.false_eq_true, Bool.not_eq_true', decide_eq_false_iff_not, bne_iff_ne, ne_eq, Int.reduceEq, Int.reduceLT, Int.reduceLE, Int.reduceGT, Int.reduceNeg, not_false_eq_true, not_true_eq_false, decide_true, decide_false, eq_self, and_self, sizeLine_eq, Nat.reduceAdd, Nat.reduceLeDiff, Nat.reduceLT, Nat.reduceEqDiff, List.cons_append, List.nil_append, lst1_is, strD, dicD, dicOf_dat, keyOf_str, keyOf_int, kpairs, pKey, pIsN_non, pNotN_non, pIsN_dic, pNotN_dic, pInS_str, seqOf_lst, seqOf_tup, strsOf, strKeys, keyP, List.map_cons, List.map_nil, Option.bind_some, Nat.reduceBEq, ct0, ct1, Bool.true_eq_false, Int.natCast_one, Int.natCast_zero, Int.cast_ofNat_Int, hs, signs_eq, List.length_map, cps_len]
    have hk : kName (.str s) = nameOk s := rfl
    rw [hk] at hR
    unfold nameOk at hR
    split
    · rename_i h1
      rw [if_pos h1] at hR
      split
      · rename_i h2
        rw [if_neg h2] at hR
        exact hR
      · rename_i h2
        rw [if_pos (by omega)] at hR
        refine lcL_of sg (fun c => .bl (lett c)) _ (fun c hc => ?_) ?_
        · simp -dsimp only [↓r_var, ↓r_K, ↓r_aNil, ↓r_aCons, ↓r_op, ↓r_dat, ↓r_tup, ↓r_lst, ↓r_lstM, ↓r_call, ↓r_cm, ↓r_un, ↓r_negI, ↓r_if, ↓r_val, ↓r_and, ↓r_or, ↓r_not, ↓r_yes, ↓r_andV, ↓r_orV, ↓r_notV, ↓r_fld, ↓r_meth, ↓r_prop, ↓r_ix_lst, ↓r_ix_tup, ↓r_ix_loc, ↓r_len_lst, ↓r_len_tup, ↓r_fm1, ↓r_fm2, ↓r_all, ↓r_app, ↓r_ext, ↓o_seq, ↓o_nil, ↓o_ret, ↓o_set, ↓o_expr, ↓o_if, ↓o_bad, ↓o_par, ↓o_par3, ↓o_asg, ↓o_gNm, ↓o_gTp, ↓o_gsNil, ↓o_gsCons, ↓o_gSb, ↓o_retF, ↓o_fld, ↓o_for, ↓r_iSeq, ↓r_iTpl, ↓r_iRg, ↓r_lc, ↓o_frz, ↓r_iEnm, ↓r_reprB_bl, ↓r_reprB_lst, ↓r_chain, ↓r_iStrM, ↓r_iKeysD, ↓r_iItemsD, ↓r_gDGet, ↓r_gDIn, ↓r_pairs0, ↓r_pairs1, ↓r_disp, ↓r_dc, ↓dcL_nil, ↓r_sortD, ↓r_sortL, ↓r_dictD, ↓r_dictL, ↓r_listD, ↓r_listL, ↓r_listT, ↓r_lenDd, ↓r_len_str, ↓r_jn, ↓r_sl, ↓r_pNone, ↓r_pSome, ↓r_gSlS, ↓r_gSlL, ↓r_ix_str, ↓r_dget2, ↓is_non_int, ↓is_non_bool, ↓is_non_str, ↓is_non_list, ↓is_non_tuple, ↓is_non_dict, ↓is_non_cls, ↓is_bl_int, ↓is_bl_bool, ↓is_bl_str, ↓is_bl_list, ↓is_bl_tuple, ↓is_bl_dict, ↓is_bl_cls, ↓is_int_int, ↓is_int_bool, ↓is_int_str, ↓is_int_list, ↓is_int_tuple, ↓is_int_dict, ↓is_int_cls, ↓is_str_int, ↓is_str_bool, ↓is_str_str, ↓is_str_list, ↓is_str_tuple, ↓is_str_dict, ↓is_str_cls, ↓is_lst_int, ↓is_lst_bool, ↓is_lst_str, ↓is_lst_list, ↓is_lst_tuple, ↓is_lst_dict, ↓is_lst_cls, ↓is_tup_int, ↓is_tup_bool, ↓is_tup_str, ↓is_tup_list, ↓is_tup_tuple, ↓is_tup_dict, ↓is_tup_cls, ↓is_dic_int, ↓is_dic_bool, ↓is_dic_str, ↓is_dic_list, ↓is_dic_tuple, ↓is_dic_dict, ↓is_dic_cls, ↓is_obj_int, ↓is_obj_bool, ↓is_obj_str, ↓is_obj_list, ↓is_obj_tuple, ↓is_obj_dict, ↓is_obj_cls,
  opt_some, opt_ite, opt_ite2, rs_ok, List.getElem?_cons_zero, List.getElem?_cons_succ, List.set_cons_zero, List.set_cons_succ, lstIn_lst, objIn_obj, objOf_dat, objOf_loc, two?, three?, datOf, locIx, intOf, intL, lstD, tupD, blOf, wipeP,
  pAdd_int, pAdd_str, pSub, pMul, pMod, pDiv, pLt, pLe, pGt, pGe, pInt, pAbs, pMax, pMin, pDivmod, tru_bl, tru_int, tru_non, dats, Option.map_some, decide_eq_true_eq, atI0, atI1, atI2, ixN0, ixN1, pEqF_int, pEqT_int, pEqF_str, pEqT_str, p10_4, p10_5, p10_9, p10_10, p10_18, p10_19, p10_29, p10_30, List.length_cons, List.length_nil, true_and, and_true, Bool.not_true, Bool.not_false, if_true, if_false, Bool.false_eq_true, Bool.not_eq_true', decide_eq_false_iff_not, bne_iff_ne, ne_eq, Int.reduceEq, Int.reduceLT, Int.reduceLE, Int.reduceGT, Int.reduceNeg, not_false_eq_true, not_true_eq_false, decide_true, decide_false, eq_self, and_self, sizeLine_eq, Nat.reduceAdd, Nat.reduceLeDiff, Nat.reduceLT, Nat.reduceEqDiff, List.cons_append, List.nil_append, lst1_is, strD, dicD, dicOf_dat, keyOf_str, keyOf_int, kpairs, pKey, pIsN_non, pNotN_non, pIsN_dic, pNotN_dic, pInS_str, seqOf_lst, seqOf_tup, strsOf, strKeys, keyP, List.map_cons, List.map_nil, Option.bind_some, Nat.reduceBEq, ct0, ct1, Bool.true_eq_false, Int.natCast_one, Int.natCast_zero, Int.cast_ofNat_Int, lett_is]
        · simp -dsimp only [↓r_var, ↓r_K, ↓r_aNil, ↓r_aCons, ↓r_op, ↓r_dat, ↓r_tup, ↓r_lst, ↓r_lstM, ↓r_call, ↓r_cm, ↓r_un, ↓r_negI, ↓r_if, ↓r_val, ↓r_and, ↓r_or, ↓r_not, ↓r_yes, ↓r_andV, ↓r_orV, ↓r_notV, ↓r_fld, ↓r_meth, ↓r_prop, ↓r_ix_lst, ↓r_ix_tup, ↓r_ix_loc, ↓r_len_lst, ↓r_len_tup, ↓r_fm1, ↓r_fm2, ↓r_all, ↓r_app, ↓r_ext, ↓o_seq, ↓o_nil, ↓o_ret, ↓o_set, ↓o_expr, ↓o_if, ↓o_bad, ↓o_par, ↓o_par3, ↓o_asg, ↓o_gNm, ↓o_gTp, ↓o_gsNil, ↓o_gsCons, ↓o_gSb, ↓o_retF, ↓o_fld, ↓o_for, ↓r_iSeq, ↓r_iTpl, ↓r_iRg, ↓r_lc, ↓o_frz, ↓r_iEnm, ↓r_reprB_bl, ↓r_reprB_lst, ↓r_chain, ↓r_iStrM, ↓r_iKeysD, ↓r_iItemsD, ↓r_gDGet, ↓r_gDIn, ↓r_pairs0, ↓r_pairs1, ↓r_disp, ↓r_dc, ↓dcL_nil, ↓r_sortD, ↓r_sortL, ↓r_dictD, ↓r_dictL, ↓r_listD, ↓r_listL, ↓r_listT, ↓r_lenDd, ↓r_len_str, ↓r_jn, ↓r_sl, ↓r_pNone, ↓r_pSome, ↓r_gSlS, ↓r_gSlL, ↓r_ix_str, ↓r_dget2, ↓is_non_int, ↓is_non_bool, ↓is_non_str, ↓is_non_list, ↓is_non_tuple, ↓is_non_dict, ↓is_non_cls, ↓is_bl_int, ↓is_bl_bool, ↓is_bl_str, ↓is_bl_list, ↓is_bl_tuple, ↓is_bl_dict, ↓is_bl_cls, ↓is_int_int, ↓is_int_bool, ↓is_int_str, ↓is_int_list, ↓is_int_tuple, ↓is_int_dict, ↓is_int_cls, ↓is_str_int, ↓is_str_bool, ↓is_str_str, ↓is_str_list, ↓is_str_tuple, ↓is_str_dict, ↓is_str_cls, ↓is_lst_int, ↓is_lst_bool, ↓is_lst_str, ↓is_lst_list, ↓is_lst_tuple, ↓is_lst_dict, ↓is_lst_cls, ↓is_tup_int, ↓is_tup_bool, ↓is_tup_str, ↓is_tup_list, ↓is_tup_tuple, ↓is_tup_dict, ↓is_tup_cls, ↓is_dic_int, ↓is_dic_bool, ↓is_dic_str, ↓is_dic_list, ↓is_dic_tuple, ↓is_dic_dict, ↓is_dic_cls, ↓is_obj_int, ↓is_obj_bool, ↓is_obj_str, ↓is_obj_list, ↓is_obj_tuple, ↓is_obj_dict, ↓is_obj_cls,
  opt_some, opt_ite, opt_ite2, rs_ok, List.getElem?_cons_zero, List.getElem?_cons_succ, List.set_cons_zero, List.set_cons_succ, lstIn_lst, objIn_obj, objOf_dat, objOf_loc, two?, three?, datOf, locIx, intOf, intL, lstD, tupD, blOf, wipeP,
  pAdd_int, pAdd_str, pSub, pMul, pMod, pDiv, pLt, pLe, pGt, pGe, pInt, pAbs, pMax, pMin, pDivmod, tru_bl, tru_int, tru_non, dats, Option.map_some, decide_eq_true_eq, atI0, atI1, atI2, ixN0, ixN1, pEqF_int, pEqT_int, pEqF_str, pEqT_str, p10_4, p10_5, p10_9, p10_10, p10_18, p10_19, p10_29, p10_30, List.length_cons, List.length_nil, true_and, and_true, Bool.not_true, Bool.not_false, if_true, if_false, Bool.false_eq_true, Bool.not_eq_true', decide_eq_false_iff_not, bne_iff_ne, ne_eq, Int.reduceEq, Int.reduceLT, Int.reduceLE, Int.reduceGT, Int.reduceNeg, not_false_eq_true, not_true_eq_false, decide_true, decide_false, eq_self, and_self, sizeLine_eq, Nat.reduceAdd, Nat.reduceLeDiff, Nat.reduceLT, Nat.reduceEqDiff, List.cons_append, List.nil_append, lst1_is, strD, dicD, dicOf_dat, keyOf_str, keyOf_int, kpairs, pKey, pIsN_non, pNotN_non, pIsN_dic, pNotN_dic, pInS_str, seqOf_lst, seqOf_tup, strsOf, strKeys, keyP, List.map_cons, List.map_nil, Option.bind_some, Nat.reduceBEq, ct0, ct1, Bool.true_eq_false, Int.natCast_one, Int.natCast_zero, Int.cast_ofNat_Int, bls_map, all_map']
          exact hR
    · rename_i h1
      rw [if_neg h1] at hR
      exact hR
  | _ => walk_at "dl"; exact hR
theorem e_isname {x : P} {S : Store} (h : okK x) : M_is_name [.dat x] S = .ok (.dat (.bl (kName x))) S := by
  refine eq_of_rsp (t := .mk) ?_
  rw [run_is_name]
  exact b_isname h ⟨rfl, rfl⟩
end K12
set_option Elab.async false
set_option linter.all false
set_option maxRecDepth 100000
set_option maxHeartbeats 2000000
namespace K12
open PySem L2 DL QR
local macro_rules | `(tactic| walk_at "dl") => `(tactic| try simp -dsimp only [↓r_var, ↓r_K, ↓r_aNil, ↓r_aCons, ↓r_op, ↓r_dat, ↓r_tup, ↓r_lst, ↓r_lstM, ↓r_call, ↓r_cm, ↓r_un, ↓r_negI, ↓r_if, ↓r_val, ↓r_and, ↓r_or, ↓r_not, ↓r_yes, ↓r_andV, ↓r_orV, ↓r_notV, ↓r_fld, ↓r_meth, ↓r_prop, ↓r_ix_lst, ↓r_ix_tup, ↓r_ix_loc, ↓r_len_lst, ↓r_len_tup, ↓r_fm1, ↓r_fm2, ↓r_all, ↓r_app, ↓r_ext, ↓o_seq, ↓o_nil, ↓o_ret, ↓o_set, ↓o_expr, ↓o_if, ↓o_bad, ↓o_par, ↓o_par3, ↓o_asg, ↓o_gNm, ↓o_gTp, ↓o_gsNil, ↓o_gsCons, ↓o_gSb, ↓o_retF, ↓o_fld, ↓o_for, ↓r_iSeq, ↓r_iTpl, ↓r_iRg, ↓r_lc, ↓o_frz, ↓r_iEnm, ↓r_reprB_bl, ↓r_reprB_lst, ↓r_chain, ↓r_iStrM, ↓r_iKeysD, ↓r_iItemsD, ↓r_gDGet, ↓r_gDIn, ↓r_pairs0, ↓r_pairs1, ↓r_disp, ↓r_dc, ↓dcL_nil, ↓r_sortD, ↓r_sortL, ↓r_dictD, ↓r_dictL, ↓r_listD, ↓r_listL, ↓r_listT, ↓r_lenDd, ↓r_len_str, ↓r_jn, ↓r_sl, ↓r_pNone, ↓r_pSome, ↓r_gSlS, ↓r_gSlL, ↓r_ix_str, ↓r_dget2, ↓is_non_int, ↓is_non_bool, ↓is_non_str, ↓is_non_list, ↓is_non_tuple, ↓is_non_dict, ↓is_non_cls, ↓is_bl_int, ↓is_bl_bool, ↓is_bl_str, ↓is_bl_list, ↓is_bl_tuple, ↓is_bl_dict, ↓is_bl_cls, ↓is_int_int, ↓is_int_bool, ↓is_int_str, ↓is_int_list, ↓is_int_tuple, ↓is_int_dict, ↓is_int_cls, ↓is_str_int, ↓is_str_bool, ↓is_str_str, ↓is_str_list, ↓is_str_tuple, ↓is_str_dict, ↓is_str_cls, ↓is_lst_int, ↓is_lst_bool, ↓is_lst_str, ↓is_lst_list, ↓is_lst_tuple, ↓is_lst_dict, ↓is_lst_cls, ↓is_tup_int, ↓is_tup_bool, ↓is_tup_str, ↓is_tup_list, ↓is_tup_tuple, ↓is_tup_dict, ↓is_tup_cls, ↓is_dic_int, ↓is_dic_bool, ↓is_dic_str, ↓is_dic_list, ↓is_dic_tuple, ↓is_dic_dict, ↓is_dic_cls, ↓is_obj_int, ↓is_obj_bool, ↓is_obj_str, ↓is_obj_list, ↓is_obj_tuple, ↓is_obj_dict, ↓is_obj_cls,
  opt_some, opt_ite, opt_ite2, rs_ok, List.getElem?_cons_zero, List.getElem?_cons_succ, List.set_cons_zero, List.set_cons_succ, lstIn_lst, objIn_obj, objOf_dat, objOf_loc, two?, three?, datOf, locIx, intOf, intL, lstD, tupD, blOf, wipeP,
  pAdd_int, pAdd_str, pSub, pMul, pMod, pDiv, pLt, pLe, pGt, pGe, pInt, pAbs, pMax, pMin, pDivmod, tru_bl, tru_int, tru_non, dats, Option.map_some, decide_eq_true_eq, atI0, atI1, atI2, ixN0, ixN1, pEqF_int, pEqT_int, pEqF_str, pEqT_str, p10_4, p10_5, p10_9, p10_10, p10_18, p10_19, p10_29, p10_30, List.length_cons, List.length_nil, true_and, and_true, Bool.not_true, Bool.not_false, if_true, if_false, Bool.false_eq_true, Bool.not_eq_true', decide_eq_false_iff_not, bne_iff_ne, ne_eq, Int.reduceEq, Int.reduceLT, Int.reduceLE, Int.reduceGT, Int.reduceNeg, not_false_eq_true, not_true_eq_false, decide_true, decide_false, eq_self, and_self, sizeLine_eq, Nat.reduceAdd, Nat.reduceLeDiff, Nat.reduceLT, Nat.reduceEqDiff, List.cons_append, List.nil_append, lst1_is, strD, dicD, dicOf_dat, keyOf_str, keyOf_int, kpairs, pKey, pIsN_non, pNotN_non, pIsN_dic, pNotN_dic, pInS_str, seqOf_lst, seqOf_tup, strsOf, strKeys, keyP, List.map_cons, List.map_nil, Option.bind_some, Nat.reduceBEq, ct0, ct1, Bool.true_eq_false, Int.natCast_one, Int.natCast_zero, Int.cast_ofNat_Int])
theorem e_is_integer {i : Int} {S : Store} : M_is_integer [.dat (.int i)] S = .ok (.dat (.bl true)) S := e_isint trivial
structure GI (a b : Int) (S : Store) (n : Nat) (ρ : Slots) (S' : Store) : Prop where
  ex : ∃ x y : Int, ρ = [some (.dat (.int x)), some (.dat (.int y))] ∧ 0 ≤ x ∧ 0 ≤ y ∧ n = y.natAbs ∧ Int.gcd x y = Int.gcd a b ∧ S' = S
theorem gcd_loop {a b : Int} {S : Store} {Q : Val → Store → Prop} {E : XS} {f : Ex} (hf : ∀ (x y : Int) S, 0 ≤ x → 0 < y → ∀ Q : Val → Store → Prop, ∀ E t, Q (.dat (.int (x % y))) S → RsP (f [some (.dat (.int x)), some (.dat (.int y))] S) Q E t) {N : SS} {R : Val → Store → Prop} {B C : SS} {ER : XR} {t} (ha : 0 ≤ a) (hb : 0 ≤ b)
    (h : N [some (.dat (.int (Int.gcd a b))), some (.dat (.int 0))] S) :
    OuP (sWhile (fun ρ _ => natAt ρ 1 + 1) (tVal (eOp (datOp pGt) (eVar 1) (eK (.int 0)))) (sPar 0 1 (aCons (eVar 1) (aCons f aNil))) [some (.dat (.int a)), some (.dat (.int b))] S) N R B C ER t := by
  rw [o_while]
  refine whL_inv (n := b.natAbs) (GI a b S) (by show _ < b.natAbs + 1; omega) ⟨a, b, rfl, ha, hb, rfl, rfl, rfl⟩ ?_
  rintro n ρ S' ⟨x, y, rfl, hx, hy, rfl, hg, rfl⟩
  walk_at "dl"
  split
  · rename_i hy0
    refine hf x y _ hx hy0 _ _ _ ?_
    walk_at "dl"
    refine ⟨(x % y).natAbs, ?_, ⟨y, x % y, rfl, hy, Int.emod_nonneg _ (by omega), rfl, ?_, rfl⟩⟩
    · have := Int.emod_lt_of_pos x hy0
      have := Int.emod_nonneg x (show y ≠ 0 by omega)
      omega
    · rw [← hg]; exact gcd_step hx (by omega)
  · have : y = 0 := by omega
    subst this
    rw [Int.gcd_zero_right] at hg
    have : x = ((Int.gcd a b : Nat) : Int) := by omega
    rw [this]
    exact h
theorem e_common_divisor {a b : Int} {S : Store} (ha : 0 ≤ a) (hb : 0 ≤ b) : M_common_divisor [.dat (.int a), .dat (.int b)] S = .ok (.dat (.int (Int.gcd a b))) S := by
  refine eq_of_rsp (t := .mk) ?_
  rw [run_common_divisor]
  unfold b_common_divisor
  rw [o_seq]
  refine gcd_loop (Q := fun _ _ => True) (E := fun _ _ _ => True) (fun x y S hx hy Q E t h => ?_) ha hb ?_
  · have hy0 : y ≠ 0 := by omega
    simp -dsimp only [↓r_var, ↓r_K, ↓r_aNil, ↓r_aCons, ↓r_op, ↓r_dat, ↓r_tup, ↓r_lst, ↓r_lstM, ↓r_call, ↓r_cm, ↓r_un, ↓r_negI, ↓r_if, ↓r_val, ↓r_and, ↓r_or, ↓r_not, ↓r_yes, ↓r_andV, ↓r_orV, ↓r_notV, ↓r_fld, ↓r_meth, ↓r_prop, ↓r_ix_lst, ↓r_ix_tup, ↓r_ix_loc, ↓r_len_lst, ↓r_len_tup, ↓r_fm1, ↓r_fm2, ↓r_all, ↓r_app, ↓r_ext, ↓o_seq, ↓o_nil, ↓o_ret, ↓o_set, ↓o_expr, ↓o_if, ↓o_bad, ↓o_par, ↓o_par3, ↓o_asg, ↓o_gNm, ↓o_gTp, ↓o_gsNil, ↓o_gsCons, ↓o_gSb, ↓o_retF, ↓o_fld, ↓o_for, ↓r_iSeq, ↓r_iTpl, ↓r_iRg, ↓r_lc, ↓o_frz, ↓r_iEnm, ↓r_reprB_bl, ↓r_reprB_lst, ↓r_chain, ↓r_iStrM, ↓r_iKeysD, ↓r_iItemsD, ↓r_gDGet, ↓r_gDIn, ↓r_pairs0, ↓r_pairs1, ↓r_disp, ↓r_dc, ↓dcL_nil, ↓r_sortD, ↓r_sortL, ↓r_dictD, ↓r_dictL, ↓r_listD, ↓r_listL, ↓r_listT, ↓r_lenDd, ↓r_len_str, ↓r_jn, ↓r_sl, ↓r_pNone, ↓r_pSome, ↓r_gSlS, ↓r_gSlL, ↓r_ix_str, ↓r_dget2, ↓is_non_int, ↓is_non_bool, ↓is_non_str, ↓is_non_list, ↓is_non_tuple, ↓is_non_dict, ↓is_non_cls, ↓is_bl_int, ↓is_bl_bool, ↓is_bl_str, ↓is_bl_list, ↓is_bl_tuple, ↓is_bl_dict, ↓is_bl_cls, ↓is_int_int, ↓is_int_bool, ↓is_int_str, ↓is_int_list, ↓is_int_tuple, ↓is_int_dict, ↓is_int_cls, ↓is_str_int, ↓is_str_bool, ↓is_str_str, ↓is_str_list, ↓is_str_tuple, ↓is_str_dict, ↓is_str_cls, ↓is_lst_int, ↓is_lst_bool, ↓is_lst_str, ↓is_lst_list, ↓is_lst_tuple, ↓is_lst_dict, ↓is_lst_cls, ↓is_tup_int, ↓is_tup_bool, ↓is_tup_str, ↓is_tup_list, ↓is_tup_tuple, ↓is_tup_dict, ↓is_tup_cls, ↓is_dic_int, ↓is_dic_bool, ↓is_dic_str, ↓is_dic_list, ↓is_dic_tuple, ↓is_dic_dict, ↓is_dic_cls, ↓is_obj_int, ↓is_obj_bool, ↓is_obj_str, ↓is_obj_list, ↓is_obj_tuple, ↓is_obj_dict, ↓is_obj_cls,
  opt_some, opt_ite, opt_ite2, rs_ok, List.getElem?_cons_zero, List.getElem?_cons_succ, List.set_cons_zero, List.set_cons_succ, lstIn_lst, objIn_obj, objOf_dat, objOf_loc, two?, three?, datOf, locIx, intOf, intL, lstD, tupD, blOf, wipeP,
  pAdd_int, pAdd_str, pSub, pMul, pMod, pDiv, pLt, pLe, pGt, pGe, pInt, pAbs, pMax, pMin, pDivmod, tru_bl, tru_int, tru_non, dats, Option.map_some, decide_eq_true_eq, atI0, atI1, atI2, ixN0, ixN1, pEqF_int, pEqT_int, pEqF_str, pEqT_str, p10_4, p10_5, p10_9, p10_10, p10_18, p10_19, p10_29, p10_30, List.length_cons, List.length_nil, true_and, and_true, Bool.not_true, Bool.not_false, if_true, if_false, Bool.false_eq_true, Bool.not_eq_true', decide_eq_false_iff_not, bne_iff_ne, ne_eq, Int.reduceEq, Int.reduceLT, Int.reduceLE, Int.reduceGT, Int.reduceNeg, not_false_eq_true, not_true_eq_false, decide_true, decide_false, eq_self, and_self, sizeLine_eq, Nat.reduceAdd, Nat.reduceLeDiff, Nat.reduceLT, Nat.reduceEqDiff, List.cons_append, List.nil_append, lst1_is, strD, dicD, dicOf_dat, keyOf_str, keyOf_int, kpairs, pKey, pIsN_non, pNotN_non, pIsN_dic, pNotN_dic, pInS_str, seqOf_lst, seqOf_tup, strsOf, strKeys, keyP, List.map_cons, List.map_nil, Option.bind_some, Nat.reduceBEq, ct0, ct1, Bool.true_eq_false, Int.natCast_one, Int.natCast_zero, Int.cast_ofNat_Int, hy0]
    rw [Int.fmod_eq_emod_of_nonneg _ (by omega)]
    exact h
  · walk_at "dl"
theorem b_init {a b : Int} {S : Store} {N : SS} {R : Val → Store → Prop} {B C : SS} {ER : XR} {t} (hb : b ≠ 0) (ha : Bd 13000 a) (hb' : Bd 13000 b) (h : ∀ ρ, N ρ (S ++ [.obj 0 [("own_top", .int (nrm a b).1), ("own_bottom", .int (nrm a b).2)]])) :
    OuP (b_Ratio_DinitD [some (.loc S.length), some (.dat (.int a)), some (.dat (.int b)), none] (S ++ [.obj 0 []])) N R B C ER t := by
  unfold b_Ratio_DinitD
  have d0 := dvr_ne (a := a) hb
  have d1 := div_ok d0 ha
  have d2 := div_ok d0 hb'
  have eg : ∀ S, M_common_divisor [.dat (.int (if a < 0 then -a else a)), .dat (.int (if b < 0 then -b else b))] S = .ok (.dat (.int (Int.gcd a b))) S := fun S => by
    have := e_common_divisor (a := absI a) (b := absI b) (S := S) (absI_nn a) (absI_nn b)
    rw [gcd_abs] at this
    exact this
  simp -dsimp only [↓r_var, ↓r_K, ↓r_aNil, ↓r_aCons, ↓r_op, ↓r_dat, ↓r_tup, ↓r_lst, ↓r_lstM, ↓r_call, ↓r_cm, ↓r_un, ↓r_negI, ↓r_if, ↓r_val, ↓r_and, ↓r_or, ↓r_not, ↓r_yes, ↓r_andV, ↓r_orV, ↓r_notV, ↓r_fld, ↓r_meth, ↓r_prop, ↓r_ix_lst, ↓r_ix_tup, ↓r_ix_loc, ↓r_len_lst, ↓r_len_tup, ↓r_fm1, ↓r_fm2, ↓r_all, ↓r_app, ↓r_ext, ↓o_seq, ↓o_nil, ↓o_ret, ↓o_set, ↓o_expr, ↓o_if, ↓o_bad, ↓o_par, ↓o_par3, ↓o_asg, ↓o_gNm, ↓o_gTp, ↓o_gsNil, ↓o_gsCons, ↓o_gSb, ↓o_retF, ↓o_fld, ↓o_for, ↓r_iSeq, ↓r_iTpl, ↓r_iRg, ↓r_lc, ↓o_frz, ↓r_iEnm, ↓r_reprB_bl, ↓r_reprB_lst, ↓r_chain, ↓r_iStrM, ↓r_iKeysD, ↓r_iItemsD, ↓r_gDGet, ↓r_gDIn, ↓r_pairs0, ↓r_pairs1, ↓r_disp, ↓r_dc, ↓dcL_nil, ↓r_sortD, ↓r_sortL, ↓r_dictD, ↓r_dictL, ↓r_listD, ↓r_listL, ↓r_listT, ↓r_lenDd, ↓r_len_str, ↓r_jn, ↓r_sl, ↓r_pNone, ↓r_pSome, ↓r_gSlS, ↓r_gSlL, ↓r_ix_str, ↓r_dget2, ↓is_non_int, ↓is_non_bool, ↓is_non_str, ↓is_non_list, ↓is_non_tuple, ↓is_non_dict, ↓is_non_cls, ↓is_bl_int, ↓is_bl_bool, ↓is_bl_str, ↓is_bl_list, ↓is_bl_tuple, ↓is_bl_dict, ↓is_bl_cls, ↓is_int_int, ↓is_int_bool, ↓is_int_str, ↓is_int_list, ↓is_int_tuple, ↓is_int_dict, ↓is_int_cls, ↓is_str_int, ↓is_str_bool, ↓is_str_str, ↓is_str_list, ↓is_str_tuple, ↓is_str_dict, ↓is_str_cls, ↓is_lst_int, ↓is_lst_bool, ↓is_lst_str, ↓is_lst_list, ↓is_lst_tuple, ↓is_lst_dict, ↓is_lst_cls, ↓is_tup_int, ↓is_tup_bool, ↓is_tup_str, ↓is_tup_list, ↓is_tup_tuple, ↓is_tup_dict, ↓is_tup_cls, ↓is_dic_int, ↓is_dic_bool, ↓is_dic_str, ↓is_dic_list, ↓is_dic_tuple, ↓is_dic_dict, ↓is_dic_cls, ↓is_obj_int, ↓is_obj_bool, ↓is_obj_str, ↓is_obj_list, ↓is_obj_tuple, ↓is_obj_dict, ↓is_obj_cls,
  opt_some, opt_ite, opt_ite2, rs_ok, List.getElem?_cons_zero, List.getElem?_cons_succ, List.set_cons_zero, List.set_cons_succ, lstIn_lst, objIn_obj, objOf_dat, objOf_loc, two?, three?, datOf, locIx, intOf, intL, lstD, tupD, blOf, wipeP,
  pAdd_int, pAdd_str, pSub, pMul, pMod, pDiv, pLt, pLe, pGt, pGe, pInt, pAbs, pMax, pMin, pDivmod, tru_bl, tru_int, tru_non, dats, Option.map_some, decide_eq_true_eq, atI0, atI1, atI2, ixN0, ixN1, pEqF_int, pEqT_int, pEqF_str, pEqT_str, p10_4, p10_5, p10_9, p10_10, p10_18, p10_19, p10_29, p10_30, List.length_cons, List.length_nil, true_and, and_true, Bool.not_true, Bool.not_false, if_true, if_false, Bool.false_eq_true, Bool.not_eq_true', decide_eq_false_iff_not, bne_iff_ne, ne_eq, Int.reduceEq, Int.reduceLT, Int.reduceLE, Int.reduceGT, Int.reduceNeg, not_false_eq_true, not_true_eq_false, decide_true, decide_false, eq_self, and_self, sizeLine_eq, Nat.reduceAdd, Nat.reduceLeDiff, Nat.reduceLT, Nat.reduceEqDiff, List.cons_append, List.nil_append, lst1_is, strD, dicD, dicOf_dat, keyOf_str, keyOf_int, kpairs, pKey, pIsN_non, pNotN_non, pIsN_dic, pNotN_dic, pInS_str, seqOf_lst, seqOf_tup, strsOf, strKeys, keyP, List.map_cons, List.map_nil, Option.bind_some, Nat.reduceBEq, ct0, ct1, Bool.true_eq_false, Int.natCast_one, Int.natCast_zero, Int.cast_ofNat_Int, e_is_integer, hb, eg]
  have hg : dvr a b = if b < 0 then -(Int.gcd a b : Int) else (Int.gcd a b : Int) := rfl
  split
  · rename_i h0
    rw [if_pos h0] at hg
    simp -dsimp only [↓r_var, ↓r_K, ↓r_aNil, ↓r_aCons, ↓r_op, ↓r_dat, ↓r_tup, ↓r_lst, ↓r_lstM, ↓r_call, ↓r_cm, ↓r_un, ↓r_negI, ↓r_if, ↓r_val, ↓r_and, ↓r_or, ↓r_not, ↓r_yes, ↓r_andV, ↓r_orV, ↓r_notV, ↓r_fld, ↓r_meth, ↓r_prop, ↓r_ix_lst, ↓r_ix_tup, ↓r_ix_loc, ↓r_len_lst, ↓r_len_tup, ↓r_fm1, ↓r_fm2, ↓r_all, ↓r_app, ↓r_ext, ↓o_seq, ↓o_nil, ↓o_ret, ↓o_set, ↓o_expr, ↓o_if, ↓o_bad, ↓o_par, ↓o_par3, ↓o_asg, ↓o_gNm, ↓o_gTp, ↓o_gsNil, ↓o_gsCons, ↓o_gSb, ↓o_retF, ↓o_fld, ↓o_for, ↓r_iSeq, ↓r_iTpl, ↓r_iRg, ↓r_lc, ↓o_frz, ↓r_iEnm, ↓r_reprB_bl, ↓r_reprB_lst, ↓r_chain, ↓r_iStrM, ↓r_iKeysD, ↓r_iItemsD, ↓r_gDGet, ↓r_gDIn, ↓r_pairs0, ↓r_pairs1, ↓r_disp, ↓r_dc, ↓dcL_nil, ↓r_sortD, ↓r_sortL, ↓r_dictD, ↓r_dictL, ↓r_listD, ↓r_listL, ↓r_listT, ↓r_lenDd, ↓r_len_str, ↓r_jn, ↓r_sl, ↓r_pNone, ↓r_pSome, ↓r_gSlS, ↓r_gSlL, ↓r_ix_str, ↓r_dget2, ↓is_non_int, ↓is_non_bool, ↓is_non_str, ↓is_non_list, ↓is_non_tuple, ↓is_non_dict, ↓is_non_cls, ↓is_bl_int, ↓is_bl_bool, ↓is_bl_str, ↓is_bl_list, ↓is_bl_tuple, ↓is_bl_dict, ↓is_bl_cls, ↓is_int_int, ↓is_int_bool, ↓is_int_str, ↓is_int_list, ↓is_int_tuple, ↓is_int_dict, ↓is_int_cls, ↓is_str_int, ↓is_str_bool, ↓is_str_str, ↓is_str_list, ↓is_str_tuple, ↓is_str_dict, ↓is_str_cls, ↓is_lst_int, ↓is_lst_bool, ↓is_lst_str, ↓is_lst_list, ↓is_lst_tuple, ↓is_lst_dict, ↓is_lst_cls, ↓is_tup_int, ↓is_tup_bool, ↓is_tup_str, ↓is_tup_list, ↓is_tup_tuple, ↓is_tup_dict, ↓is_tup_cls, ↓is_dic_int, ↓is_dic_bool, ↓is_dic_str, ↓is_dic_list, ↓is_dic_tuple, ↓is_dic_dict, ↓is_dic_cls, ↓is_obj_int, ↓is_obj_bool, ↓is_obj_str, ↓is_obj_list, ↓is_obj_tuple, ↓is_obj_dict, ↓is_obj_cls,
  opt_some, opt_ite, opt_ite2, rs_ok, List.getElem?_cons_zero, List.getElem?_cons_succ, List.set_cons_zero, List.set_cons_succ, lstIn_lst, objIn_obj, objOf_dat, objOf_loc, two?, three?, datOf, locIx, intOf, intL, lstD, tupD, blOf, wipeP,
  pAdd_int, pAdd_str, pSub, pMul, pMod, pDiv, pLt, pLe, pGt, pGe, pInt, pAbs, pMax, pMin, pDivmod, tru_bl, tru_int, tru_non, dats, Option.map_some, decide_eq_true_eq, atI0, atI1, atI2, ixN0, ixN1, pEqF_int, pEqT_int, pEqF_str, pEqT_str, p10_4, p10_5, p10_9, p10_10, p10_18, p10_19, p10_29, p10_30, List.length_cons, List.length_nil, true_and, and_true, Bool.not_true, Bool.not_false, if_true, if_false, Bool.false_eq_true, Bool.not_eq_true', decide_eq_false_iff_not, bne_iff_ne, ne_eq, Int.reduceEq, Int.reduceLT, Int.reduceLE, Int.reduceGT, Int.reduceNeg, not_false_eq_true, not_true_eq_false, decide_true, decide_false, eq_self, and_self, sizeLine_eq, Nat.reduceAdd, Nat.reduceLeDiff, Nat.reduceLT, Nat.reduceEqDiff, List.cons_append, List.nil_append, lst1_is, strD, dicD, dicOf_dat, keyOf_str, keyOf_int, kpairs, pKey, pIsN_non, pNotN_non, pIsN_dic, pNotN_dic, pInS_str, seqOf_lst, seqOf_tup, strsOf, strKeys, keyP, List.map_cons, List.map_nil, Option.bind_some, Nat.reduceBEq, ct0, ct1, Bool.true_eq_false, Int.natCast_one, Int.natCast_zero, Int.cast_ofNat_Int, ← hg, push_at, push_set, putP, d1, d2, ne_tb]
    exact h _
  · rename_i h0
    rw [if_neg h0] at hg
    simp -dsimp only [↓r_var, ↓r_K, ↓r_aNil, ↓r_aCons, ↓r_op, ↓r_dat, ↓r_tup, ↓r_lst, ↓r_lstM, ↓r_call, ↓r_cm, ↓r_un, ↓r_negI, ↓r_if, ↓r_val, ↓r_and, ↓r_or, ↓r_not, ↓r_yes, ↓r_andV, ↓r_orV, ↓r_notV, ↓r_fld, ↓r_meth, ↓r_prop, ↓r_ix_lst, ↓r_ix_tup, ↓r_ix_loc, ↓r_len_lst, ↓r_len_tup, ↓r_fm1, ↓r_fm2, ↓r_all, ↓r_app, ↓r_ext, ↓o_seq, ↓o_nil, ↓o_ret, ↓o_set, ↓o_expr, ↓o_if, ↓o_bad, ↓o_par, ↓o_par3, ↓o_asg, ↓o_gNm, ↓o_gTp, ↓o_gsNil, ↓o_gsCons, ↓o_gSb, ↓o_retF, ↓o_fld, ↓o_for, ↓r_iSeq, ↓r_iTpl, ↓r_iRg, ↓r_lc, ↓o_frz, ↓r_iEnm, ↓r_reprB_bl, ↓r_reprB_lst, ↓r_chain, ↓r_iStrM, ↓r_iKeysD, ↓r_iItemsD, ↓r_gDGet, ↓r_gDIn, ↓r_pairs0, ↓r_pairs1, ↓r_disp, ↓r_dc, ↓dcL_nil, ↓r_sortD, ↓r_sortL, ↓r_dictD, ↓r_dictL, ↓r_listD, ↓r_listL, ↓r_listT, ↓r_lenDd, ↓r_len_str, ↓r_jn, ↓r_sl, ↓r_pNone, ↓r_pSome, ↓r_gSlS, ↓r_gSlL, ↓r_ix_str, ↓r_dget2, ↓is_non_int, ↓is_non_bool, ↓is_non_str, ↓is_non_list, ↓is_non_tuple, ↓is_non_dict, ↓is_non_cls, ↓is_bl_int, ↓is_bl_bool, ↓is_bl_str, ↓is_bl_list, ↓is_bl_tuple, ↓is_bl_dict, ↓is_bl_cls, ↓is_int_int, ↓is_int_bool, ↓is_int_str, ↓is_int_list, ↓is_int_tuple, ↓is_int_dict, ↓is_int_cls, ↓is_str_int, ↓is_str_bool, ↓is_str_str, ↓is_str_list, ↓is_str_tuple, ↓is_str_dict, ↓is_str_cls, ↓is_lst_int, ↓is_lst_bool, ↓is_lst_str, ↓is_lst_list, ↓is_lst_tuple, ↓is_lst_dict, ↓is_lst_cls, ↓is_tup_int, ↓is_tup_bool, ↓is_tup_str, ↓is_tup_list, ↓is_tup_tuple, ↓is_tup_dict, ↓is_tup_cls, ↓is_dic_int, ↓is_dic_bool, ↓is_dic_str, ↓is_dic_list, ↓is_dic_tuple, ↓is_dic_dict, ↓is_dic_cls, ↓is_obj_int, ↓is_obj_bool, ↓is_obj_str, ↓is_obj_list, ↓is_obj_tuple, ↓is_obj_dict, ↓is_obj_cls,
  opt_some, opt_ite, opt_ite2, rs_ok, List.getElem?_cons_zero, List.getElem?_cons_succ, List.set_cons_zero, List.set_cons_succ, lstIn_lst, objIn_obj, objOf_dat, objOf_loc, two?, three?, datOf, locIx, intOf, intL, lstD, tupD, blOf, wipeP,
  pAdd_int, pAdd_str, pSub, pMul, pMod, pDiv, pLt, pLe, pGt, pGe, pInt, pAbs, pMax, pMin, pDivmod, tru_bl, tru_int, tru_non, dats, Option.map_some, decide_eq_true_eq, atI0, atI1, atI2, ixN0, ixN1, pEqF_int, pEqT_int, pEqF_str, pEqT_str, p10_4, p10_5, p10_9, p10_10, p10_18, p10_19, p10_29, p10_30, List.length_cons, List.length_nil, true_and, and_true, Bool.not_true, Bool.not_false, if_true, if_false, Bool.false_eq_true, Bool.not_eq_true', decide_eq_false_iff_not, bne_iff_ne, ne_eq, Int.reduceEq, Int.reduceLT, Int.reduceLE, Int.reduceGT, Int.reduceNeg, not_false_eq_true, not_true_eq_false, decide_true, decide_false, eq_self, and_self, sizeLine_eq, Nat.reduceAdd, Nat.reduceLeDiff, Nat.reduceLT, Nat.reduceEqDiff, List.cons_append, List.nil_append, lst1_is, strD, dicD, dicOf_dat, keyOf_str, keyOf_int, kpairs, pKey, pIsN_non, pNotN_non, pIsN_dic, pNotN_dic, pInS_str, seqOf_lst, seqOf_tup, strsOf, strKeys, keyP, List.map_cons, List.map_nil, Option.bind_some, Nat.reduceBEq, ct0, ct1, Bool.true_eq_false, Int.natCast_one, Int.natCast_zero, Int.cast_ofNat_Int, ← hg, push_at, push_set, putP, d1, d2, ne_tb]
    exact h _
theorem run_init3 {x0 x1 x2 : Val} {S : Store} {Q E t} : RsP (M_Ratio_DinitD [x0, x1, x2] S) Q E t = OuP (b_Ratio_DinitD [some x0, some x1, some x2, none] S) (fun _ S1 => Q (.dat .non) S1) Q no2 no2 (fun c fs _ S1 => E c fs S1) .mk := by
  unfold M_Ratio_DinitD
  rw [r_len2, if_pos (show [x0, x1, x2].length = 3 from rfl)]
  exact run_pos (n := 3) rfl rfl
theorem run_init2 {x0 x1 : Val} {S : Store} {Q E t} : RsP (M_Ratio_DinitD [x0, x1] S) Q E t = OuP (b_Ratio_DinitD [some x0, some x1, some (.dat (.int 1)), none] S) (fun _ S1 => Q (.dat .non) S1) Q no2 no2 (fun c fs _ S1 => E c fs S1) .mk := by
  unfold M_Ratio_DinitD
  rw [r_len2, if_neg (show ¬ [x0, x1].length = 3 by simp)]
  exact run_pos (n := 3) rfl rfl
theorem e_mk2 {a b : Int} {S : Store} (hb : b ≠ 0) (ha : Bd 13000 a) (hb' : Bd 13000 b) : mkM 0 M_Ratio_DinitD [.dat (.int a), .dat (.int b)] S = .ok (.dat (ratP (nrm a b))) S := by
  refine eq_of_rsp (t := .mk) ?_
  rw [r_mk, run_init3]
  refine b_init hb ha hb' fun ρ => ?_
  simp -dsimp only [↓r_var, ↓r_K, ↓r_aNil, ↓r_aCons, ↓r_op, ↓r_dat, ↓r_tup, ↓r_lst, ↓r_lstM, ↓r_call, ↓r_cm, ↓r_un, ↓r_negI, ↓r_if, ↓r_val, ↓r_and, ↓r_or, ↓r_not, ↓r_yes, ↓r_andV, ↓r_orV, ↓r_notV, ↓r_fld, ↓r_meth, ↓r_prop, ↓r_ix_lst, ↓r_ix_tup, ↓r_ix_loc, ↓r_len_lst, ↓r_len_tup, ↓r_fm1, ↓r_fm2, ↓r_all, ↓r_app, ↓r_ext, ↓o_seq, ↓o_nil, ↓o_ret, ↓o_set, ↓o_expr, ↓o_if, ↓o_bad, ↓o_par, ↓o_par3, ↓o_asg, ↓o_gNm, ↓o_gTp, ↓o_gsNil, ↓o_gsCons, ↓o_gSb, ↓o_retF, ↓o_fld, ↓o_for, ↓r_iSeq, ↓r_iTpl, ↓r_iRg, ↓r_lc, ↓o_frz, ↓r_iEnm, ↓r_reprB_bl, ↓r_reprB_lst, ↓r_chain, ↓r_iStrM, ↓r_iKeysD, ↓r_iItemsD, ↓r_gDGet, ↓r_gDIn, ↓r_pairs0, ↓r_pairs1, ↓r_disp, ↓r_dc, ↓dcL_nil, ↓r_sortD, ↓r_sortL, ↓r_dictD, ↓r_dictL, ↓r_listD, ↓r_listL, ↓r_listT, ↓r_lenDd, ↓r_len_str, ↓r_jn, ↓r_sl, ↓r_pNone, ↓r_pSome, ↓r_gSlS, ↓r_gSlL, ↓r_ix_str, ↓r_dget2, ↓is_non_int, ↓is_non_bool, ↓is_non_str, ↓is_non_list, ↓is_non_tuple, ↓is_non_dict, ↓is_non_cls, ↓is_bl_int, ↓is_bl_bool, ↓is_bl_str, ↓is_bl_list, ↓is_bl_tuple, ↓is_bl_dict, ↓is_bl_cls, ↓is_int_int, ↓is_int_bool, ↓is_int_str, ↓is_int_list, ↓is_int_tuple, ↓is_int_dict, ↓is_int_cls, ↓is_str_int, ↓is_str_bool, ↓is_str_str, ↓is_str_list, ↓is_str_tuple, ↓is_str_dict, ↓is_str_cls, ↓is_lst_int, ↓is_lst_bool, ↓is_lst_str, ↓is_lst_list, ↓is_lst_tuple, ↓is_lst_dict, ↓is_lst_cls, ↓is_tup_int, ↓is_tup_bool, ↓is_tup_str, ↓is_tup_list, ↓is_tup_tuple, ↓is_tup_dict, ↓is_tup_cls, ↓is_dic_int, ↓is_dic_bool, ↓is_dic_str, ↓is_dic_list, ↓is_dic_tuple, ↓is_dic_dict, ↓is_dic_cls, ↓is_obj_int, ↓is_obj_bool, ↓is_obj_str, ↓is_obj_list, ↓is_obj_tuple, ↓is_obj_dict, ↓is_obj_cls,
  opt_some, opt_ite, opt_ite2, rs_ok, List.getElem?_cons_zero, List.getElem?_cons_succ, List.set_cons_zero, List.set_cons_succ, lstIn_lst, objIn_obj, objOf_dat, objOf_loc, two?, three?, datOf, locIx, intOf, intL, lstD, tupD, blOf, wipeP,
  pAdd_int, pAdd_str, pSub, pMul, pMod, pDiv, pLt, pLe, pGt, pGe, pInt, pAbs, pMax, pMin, pDivmod, tru_bl, tru_int, tru_non, dats, Option.map_some, decide_eq_true_eq, atI0, atI1, atI2, ixN0, ixN1, pEqF_int, pEqT_int, pEqF_str, pEqT_str, p10_4, p10_5, p10_9, p10_10, p10_18, p10_19, p10_29, p10_30, List.length_cons, List.length_nil, true_and, and_true, Bool.not_true, Bool.not_false, if_true, if_false, Bool.false_eq_true, Bool.not_eq_true', decide_eq_false_iff_not, bne_iff_ne, ne_eq, Int.reduceEq, Int.reduceLT, Int.reduceLE, Int.reduceGT, Int.reduceNeg, not_false_eq_true, not_true_eq_false, decide_true, decide_false, eq_self, and_self, sizeLine_eq, Nat.reduceAdd, Nat.reduceLeDiff, Nat.reduceLT, Nat.reduceEqDiff, List.cons_append, List.nil_append, lst1_is, strD, dicD, dicOf_dat, keyOf_str, keyOf_int, kpairs, pKey, pIsN_non, pNotN_non, pIsN_dic, pNotN_dic, pInS_str, seqOf_lst, seqOf_tup, strsOf, strKeys, keyP, List.map_cons, List.map_nil, Option.bind_some, Nat.reduceBEq, ct0, ct1, Bool.true_eq_false, Int.natCast_one, Int.natCast_zero, Int.cast_ofNat_Int, DL.isNon, push_at, take_push]
  rfl
theorem e_mk1 {a : Int} {S : Store} (ha : Bd 13000 a) : mkM 0 M_Ratio_DinitD [.dat (.int a)] S = .ok (.dat (ratP (a, 1))) S := by
  refine eq_of_rsp (t := .mk) ?_
  rw [r_mk, run_init2]
  refine b_init (by decide) ha (bd_one (by decide)) fun ρ => ?_
  simp -dsimp only [↓r_var, ↓r_K, ↓r_aNil, ↓r_aCons, ↓r_op, ↓r_dat, ↓r_tup, ↓r_lst, ↓r_lstM, ↓r_call, ↓r_cm, ↓r_un, ↓r_negI, ↓r_if, ↓r_val, ↓r_and, ↓r_or, ↓r_not, ↓r_yes, ↓r_andV, ↓r_orV, ↓r_notV, ↓r_fld, ↓r_meth, ↓r_prop, ↓r_ix_lst, ↓r_ix_tup, ↓r_ix_loc, ↓r_len_lst, ↓r_len_tup, ↓r_fm1, ↓r_fm2, ↓r_all, ↓r_app, ↓r_ext, ↓o_seq, ↓o_nil, ↓o_ret, ↓o_set, ↓o_expr, ↓o_if, ↓o_bad, ↓o_par, ↓o_par3, ↓o_asg, ↓o_gNm, ↓o_gTp, ↓o_gsNil, ↓o_gsCons, ↓o_gSb, ↓o_retF, ↓o_fld, ↓o_for, ↓r_iSeq, ↓r_iTpl, ↓r_iRg, ↓r_lc, ↓o_frz, ↓r_iEnm, ↓r_reprB_bl, ↓r_reprB_lst, ↓r_chain, ↓r_iStrM, ↓r_iKeysD, ↓r_iItemsD, ↓r_gDGet, ↓r_gDIn, ↓r_pairs0, ↓r_pairs1, ↓r_disp, ↓r_dc, ↓dcL_nil, ↓r_sortD, ↓r_sortL, ↓r_dictD, ↓r_dictL, ↓r_listD, ↓r_listL, ↓r_listT, ↓r_lenDd, ↓r_len_str, ↓r_jn, ↓r_sl, ↓r_pNone, ↓r_pSome, ↓r_gSlS, ↓r_gSlL, ↓r_ix_str, ↓r_dget2, ↓is_non_int, ↓is_non_bool, ↓is_non_str, ↓is_non_list, ↓is_non_tuple, ↓is_non_dict, ↓is_non_cls, ↓is_bl_int, ↓is_bl_bool, ↓is_bl_str, ↓is_bl_list, ↓is_bl_tuple, ↓is_bl_dict, ↓is_bl_cls, ↓is_int_int, ↓is_int_bool, ↓is_int_str, ↓is_int_list, ↓is_int_tuple, ↓is_int_dict, ↓is_int_cls, ↓is_str_int, ↓is_str_bool, ↓is_str_str, ↓is_str_list, ↓is_str_tuple, ↓is_str_dict, ↓is_str_cls, ↓is_lst_int, ↓is_lst_bool, ↓is_lst_str, ↓is_lst_list, ↓is_lst_tuple, ↓is_lst_dict, ↓is_lst_cls, ↓is_tup_int, ↓is_tup_bool, ↓is_tup_str, ↓is_tup_list, ↓is_tup_tuple, ↓is_tup_dict, ↓is_tup_cls, ↓is_dic_int, ↓is_dic_bool, ↓is_dic_str, ↓is_dic_list, ↓is_dic_tuple, ↓is_dic_dict, ↓is_dic_cls, ↓is_obj_int, ↓is_obj_bool, ↓is_obj_str, ↓is_obj_list, ↓is_obj_tuple, ↓is_obj_dict, ↓is_obj_cls,
  opt_some, opt_ite, opt_ite2, rs_ok, List.getElem?_cons_zero, List.getElem?_cons_succ, List.set_cons_zero, List.set_cons_succ, lstIn_lst, objIn_obj, objOf_dat, objOf_loc, two?, three?, datOf, locIx, intOf, intL, lstD, tupD, blOf, wipeP,
  pAdd_int, pAdd_str, pSub, pMul, pMod, pDiv, pLt, pLe, pGt, pGe, pInt, pAbs, pMax, pMin, pDivmod, tru_bl, tru_int, tru_non, dats, Option.map_some, decide_eq_true_eq, atI0, atI1, atI2, ixN0, ixN1, pEqF_int, pEqT_int, pEqF_str, pEqT_str, p10_4, p10_5, p10_9, p10_10, p10_18, p10_19, p10_29, p10_30, List.length_cons, List.length_nil, true_and, and_true, Bool.not_true, Bool.not_false, if_true, if_false, Bool.false_eq_true, Bool.not_eq_true', decide_eq_false_iff_not, bne_iff_ne, ne_eq, Int.reduceEq, Int.reduceLT, Int.reduceLE, Int.reduceGT, Int.reduceNeg, not_false_eq_true, not_true_eq_false, decide_true, decide_false, eq_self, and_self, sizeLine_eq, Nat.reduceAdd, Nat.reduceLeDiff, Nat.reduceLT, Nat.reduceEqDiff, List.cons_append, List.nil_append, lst1_is, strD, dicD, dicOf_dat, keyOf_str, keyOf_int, kpairs, pKey, pIsN_non, pNotN_non, pIsN_dic, pNotN_dic, pInS_str, seqOf_lst, seqOf_tup, strsOf, strKeys, keyP, List.map_cons, List.map_nil, Option.bind_some, Nat.reduceBEq, ct0, ct1, Bool.true_eq_false, Int.natCast_one, Int.natCast_zero, Int.cast_ofNat_Int, DL.isNon, push_at, take_push, nrm_one]
  rfl
theorem e_sign {p : Int × Int} {S : Store} : M_Ratio_sign [.dat (ratP p)] S = .ok (.dat (.int (sgn p.1))) S := by
  refine eq_of_rsp (t := .mk) ?_
  rw [run_Ratio_sign]
  unfold b_Ratio_sign
  simp -dsimp only [↓r_var, ↓r_K, ↓r_aNil, ↓r_aCons, ↓r_op, ↓r_dat, ↓r_tup, ↓r_lst, ↓r_lstM, ↓r_call, ↓r_cm, ↓r_un, ↓r_negI, ↓r_if, ↓r_val, ↓r_and, ↓r_or, ↓r_not, ↓r_yes, ↓r_andV, ↓r_orV, ↓r_notV, ↓r_fld, ↓r_meth, ↓r_prop, ↓r_ix_lst, ↓r_ix_tup, ↓r_ix_loc, ↓r_len_lst, ↓r_len_tup, ↓r_fm1, ↓r_fm2, ↓r_all, ↓r_app, ↓r_ext, ↓o_seq, ↓o_nil, ↓o_ret, ↓o_set, ↓o_expr, ↓o_if, ↓o_bad, ↓o_par, ↓o_par3, ↓o_asg, ↓o_gNm, ↓o_gTp, ↓o_gsNil, ↓o_gsCons, ↓o_gSb, ↓o_retF, ↓o_fld, ↓o_for, ↓r_iSeq, ↓r_iTpl, ↓r_iRg, ↓r_lc, ↓o_frz, ↓r_iEnm, ↓r_reprB_bl, ↓r_reprB_lst, ↓r_chain, ↓r_iStrM, ↓r_iKeysD, ↓r_iItemsD, ↓r_gDGet, ↓r_gDIn, ↓r_pairs0, ↓r_pairs1, ↓r_disp, ↓r_dc, ↓dcL_nil, ↓r_sortD, ↓r_sortL, ↓r_dictD, ↓r_dictL, ↓r_listD, ↓r_listL, ↓r_listT, ↓r_lenDd, ↓r_len_str, ↓r_jn, ↓r_sl, ↓r_pNone, ↓r_pSome, ↓r_gSlS, ↓r_gSlL, ↓r_ix_str, ↓r_dget2, ↓is_non_int, ↓is_non_bool, ↓is_non_str, ↓is_non_list, ↓is_non_tuple, ↓is_non_dict, ↓is_non_cls, ↓is_bl_int, ↓is_bl_bool, ↓is_bl_str, ↓is_bl_list, ↓is_bl_tuple, ↓is_bl_dict, ↓is_bl_cls, ↓is_int_int, ↓is_int_bool, ↓is_int_str, ↓is_int_list, ↓is_int_tuple, ↓is_int_dict, ↓is_int_cls, ↓is_str_int, ↓is_str_bool, ↓is_str_str, ↓is_str_list, ↓is_str_tuple, ↓is_str_dict, ↓is_str_cls, ↓is_lst_int, ↓is_lst_bool, ↓is_lst_str, ↓is_lst_list, ↓is_lst_tuple, ↓is_lst_dict, ↓is_lst_cls, ↓is_tup_int, ↓is_tup_bool, ↓is_tup_str, ↓is_tup_list, ↓is_tup_tuple, ↓is_tup_dict, ↓is_tup_cls, ↓is_dic_int, ↓is_dic_bool, ↓is_dic_str, ↓is_dic_list, ↓is_dic_tuple, ↓is_dic_dict, ↓is_dic_cls, ↓is_obj_int, ↓is_obj_bool, ↓is_obj_str, ↓is_obj_list, ↓is_obj_tuple, ↓is_obj_dict, ↓is_obj_cls,
  opt_some, opt_ite, opt_ite2, rs_ok, List.getElem?_cons_zero, List.getElem?_cons_succ, List.set_cons_zero, List.set_cons_succ, lstIn_lst, objIn_obj, objOf_dat, objOf_loc, two?, three?, datOf, locIx, intOf, intL, lstD, tupD, blOf, wipeP,
  pAdd_int, pAdd_str, pSub, pMul, pMod, pDiv, pLt, pLe, pGt, pGe, pInt, pAbs, pMax, pMin, pDivmod, tru_bl, tru_int, tru_non, dats, Option.map_some, decide_eq_true_eq, atI0, atI1, atI2, ixN0, ixN1, pEqF_int, pEqT_int, pEqF_str, pEqT_str, p10_4, p10_5, p10_9, p10_10, p10_18, p10_19, p10_29, p10_30, List.length_cons, List.length_nil, true_and, and_true, Bool.not_true, Bool.not_false, if_true, if_false, Bool.false_eq_true, Bool.not_eq_true', decide_eq_false_iff_not, bne_iff_ne, ne_eq, Int.reduceEq, Int.reduceLT, Int.reduceLE, Int.reduceGT, Int.reduceNeg, not_false_eq_true, not_true_eq_false, decide_true, decide_false, eq_self, and_self, sizeLine_eq, Nat.reduceAdd, Nat.reduceLeDiff, Nat.reduceLT, Nat.reduceEqDiff, List.cons_append, List.nil_append, lst1_is, strD, dicD, dicOf_dat, keyOf_str, keyOf_int, kpairs, pKey, pIsN_non, pNotN_non, pIsN_dic, pNotN_dic, pInS_str, seqOf_lst, seqOf_tup, strsOf, strKeys, keyP, List.map_cons, List.map_nil, Option.bind_some, Nat.reduceBEq, ct0, ct1, Bool.true_eq_false, Int.natCast_one, Int.natCast_zero, Int.cast_ofNat_Int, objOf_rat]
  rfl
theorem e_str {p : Int × Int} {S : Store} (h : Bq 13000 p) : M_Ratio_DstrD [.dat (ratP p)] S = .ok (.dat (.str (strT p))) S := by
  refine eq_of_rsp (t := .mk) ?_
  rw [run_Ratio_DstrD]
  unfold b_Ratio_DstrD
  have b1 := big_ok h.1
  have b2 := big_ok h.2
  have l1 := txt_len b1
  have l2 := txt_len b2
  simp -dsimp only [↓r_var, ↓r_K, ↓r_aNil, ↓r_aCons, ↓r_op, ↓r_dat, ↓r_tup, ↓r_lst, ↓r_lstM, ↓r_call, ↓r_cm, ↓r_un, ↓r_negI, ↓r_if, ↓r_val, ↓r_and, ↓r_or, ↓r_not, ↓r_yes, ↓r_andV, ↓r_orV, ↓r_notV, ↓r_fld, ↓r_meth, ↓r_prop, ↓r_ix_lst, ↓r_ix_tup, ↓r_ix_loc, ↓r_len_lst, ↓r_len_tup, ↓r_fm1, ↓r_fm2, ↓r_all, ↓r_app, ↓r_ext, ↓o_seq, ↓o_nil, ↓o_ret, ↓o_set, ↓o_expr, ↓o_if, ↓o_bad, ↓o_par, ↓o_par3, ↓o_asg, ↓o_gNm, ↓o_gTp, ↓o_gsNil, ↓o_gsCons, ↓o_gSb, ↓o_retF, ↓o_fld, ↓o_for, ↓r_iSeq, ↓r_iTpl, ↓r_iRg, ↓r_lc, ↓o_frz, ↓r_iEnm, ↓r_reprB_bl, ↓r_reprB_lst, ↓r_chain, ↓r_iStrM, ↓r_iKeysD, ↓r_iItemsD, ↓r_gDGet, ↓r_gDIn, ↓r_pairs0, ↓r_pairs1, ↓r_disp, ↓r_dc, ↓dcL_nil, ↓r_sortD, ↓r_sortL, ↓r_dictD, ↓r_dictL, ↓r_listD, ↓r_listL, ↓r_listT, ↓r_lenDd, ↓r_len_str, ↓r_jn, ↓r_sl, ↓r_pNone, ↓r_pSome, ↓r_gSlS, ↓r_gSlL, ↓r_ix_str, ↓r_dget2, ↓is_non_int, ↓is_non_bool, ↓is_non_str, ↓is_non_list, ↓is_non_tuple, ↓is_non_dict, ↓is_non_cls, ↓is_bl_int, ↓is_bl_bool, ↓is_bl_str, ↓is_bl_list, ↓is_bl_tuple, ↓is_bl_dict, ↓is_bl_cls, ↓is_int_int, ↓is_int_bool, ↓is_int_str, ↓is_int_list, ↓is_int_tuple, ↓is_int_dict, ↓is_int_cls, ↓is_str_int, ↓is_str_bool, ↓is_str_str, ↓is_str_list, ↓is_str_tuple, ↓is_str_dict, ↓is_str_cls, ↓is_lst_int, ↓is_lst_bool, ↓is_lst_str, ↓is_lst_list, ↓is_lst_tuple, ↓is_lst_dict, ↓is_lst_cls, ↓is_tup_int, ↓is_tup_bool, ↓is_tup_str, ↓is_tup_list, ↓is_tup_tuple, ↓is_tup_dict, ↓is_tup_cls, ↓is_dic_int, ↓is_dic_bool, ↓is_dic_str, ↓is_dic_list, ↓is_dic_tuple, ↓is_dic_dict, ↓is_dic_cls, ↓is_obj_int, ↓is_obj_bool, ↓is_obj_str, ↓is_obj_list, ↓is_obj_tuple, ↓is_obj_dict, ↓is_obj_cls,
  opt_some, opt_ite, opt_ite2, rs_ok, List.getElem?_cons_zero, List.getElem?_cons_succ, List.set_cons_zero, List.set_cons_succ, lstIn_lst, objIn_obj, objOf_dat, objOf_loc, two?, three?, datOf, locIx, intOf, intL, lstD, tupD, blOf, wipeP,
  pAdd_int, pAdd_str, pSub, pMul, pMod, pDiv, pLt, pLe, pGt, pGe, pInt, pAbs, pMax, pMin, pDivmod, tru_bl, tru_int, tru_non, dats, Option.map_some, decide_eq_true_eq, atI0, atI1, atI2, ixN0, ixN1, pEqF_int, pEqT_int, pEqF_str, pEqT_str, p10_4, p10_5, p10_9, p10_10, p10_18, p10_19, p10_29, p10_30, List.length_cons, List.length_nil, true_and, and_true, Bool.not_true, Bool.not_false, if_true, if_false, Bool.false_eq_true, Bool.not_eq_true', decide_eq_false_iff_not, bne_iff_ne, ne_eq, Int.reduceEq, Int.reduceLT, Int.reduceLE, Int.reduceGT, Int.reduceNeg, not_false_eq_true, not_true_eq_false, decide_true, decide_false, eq_self, and_self, sizeLine_eq, Nat.reduceAdd, Nat.reduceLeDiff, Nat.reduceLT, Nat.reduceEqDiff, List.cons_append, List.nil_append, lst1_is, strD, dicD, dicOf_dat, keyOf_str, keyOf_int, kpairs, pKey, pIsN_non, pNotN_non, pIsN_dic, pNotN_dic, pInS_str, seqOf_lst, seqOf_tup, strsOf, strKeys, keyP, List.map_cons, List.map_nil, Option.bind_some, Nat.reduceBEq, ct0, ct1, Bool.true_eq_false, Int.natCast_one, Int.natCast_zero, Int.cast_ofNat_Int, ↓r_joinE, ↓r_join1, ↓r_join0, ↓r_fmt, fmt_int, objOf_rat, strOf, b1, b2, empty_app, strLen_append, ln_s, pStrI]
  unfold strT
  split
  · rfl
  · exact ⟨by omega, by omega, by omega, rfl⟩
theorem s_rat {p : Int × Int} {S : Store} {Q E t} (h : Bq 13000 p) : RsP (strM 0 M_Ratio_DstrD [.dat (ratP p)] S) Q E t = Q (.dat (.str (strT p))) S := r_strO (e_str h)
theorem m_parts {n : Nat} {T S : Store} {Q E t} (J : JarF n T S)
    (h : ∀ a b S', Bd 97 a → Bd 97 b → b ≠ 0 → JarF n T S' → Q (.dat (.tup [.int a, .int b])) S') : RsP (M_law_parts [.loc n] S) Q E t := by
  rw [run_law_parts]
  unfold b_law_parts
  walk_at "dl"
  refine m_integer J fun a S1 ha J1 => ?_
  walk_at "dl"
  refine m_integer J1 fun b S2 hb J2 => ?_
  walk_at "dl"
  split
  · rename_i h0
    exact h a b S2 ha hb h0 J2
  · exact h a 1 S2 ha (bd_one (by decide)) (by decide) J2
theorem jar_ints {ns : List Int} {k : Int} (h0 : 0 ≤ k) (h : k < ns.length) : ∃ z, atI (ns.map P.int) k = some (.int z) := by
  obtain ⟨x, e, hm⟩ := atI_in (xs := ns.map P.int) h0 (by rw [List.length_map]; exact h)
  obtain ⟨z, _, rfl⟩ := List.mem_map.mp hm
  exact ⟨z, e⟩
theorem m_jar {ns : List Int} {k : Nat} {S : Store} {Q E t} (hk : k < 64) (h : ∀ S', Jar S.length S' → Q (.loc S.length) S') : RsP (M_law_jar [.dat (.lst (ns.map P.int)), .dat (.int (k : Int))] S) Q E t := by
  rw [run_law_jar]
  unfold b_law_jar
  have fin : ∀ (a b : Int), 0 ≤ a → Jar S.length (S ++ [.lst [.int a, .int b]]) := fun a b ha => ⟨a, b, push_at, ha⟩
  have m1 : ∀ z : Int, mulOk z 40699 = true := fun z => mulR (by decide)
  have m2 : mulOk 52711 (k : Int) = true := mulL (by decide)
  have m3 : mulOk 23 (k : Int) = true := mulL (by decide)
  have mx : ∀ z : Int, 0 ≤ (if z > 0 then z else 0) := fun z => by split <;> omega
  simp -dsimp only [↓r_var, ↓r_K, ↓r_aNil, ↓r_aCons, ↓r_op, ↓r_dat, ↓r_tup, ↓r_lst, ↓r_lstM, ↓r_call, ↓r_cm, ↓r_un, ↓r_negI, ↓r_if, ↓r_val, ↓r_and, ↓r_or, ↓r_not, ↓r_yes, ↓r_andV, ↓r_orV, ↓r_notV, ↓r_fld, ↓r_meth, ↓r_prop, ↓r_ix_lst, ↓r_ix_tup, ↓r_ix_loc, ↓r_len_lst, ↓r_len_tup, ↓r_fm1, ↓r_fm2, ↓r_all, ↓r_app, ↓r_ext, ↓o_seq, ↓o_nil, ↓o_ret, ↓o_set, ↓o_expr, ↓o_if, ↓o_bad, ↓o_par, ↓o_par3, ↓o_asg, ↓o_gNm, ↓o_gTp, ↓o_gsNil, ↓o_gsCons, ↓o_gSb, ↓o_retF, ↓o_fld, ↓o_for, ↓r_iSeq, ↓r_iTpl, ↓r_iRg, ↓r_lc, ↓o_frz, ↓r_iEnm, ↓r_reprB_bl, ↓r_reprB_lst, ↓r_chain, ↓r_iStrM, ↓r_iKeysD, ↓r_iItemsD, ↓r_gDGet, ↓r_gDIn, ↓r_pairs0, ↓r_pairs1, ↓r_disp, ↓r_dc, ↓dcL_nil, ↓r_sortD, ↓r_sortL, ↓r_dictD, ↓r_dictL, ↓r_listD, ↓r_listL, ↓r_listT, ↓r_lenDd, ↓r_len_str, ↓r_jn, ↓r_sl, ↓r_pNone, ↓r_pSome, ↓r_gSlS, ↓r_gSlL, ↓r_ix_str, ↓r_dget2, ↓is_non_int, ↓is_non_bool, ↓is_non_str, ↓is_non_list, ↓is_non_tuple, ↓is_non_dict, ↓is_non_cls, ↓is_bl_int, ↓is_bl_bool, ↓is_bl_str, ↓is_bl_list, ↓is_bl_tuple, ↓is_bl_dict, ↓is_bl_cls, ↓is_int_int, ↓is_int_bool, ↓is_int_str, ↓is_int_list, ↓is_int_tuple, ↓is_int_dict, ↓is_int_cls, ↓is_str_int, ↓is_str_bool, ↓is_str_str, ↓is_str_list, ↓is_str_tuple, ↓is_str_dict, ↓is_str_cls, ↓is_lst_int, ↓is_lst_bool, ↓is_lst_str, ↓is_lst_list, ↓is_lst_tuple, ↓is_lst_dict, ↓is_lst_cls, ↓is_tup_int, ↓is_tup_bool, ↓is_tup_str, ↓is_tup_list, ↓is_tup_tuple, ↓is_tup_dict, ↓is_tup_cls, ↓is_dic_int, ↓is_dic_bool, ↓is_dic_str, ↓is_dic_list, ↓is_dic_tuple, ↓is_dic_dict, ↓is_dic_cls, ↓is_obj_int, ↓is_obj_bool, ↓is_obj_str, ↓is_obj_list, ↓is_obj_tuple, ↓is_obj_dict, ↓is_obj_cls,
  opt_some, opt_ite, opt_ite2, rs_ok, List.getElem?_cons_zero, List.getElem?_cons_succ, List.set_cons_zero, List.set_cons_succ, lstIn_lst, objIn_obj, objOf_dat, objOf_loc, two?, three?, datOf, locIx, intOf, intL, lstD, tupD, blOf, wipeP,
  pAdd_int, pAdd_str, pSub, pMul, pMod, pDiv, pLt, pLe, pGt, pGe, pInt, pAbs, pMax, pMin, pDivmod, tru_bl, tru_int, tru_non, dats, Option.map_some, decide_eq_true_eq, atI0, atI1, atI2, ixN0, ixN1, pEqF_int, pEqT_int, pEqF_str, pEqT_str, p10_4, p10_5, p10_9, p10_10, p10_18, p10_19, p10_29, p10_30, List.length_cons, List.length_nil, true_and, and_true, Bool.not_true, Bool.not_false, if_true, if_false, Bool.false_eq_true, Bool.not_eq_true', decide_eq_false_iff_not, bne_iff_ne, ne_eq, Int.reduceEq, Int.reduceLT, Int.reduceLE, Int.reduceGT, Int.reduceNeg, not_false_eq_true, not_true_eq_false, decide_true, decide_false, eq_self, and_self, sizeLine_eq, Nat.reduceAdd, Nat.reduceLeDiff, Nat.reduceLT, Nat.reduceEqDiff, List.cons_append, List.nil_append, lst1_is, strD, dicD, dicOf_dat, keyOf_str, keyOf_int, kpairs, pKey, pIsN_non, pNotN_non, pIsN_dic, pNotN_dic, pInS_str, seqOf_lst, seqOf_tup, strsOf, strKeys, keyP, List.map_cons, List.map_nil, Option.bind_some, Nat.reduceBEq, ct0, ct1, Bool.true_eq_false, Int.natCast_one, Int.natCast_zero, Int.cast_ofNat_Int, List.length_map]
  split
  · rename_i hlt
    obtain ⟨z, ez⟩ := jar_ints (ns := ns) (k := k) (by omega) (by omega)
    simp -dsimp only [↓r_var, ↓r_K, ↓r_aNil, ↓r_aCons, ↓r_op, ↓r_dat, ↓r_tup, ↓r_lst, ↓r_lstM, ↓r_call, ↓r_cm, ↓r_un, ↓r_negI, ↓r_if, ↓r_val, ↓r_and, ↓r_or, ↓r_not, ↓r_yes, ↓r_andV, ↓r_orV, ↓r_notV, ↓r_fld, ↓r_meth, ↓r_prop, ↓r_ix_lst, ↓r_ix_tup, ↓r_ix_loc, ↓r_len_lst, ↓r_len_tup, ↓r_fm1, ↓r_fm2, ↓r_all, ↓r_app, ↓r_ext, ↓o_seq, ↓o_nil, ↓o_ret, ↓o_set, ↓o_expr, ↓o_if, ↓o_bad, ↓o_par, ↓o_par3, ↓o_asg, ↓o_gNm, ↓o_gTp, ↓o_gsNil, ↓o_gsCons, ↓o_gSb, ↓o_retF, ↓o_fld, ↓o_for, ↓r_iSeq, ↓r_iTpl, ↓r_iRg, ↓r_lc, ↓o_frz, ↓r_iEnm, ↓r_reprB_bl, ↓r_reprB_lst, ↓r_chain, ↓r_iStrM, ↓r_iKeysD, ↓r_iItemsD, ↓r_gDGet, ↓r_gDIn, ↓r_pairs0, ↓r_pairs1, ↓r_disp, ↓r_dc, ↓dcL_nil, ↓r_sortD, ↓r_sortL, ↓r_dictD, ↓r_dictL, ↓r_listD, ↓r_listL, ↓r_listT, ↓r_lenDd, ↓r_len_str, ↓r_jn, ↓r_sl, ↓r_pNone, ↓r_pSome, ↓r_gSlS, ↓r_gSlL, ↓r_ix_str, ↓r_dget2, ↓is_non_int, ↓is_non_bool, ↓is_non_str, ↓is_non_list, ↓is_non_tuple, ↓is_non_dict, ↓is_non_cls, ↓is_bl_int, ↓is_bl_bool, ↓is_bl_str, ↓is_bl_list, ↓is_bl_tuple, ↓is_bl_dict, ↓is_bl_cls, ↓is_int_int, ↓is_int_bool, ↓is_int_str, ↓is_int_list, ↓is_int_tuple, ↓is_int_dict, ↓is_int_cls, ↓is_str_int, ↓is_str_bool, ↓is_str_str, ↓is_str_list, ↓is_str_tuple, ↓is_str_dict, ↓is_str_cls, ↓is_lst_int, ↓is_lst_bool, ↓is_lst_str, ↓is_lst_list, ↓is_lst_tuple, ↓is_lst_dict, ↓is_lst_cls, ↓is_tup_int, ↓is_tup_bool, ↓is_tup_str, ↓is_tup_list, ↓is_tup_tuple, ↓is_tup_dict, ↓is_tup_cls, ↓is_dic_int, ↓is_dic_bool, ↓is_dic_str, ↓is_dic_list, ↓is_dic_tuple, ↓is_dic_dict, ↓is_dic_cls, ↓is_obj_int, ↓is_obj_bool, ↓is_obj_str, ↓is_obj_list, ↓is_obj_tuple, ↓is_obj_dict, ↓is_obj_cls,
  opt_some, opt_ite, opt_ite2, rs_ok, List.getElem?_cons_zero, List.getElem?_cons_succ, List.set_cons_zero, List.set_cons_succ, lstIn_lst, objIn_obj, objOf_dat, objOf_loc, two?, three?, datOf, locIx, intOf, intL, lstD, tupD, blOf, wipeP,
  pAdd_int, pAdd_str, pSub, pMul, pMod, pDiv, pLt, pLe, pGt, pGe, pInt, pAbs, pMax, pMin, pDivmod, tru_bl, tru_int, tru_non, dats, Option.map_some, decide_eq_true_eq, atI0, atI1, atI2, ixN0, ixN1, pEqF_int, pEqT_int, pEqF_str, pEqT_str, p10_4, p10_5, p10_9, p10_10, p10_18, p10_19, p10_29, p10_30, List.length_cons, List.length_nil, true_and, and_true, Bool.not_true, Bool.not_false, if_true, if_false, Bool.false_eq_true, Bool.not_eq_true', decide_eq_false_iff_not, bne_iff_ne, ne_eq, Int.reduceEq, Int.reduceLT, Int.reduceLE, Int.reduceGT, Int.reduceNeg, not_false_eq_true, not_true_eq_false, decide_true, decide_false, eq_self, and_self, sizeLine_eq, Nat.reduceAdd, Nat.reduceLeDiff, Nat.reduceLT, Nat.reduceEqDiff, List.cons_append, List.nil_append, lst1_is, strD, dicD, dicOf_dat, keyOf_str, keyOf_int, kpairs, pKey, pIsN_non, pNotN_non, pIsN_dic, pNotN_dic, pInS_str, seqOf_lst, seqOf_tup, strsOf, strKeys, keyP, List.map_cons, List.map_nil, Option.bind_some, Nat.reduceBEq, ct0, ct1, Bool.true_eq_false, Int.natCast_one, Int.natCast_zero, Int.cast_ofNat_Int, ez, m1, m2]
    exact h _ (fin _ _ (mx _))
  · simp -dsimp only [↓r_var, ↓r_K, ↓r_aNil, ↓r_aCons, ↓r_op, ↓r_dat, ↓r_tup, ↓r_lst, ↓r_lstM, ↓r_call, ↓r_cm, ↓r_un, ↓r_negI, ↓r_if, ↓r_val, ↓r_and, ↓r_or, ↓r_not, ↓r_yes, ↓r_andV, ↓r_orV, ↓r_notV, ↓r_fld, ↓r_meth, ↓r_prop, ↓r_ix_lst, ↓r_ix_tup, ↓r_ix_loc, ↓r_len_lst, ↓r_len_tup, ↓r_fm1, ↓r_fm2, ↓r_all, ↓r_app, ↓r_ext, ↓o_seq, ↓o_nil, ↓o_ret, ↓o_set, ↓o_expr, ↓o_if, ↓o_bad, ↓o_par, ↓o_par3, ↓o_asg, ↓o_gNm, ↓o_gTp, ↓o_gsNil, ↓o_gsCons, ↓o_gSb, ↓o_retF, ↓o_fld, ↓o_for, ↓r_iSeq, ↓r_iTpl, ↓r_iRg, ↓r_lc, ↓o_frz, ↓r_iEnm, ↓r_reprB_bl, ↓r_reprB_lst, ↓r_chain, ↓r_iStrM, ↓r_iKeysD, ↓r_iItemsD, ↓r_gDGet, ↓r_gDIn, ↓r_pairs0, ↓r_pairs1, ↓r_disp, ↓r_dc, ↓dcL_nil, ↓r_sortD, ↓r_sortL, ↓r_dictD, ↓r_dictL, ↓r_listD, ↓r_listL, ↓r_listT, ↓r_lenDd, ↓r_len_str, ↓r_jn, ↓r_sl, ↓r_pNone, ↓r_pSome, ↓r_gSlS, ↓r_gSlL, ↓r_ix_str, ↓r_dget2, ↓is_non_int, ↓is_non_bool, ↓is_non_str, ↓is_non_list, ↓is_non_tuple, ↓is_non_dict, ↓is_non_cls, ↓is_bl_int, ↓is_bl_bool, ↓is_bl_str, ↓is_bl_list, ↓is_bl_tuple, ↓is_bl_dict, ↓is_bl_cls, ↓is_int_int, ↓is_int_bool, ↓is_int_str, ↓is_int_list, ↓is_int_tuple, ↓is_int_dict, ↓is_int_cls, ↓is_str_int, ↓is_str_bool, ↓is_str_str, ↓is_str_list, ↓is_str_tuple, ↓is_str_dict, ↓is_str_cls, ↓is_lst_int, ↓is_lst_bool, ↓is_lst_str, ↓is_lst_list, ↓is_lst_tuple, ↓is_lst_dict, ↓is_lst_cls, ↓is_tup_int, ↓is_tup_bool, ↓is_tup_str, ↓is_tup_list, ↓is_tup_tuple, ↓is_tup_dict, ↓is_tup_cls, ↓is_dic_int, ↓is_dic_bool, ↓is_dic_str, ↓is_dic_list, ↓is_dic_tuple, ↓is_dic_dict, ↓is_dic_cls, ↓is_obj_int, ↓is_obj_bool, ↓is_obj_str, ↓is_obj_list, ↓is_obj_tuple, ↓is_obj_dict, ↓is_obj_cls,
  opt_some, opt_ite, opt_ite2, rs_ok, List.getElem?_cons_zero, List.getElem?_cons_succ, List.set_cons_zero, List.set_cons_succ, lstIn_lst, objIn_obj, objOf_dat, objOf_loc, two?, three?, datOf, locIx, intOf, intL, lstD, tupD, blOf, wipeP,
  pAdd_int, pAdd_str, pSub, pMul, pMod, pDiv, pLt, pLe, pGt, pGe, pInt, pAbs, pMax, pMin, pDivmod, tru_bl, tru_int, tru_non, dats, Option.map_some, decide_eq_true_eq, atI0, atI1, atI2, ixN0, ixN1, pEqF_int, pEqT_int, pEqF_str, pEqT_str, p10_4, p10_5, p10_9, p10_10, p10_18, p10_19, p10_29, p10_30, List.length_cons, List.length_nil, true_and, and_true, Bool.not_true, Bool.not_false, if_true, if_false, Bool.false_eq_true, Bool.not_eq_true', decide_eq_false_iff_not, bne_iff_ne, ne_eq, Int.reduceEq, Int.reduceLT, Int.reduceLE, Int.reduceGT, Int.reduceNeg, not_false_eq_true, not_true_eq_false, decide_true, decide_false, eq_self, and_self, sizeLine_eq, Nat.reduceAdd, Nat.reduceLeDiff, Nat.reduceLT, Nat.reduceEqDiff, List.cons_append, List.nil_append, lst1_is, strD, dicD, dicOf_dat, keyOf_str, keyOf_int, kpairs, pKey, pIsN_non, pNotN_non, pIsN_dic, pNotN_dic, pInS_str, seqOf_lst, seqOf_tup, strsOf, strKeys, keyP, List.map_cons, List.map_nil, Option.bind_some, Nat.reduceBEq, ct0, ct1, Bool.true_eq_false, Int.natCast_one, Int.natCast_zero, Int.cast_ofNat_Int, m1, m2, m3]
    exact h _ (fin _ _ (mx _))
/-! ### forms -/
theorem e_wantI {n : Int} {S : Store} : M_want_number [.dat (.int n)] S = .ok (.dat .non) S := by
  refine eq_of_rsp (t := .mk) ?_
  rw [run_want_number]
  unfold b_want_number
  simp -dsimp only [↓r_var, ↓r_K, ↓r_aNil, ↓r_aCons, ↓r_op, ↓r_dat, ↓r_tup, ↓r_lst, ↓r_lstM, ↓r_call, ↓r_cm, ↓r_un, ↓r_negI, ↓r_if, ↓r_val, ↓r_and, ↓r_or, ↓r_not, ↓r_yes, ↓r_andV, ↓r_orV, ↓r_notV, ↓r_fld, ↓r_meth, ↓r_prop, ↓r_ix_lst, ↓r_ix_tup, ↓r_ix_loc, ↓r_len_lst, ↓r_len_tup, ↓r_fm1, ↓r_fm2, ↓r_all, ↓r_app, ↓r_ext, ↓o_seq, ↓o_nil, ↓o_ret, ↓o_set, ↓o_expr, ↓o_if, ↓o_bad, ↓o_par, ↓o_par3, ↓o_asg, ↓o_gNm, ↓o_gTp, ↓o_gsNil, ↓o_gsCons, ↓o_gSb, ↓o_retF, ↓o_fld, ↓o_for, ↓r_iSeq, ↓r_iTpl, ↓r_iRg, ↓r_lc, ↓o_frz, ↓r_iEnm, ↓r_reprB_bl, ↓r_reprB_lst, ↓r_chain, ↓r_iStrM, ↓r_iKeysD, ↓r_iItemsD, ↓r_gDGet, ↓r_gDIn, ↓r_pairs0, ↓r_pairs1, ↓r_disp, ↓r_dc, ↓dcL_nil, ↓r_sortD, ↓r_sortL, ↓r_dictD, ↓r_dictL, ↓r_listD, ↓r_listL, ↓r_listT, ↓r_lenDd, ↓r_len_str, ↓r_jn, ↓r_sl, ↓r_pNone, ↓r_pSome, ↓r_gSlS, ↓r_gSlL, ↓r_ix_str, ↓r_dget2, ↓is_non_int, ↓is_non_bool, ↓is_non_str, ↓is_non_list, ↓is_non_tuple, ↓is_non_dict, ↓is_non_cls, ↓is_bl_int, ↓is_bl_bool, ↓is_bl_str, ↓is_bl_list, ↓is_bl_tuple, ↓is_bl_dict, ↓is_bl_cls, ↓is_int_int, ↓is_int_bool, ↓is_int_str, ↓is_int_list, ↓is_int_tuple, ↓is_int_dict, ↓is_int_cls, ↓is_str_int, ↓is_str_bool, ↓is_str_str, ↓is_str_list, ↓is_str_tuple, ↓is_str_dict, ↓is_str_cls, ↓is_lst_int, ↓is_lst_bool, ↓is_lst_str, ↓is_lst_list, ↓is_lst_tuple, ↓is_lst_dict, ↓is_lst_cls, ↓is_tup_int, ↓is_tup_bool, ↓is_tup_str, ↓is_tup_list, ↓is_tup_tuple, ↓is_tup_dict, ↓is_tup_cls, ↓is_dic_int, ↓is_dic_bool, ↓is_dic_str, ↓is_dic_list, ↓is_dic_tuple, ↓is_dic_dict, ↓is_dic_cls, ↓is_obj_int, ↓is_obj_bool, ↓is_obj_str, ↓is_obj_list, ↓is_obj_tuple, ↓is_obj_dict, ↓is_obj_cls,
  opt_some, opt_ite, opt_ite2, rs_ok, List.getElem?_cons_zero, List.getElem?_cons_succ, List.set_cons_zero, List.set_cons_succ, lstIn_lst, objIn_obj, objOf_dat, objOf_loc, two?, three?, datOf, locIx, intOf, intL, lstD, tupD, blOf, wipeP,
  pAdd_int, pAdd_str, pSub, pMul, pMod, pDiv, pLt, pLe, pGt, pGe, pInt, pAbs, pMax, pMin, pDivmod, tru_bl, tru_int, tru_non, dats, Option.map_some, decide_eq_true_eq, atI0, atI1, atI2, ixN0, ixN1, pEqF_int, pEqT_int, pEqF_str, pEqT_str, p10_4, p10_5, p10_9, p10_10, p10_18, p10_19, p10_29, p10_30, List.length_cons, List.length_nil, true_and, and_true, Bool.not_true, Bool.not_false, if_true, if_false, Bool.false_eq_true, Bool.not_eq_true', decide_eq_false_iff_not, bne_iff_ne, ne_eq, Int.reduceEq, Int.reduceLT, Int.reduceLE, Int.reduceGT, Int.reduceNeg, not_false_eq_true, not_true_eq_false, decide_true, decide_false, eq_self, and_self, sizeLine_eq, Nat.reduceAdd, Nat.reduceLeDiff, Nat.reduceLT, Nat.reduceEqDiff, List.cons_append, List.nil_append, lst1_is, strD, dicD, dicOf_dat, keyOf_str, keyOf_int, kpairs, pKey, pIsN_non, pNotN_non, pIsN_dic, pNotN_dic, pInS_str, seqOf_lst, seqOf_tup, strsOf, strKeys, keyP, List.map_cons, List.map_nil, Option.bind_some, Nat.reduceBEq, ct0, ct1, Bool.true_eq_false, Int.natCast_one, Int.natCast_zero, Int.cast_ofNat_Int, e_isnum (x := .int n) trivial, kNum]
theorem e_asI {n : Int} {S : Store} (h : Bd 13000 n) : M_as_ratio [.dat (.int n)] S = .ok (.dat (ratP (n, 1))) S := by
  refine eq_of_rsp (t := .mk) ?_
  rw [run_as_ratio]
  unfold b_as_ratio
  simp -dsimp only [↓r_var, ↓r_K, ↓r_aNil, ↓r_aCons, ↓r_op, ↓r_dat, ↓r_tup, ↓r_lst, ↓r_lstM, ↓r_call, ↓r_cm, ↓r_un, ↓r_negI, ↓r_if, ↓r_val, ↓r_and, ↓r_or, ↓r_not, ↓r_yes, ↓r_andV, ↓r_orV, ↓r_notV, ↓r_fld, ↓r_meth, ↓r_prop, ↓r_ix_lst, ↓r_ix_tup, ↓r_ix_loc, ↓r_len_lst, ↓r_len_tup, ↓r_fm1, ↓r_fm2, ↓r_all, ↓r_app, ↓r_ext, ↓o_seq, ↓o_nil, ↓o_ret, ↓o_set, ↓o_expr, ↓o_if, ↓o_bad, ↓o_par, ↓o_par3, ↓o_asg, ↓o_gNm, ↓o_gTp, ↓o_gsNil, ↓o_gsCons, ↓o_gSb, ↓o_retF, ↓o_fld, ↓o_for, ↓r_iSeq, ↓r_iTpl, ↓r_iRg, ↓r_lc, ↓o_frz, ↓r_iEnm, ↓r_reprB_bl, ↓r_reprB_lst, ↓r_chain, ↓r_iStrM, ↓r_iKeysD, ↓r_iItemsD, ↓r_gDGet, ↓r_gDIn, ↓r_pairs0, ↓r_pairs1, ↓r_disp, ↓r_dc, ↓dcL_nil, ↓r_sortD, ↓r_sortL, ↓r_dictD, ↓r_dictL, ↓r_listD, ↓r_listL, ↓r_listT, ↓r_lenDd, ↓r_len_str, ↓r_jn, ↓r_sl, ↓r_pNone, ↓r_pSome, ↓r_gSlS, ↓r_gSlL, ↓r_ix_str, ↓r_dget2, ↓is_non_int, ↓is_non_bool, ↓is_non_str, ↓is_non_list, ↓is_non_tuple, ↓is_non_dict, ↓is_non_cls, ↓is_bl_int, ↓is_bl_bool, ↓is_bl_str, ↓is_bl_list, ↓is_bl_tuple, ↓is_bl_dict, ↓is_bl_cls, ↓is_int_int, ↓is_int_bool, ↓is_int_str, ↓is_int_list, ↓is_int_tuple, ↓is_int_dict, ↓is_int_cls, ↓is_str_int, ↓is_str_bool, ↓is_str_str, ↓is_str_list, ↓is_str_tuple, ↓is_str_dict, ↓is_str_cls, ↓is_lst_int, ↓is_lst_bool, ↓is_lst_str, ↓is_lst_list, ↓is_lst_tuple, ↓is_lst_dict, ↓is_lst_cls, ↓is_tup_int, ↓is_tup_bool, ↓is_tup_str, ↓is_tup_list, ↓is_tup_tuple, ↓is_tup_dict, ↓is_tup_cls, ↓is_dic_int, ↓is_dic_bool, ↓is_dic_str, ↓is_dic_list, ↓is_dic_tuple, ↓is_dic_dict, ↓is_dic_cls, ↓is_obj_int, ↓is_obj_bool, ↓is_obj_str, ↓is_obj_list, ↓is_obj_tuple, ↓is_obj_dict, ↓is_obj_cls,
  opt_some, opt_ite, opt_ite2, rs_ok, List.getElem?_cons_zero, List.getElem?_cons_succ, List.set_cons_zero, List.set_cons_succ, lstIn_lst, objIn_obj, objOf_dat, objOf_loc, two?, three?, datOf, locIx, intOf, intL, lstD, tupD, blOf, wipeP,
  pAdd_int, pAdd_str, pSub, pMul, pMod, pDiv, pLt, pLe, pGt, pGe, pInt, pAbs, pMax, pMin, pDivmod, tru_bl, tru_int, tru_non, dats, Option.map_some, decide_eq_true_eq, atI0, atI1, atI2, ixN0, ixN1, pEqF_int, pEqT_int, pEqF_str, pEqT_str, p10_4, p10_5, p10_9, p10_10, p10_18, p10_19, p10_29, p10_30, List.length_cons, List.length_nil, true_and, and_true, Bool.not_true, Bool.not_false, if_true, if_false, Bool.false_eq_true, Bool.not_eq_true', decide_eq_false_iff_not, bne_iff_ne, ne_eq, Int.reduceEq, Int.reduceLT, Int.reduceLE, Int.reduceGT, Int.reduceNeg, not_false_eq_true, not_true_eq_false, decide_true, decide_false, eq_self, and_self, sizeLine_eq, Nat.reduceAdd, Nat.reduceLeDiff, Nat.reduceLT, Nat.reduceEqDiff, List.cons_append, List.nil_append, lst1_is, strD, dicD, dicOf_dat, keyOf_str, keyOf_int, kpairs, pKey, pIsN_non, pNotN_non, pIsN_dic, pNotN_dic, pInS_str, seqOf_lst, seqOf_tup, strsOf, strKeys, keyP, List.map_cons, List.map_nil, Option.bind_some, Nat.reduceBEq, ct0, ct1, Bool.true_eq_false, Int.natCast_one, Int.natCast_zero, Int.cast_ofNat_Int, e_mk1 h]
def formP (kps : List (Key × P)) (p : Int × Int) : P := .obj 1 [("own_weights", .dic kps), ("own_number", ratP p)]
theorem e_wz0 {S : Store} : M_without_zeros [.dat (.dic [])] S = .ok (.dat (.dic [])) S := by
  refine eq_of_rsp (t := .mk) ?_
  rw [run_without_zeros]
  unfold b_without_zeros
  simp -dsimp only [↓r_var, ↓r_K, ↓r_aNil, ↓r_aCons, ↓r_op, ↓r_dat, ↓r_tup, ↓r_lst, ↓r_lstM, ↓r_call, ↓r_cm, ↓r_un, ↓r_negI, ↓r_if, ↓r_val, ↓r_and, ↓r_or, ↓r_not, ↓r_yes, ↓r_andV, ↓r_orV, ↓r_notV, ↓r_fld, ↓r_meth, ↓r_prop, ↓r_ix_lst, ↓r_ix_tup, ↓r_ix_loc, ↓r_len_lst, ↓r_len_tup, ↓r_fm1, ↓r_fm2, ↓r_all, ↓r_app, ↓r_ext, ↓o_seq, ↓o_nil, ↓o_ret, ↓o_set, ↓o_expr, ↓o_if, ↓o_bad, ↓o_par, ↓o_par3, ↓o_asg, ↓o_gNm, ↓o_gTp, ↓o_gsNil, ↓o_gsCons, ↓o_gSb, ↓o_retF, ↓o_fld, ↓o_for, ↓r_iSeq, ↓r_iTpl, ↓r_iRg, ↓r_lc, ↓o_frz, ↓r_iEnm, ↓r_reprB_bl, ↓r_reprB_lst, ↓r_chain, ↓r_iStrM, ↓r_iKeysD, ↓r_iItemsD, ↓r_gDGet, ↓r_gDIn, ↓r_pairs0, ↓r_pairs1, ↓r_disp, ↓r_dc, ↓dcL_nil, ↓r_sortD, ↓r_sortL, ↓r_dictD, ↓r_dictL, ↓r_listD, ↓r_listL, ↓r_listT, ↓r_lenDd, ↓r_len_str, ↓r_jn, ↓r_sl, ↓r_pNone, ↓r_pSome, ↓r_gSlS, ↓r_gSlL, ↓r_ix_str, ↓r_dget2, ↓is_non_int, ↓is_non_bool, ↓is_non_str, ↓is_non_list, ↓is_non_tuple, ↓is_non_dict, ↓is_non_cls, ↓is_bl_int, ↓is_bl_bool, ↓is_bl_str, ↓is_bl_list, ↓is_bl_tuple, ↓is_bl_dict, ↓is_bl_cls, ↓is_int_int, ↓is_int_bool, ↓is_int_str, ↓is_int_list, ↓is_int_tuple, ↓is_int_dict, ↓is_int_cls, ↓is_str_int, ↓is_str_bool, ↓is_str_str, ↓is_str_list, ↓is_str_tuple, ↓is_str_dict, ↓is_str_cls, ↓is_lst_int, ↓is_lst_bool, ↓is_lst_str, ↓is_lst_list, ↓is_lst_tuple, ↓is_lst_dict, ↓is_lst_cls, ↓is_tup_int, ↓is_tup_bool, ↓is_tup_str, ↓is_tup_list, ↓is_tup_tuple, ↓is_tup_dict, ↓is_tup_cls, ↓is_dic_int, ↓is_dic_bool, ↓is_dic_str, ↓is_dic_list, ↓is_dic_tuple, ↓is_dic_dict, ↓is_dic_cls, ↓is_obj_int, ↓is_obj_bool, ↓is_obj_str, ↓is_obj_list, ↓is_obj_tuple, ↓is_obj_dict, ↓is_obj_cls,
  opt_some, opt_ite, opt_ite2, rs_ok, List.getElem?_cons_zero, List.getElem?_cons_succ, List.set_cons_zero, List.set_cons_succ, lstIn_lst, objIn_obj, objOf_dat, objOf_loc, two?, three?, datOf, locIx, intOf, intL, lstD, tupD, blOf, wipeP,
  pAdd_int, pAdd_str, pSub, pMul, pMod, pDiv, pLt, pLe, pGt, pGe, pInt, pAbs, pMax, pMin, pDivmod, tru_bl, tru_int, tru_non, dats, Option.map_some, decide_eq_true_eq, atI0, atI1, atI2, ixN0, ixN1, pEqF_int, pEqT_int, pEqF_str, pEqT_str, p10_4, p10_5, p10_9, p10_10, p10_18, p10_19, p10_29, p10_30, List.length_cons, List.length_nil, true_and, and_true, Bool.not_true, Bool.not_false, if_true, if_false, Bool.false_eq_true, Bool.not_eq_true', decide_eq_false_iff_not, bne_iff_ne, ne_eq, Int.reduceEq, Int.reduceLT, Int.reduceLE, Int.reduceGT, Int.reduceNeg, not_false_eq_true, not_true_eq_false, decide_true, decide_false, eq_self, and_self, sizeLine_eq, Nat.reduceAdd, Nat.reduceLeDiff, Nat.reduceLT, Nat.reduceEqDiff, List.cons_append, List.nil_append, lst1_is, strD, dicD, dicOf_dat, keyOf_str, keyOf_int, kpairs, pKey, pIsN_non, pNotN_non, pIsN_dic, pNotN_dic, pInS_str, seqOf_lst, seqOf_tup, strsOf, strKeys, keyP, List.map_cons, List.map_nil, Option.bind_some, Nat.reduceBEq, ct0, ct1, Bool.true_eq_false, Int.natCast_one, Int.natCast_zero, Int.cast_ofNat_Int, srtS]
theorem run_form3 {x0 x1 x2 : Val} {S : Store} {Q E t} : RsP (M_Form_DinitD [x0, x1, x2] S) Q E t = OuP (b_Form_DinitD [some x0, some x1, some x2] S) (fun _ S1 => Q (.dat .non) S1) Q no2 no2 (fun c fs _ S1 => E c fs S1) .mk := by
  unfold M_Form_DinitD
  rw [r_len2, if_pos (show [x0, x1, x2].length = 3 from rfl)]
  exact run_pos (n := 3) rfl rfl
theorem run_form2 {x0 x1 : Val} {S : Store} {Q E t} : RsP (M_Form_DinitD [x0, x1] S) Q E t = OuP (b_Form_DinitD [some x0, some x1, some (.dat (.int 0))] S) (fun _ S1 => Q (.dat .non) S1) Q no2 no2 (fun c fs _ S1 => E c fs S1) .mk := by
  unfold M_Form_DinitD
  rw [r_len2, if_neg (show ¬ [x0, x1].length = 3 by simp), r_len2, if_pos (show [x0, x1].length = 2 from rfl)]
  exact run_pos (n := 3) rfl rfl
theorem ne_wn : ((Str.ofString "own_weights") = Str.ofString "own_number") = False := by
  apply eq_false
  decide
theorem e_formN {n : Int} {S : Store} (h : Bd 13000 n) : mkM 1 M_Form_DinitD [.dat .non, .dat (.int n)] S = .ok (.dat (formP [] (n, 1))) S := by
  refine eq_of_rsp (t := .mk) ?_
  rw [r_mk, run_form3]
  unfold b_Form_DinitD
  simp -dsimp only [↓r_var, ↓r_K, ↓r_aNil, ↓r_aCons, ↓r_op, ↓r_dat, ↓r_tup, ↓r_lst, ↓r_lstM, ↓r_call, ↓r_cm, ↓r_un, ↓r_negI, ↓r_if, ↓r_val, ↓r_and, ↓r_or, ↓r_not, ↓r_yes, ↓r_andV, ↓r_orV, ↓r_notV, ↓r_fld, ↓r_meth, ↓r_prop, ↓r_ix_lst, ↓r_ix_tup, ↓r_ix_loc, ↓r_len_lst, ↓r_len_tup, ↓r_fm1, ↓r_fm2, ↓r_all, ↓r_app, ↓r_ext, ↓o_seq, ↓o_nil, ↓o_ret, ↓o_set, ↓o_expr, ↓o_if, ↓o_bad, ↓o_par, ↓o_par3, ↓o_asg, ↓o_gNm, ↓o_gTp, ↓o_gsNil, ↓o_gsCons, ↓o_gSb, ↓o_retF, ↓o_fld, ↓o_for, ↓r_iSeq, ↓r_iTpl, ↓r_iRg, ↓r_lc, ↓o_frz, ↓r_iEnm, ↓r_reprB_bl, ↓r_reprB_lst, ↓r_chain, ↓r_iStrM, ↓r_iKeysD, ↓r_iItemsD, ↓r_gDGet, ↓r_gDIn, ↓r_pairs0, ↓r_pairs1, ↓r_disp, ↓r_dc, ↓dcL_nil, ↓r_sortD, ↓r_sortL, ↓r_dictD, ↓r_dictL, ↓r_listD, ↓r_listL, ↓r_listT, ↓r_lenDd, ↓r_len_str, ↓r_jn, ↓r_sl, ↓r_pNone, ↓r_pSome, ↓r_gSlS, ↓r_gSlL, ↓r_ix_str, ↓r_dget2, ↓is_non_int, ↓is_non_bool, ↓is_non_str, ↓is_non_list, ↓is_non_tuple, ↓is_non_dict, ↓is_non_cls, ↓is_bl_int, ↓is_bl_bool, ↓is_bl_str, ↓is_bl_list, ↓is_bl_tuple, ↓is_bl_dict, ↓is_bl_cls, ↓is_int_int, ↓is_int_bool, ↓is_int_str, ↓is_int_list, ↓is_int_tuple, ↓is_int_dict, ↓is_int_cls, ↓is_str_int, ↓is_str_bool, ↓is_str_str, ↓is_str_list, ↓is_str_tuple, ↓is_str_dict, ↓is_str_cls, ↓is_lst_int, ↓is_lst_bool, ↓is_lst_str, ↓is_lst_list, ↓is_lst_tuple, ↓is_lst_dict, ↓is_lst_cls, ↓is_tup_int, ↓is_tup_bool, ↓is_tup_str, ↓is_tup_list, ↓is_tup_tuple, ↓is_tup_dict, ↓is_tup_cls, ↓is_dic_int, ↓is_dic_bool, ↓is_dic_str, ↓is_dic_list, ↓is_dic_tuple, ↓is_dic_dict, ↓is_dic_cls, ↓is_obj_int, ↓is_obj_bool, ↓is_obj_str, ↓is_obj_list, ↓is_obj_tuple, ↓is_obj_dict, ↓is_obj_cls,
  opt_some, opt_ite, opt_ite2, rs_ok, List.getElem?_cons_zero, List.getElem?_cons_succ, List.set_cons_zero, List.set_cons_succ, lstIn_lst, objIn_obj, objOf_dat, objOf_loc, two?, three?, datOf, locIx, intOf, intL, lstD, tupD, blOf, wipeP,
  pAdd_int, pAdd_str, pSub, pMul, pMod, pDiv, pLt, pLe, pGt, pGe, pInt, pAbs, pMax, pMin, pDivmod, tru_bl, tru_int, tru_non, dats, Option.map_some, decide_eq_true_eq, atI0, atI1, atI2, ixN0, ixN1, pEqF_int, pEqT_int, pEqF_str, pEqT_str, p10_4, p10_5, p10_9, p10_10, p10_18, p10_19, p10_29, p10_30, List.length_cons, List.length_nil, true_and, and_true, Bool.not_true, Bool.not_false, if_true, if_false, Bool.false_eq_true, Bool.not_eq_true', decide_eq_false_iff_not, bne_iff_ne, ne_eq, Int.reduceEq, Int.reduceLT, Int.reduceLE, Int.reduceGT, Int.reduceNeg, not_false_eq_true, not_true_eq_false, decide_true, decide_false, eq_self, and_self, sizeLine_eq, Nat.reduceAdd, Nat.reduceLeDiff, Nat.reduceLT, Nat.reduceEqDiff, List.cons_append, List.nil_append, lst1_is, strD, dicD, dicOf_dat, keyOf_str, keyOf_int, kpairs, pKey, pIsN_non, pNotN_non, pIsN_dic, pNotN_dic, pInS_str, seqOf_lst, seqOf_tup, strsOf, strKeys, keyP, List.map_cons, List.map_nil, Option.bind_some, Nat.reduceBEq, ct0, ct1, Bool.true_eq_false, Int.natCast_one, Int.natCast_zero, Int.cast_ofNat_Int, e_wantI, e_wz0, e_asI h, push_at, push_set, putP, ne_wn, DL.isNon, take_push]
  rfl
theorem e_law_common {a b : Int} {S : Store} : M_law_common [.dat (.int a), .dat (.int b)] S = .ok (.dat (.int (Int.gcd a b))) S := by
  refine eq_of_rsp (t := .mk) ?_
  rw [run_law_common]
  unfold b_law_common
  walk_at "dl"
  refine gcd_loop (a := absI a) (b := absI b) (Q := fun _ _ => True) (E := fun _ _ _ => True) (fun x y S hx hy Q E t h => ?_) (absI_nn a) (absI_nn b) ?_
  · have hy0 : y ≠ 0 := by omega
    simp -dsimp only [↓r_var, ↓r_K, ↓r_aNil, ↓r_aCons, ↓r_op, ↓r_dat, ↓r_tup, ↓r_lst, ↓r_lstM, ↓r_call, ↓r_cm, ↓r_un, ↓r_negI, ↓r_if, ↓r_val, ↓r_and, ↓r_or, ↓r_not, ↓r_yes, ↓r_andV, ↓r_orV, ↓r_notV, ↓r_fld, ↓r_meth, ↓r_prop, ↓r_ix_lst, ↓r_ix_tup, ↓r_ix_loc, ↓r_len_lst, ↓r_len_tup, ↓r_fm1, ↓r_fm2, ↓r_all, ↓r_app, ↓r_ext, ↓o_seq, ↓o_nil, ↓o_ret, ↓o_set, ↓o_expr, ↓o_if, ↓o_bad, ↓o_par, ↓o_par3, ↓o_asg, ↓o_gNm, ↓o_gTp, ↓o_gsNil, ↓o_gsCons, ↓o_gSb, ↓o_retF, ↓o_fld, ↓o_for, ↓r_iSeq, ↓r_iTpl, ↓r_iRg, ↓r_lc, ↓o_frz, ↓r_iEnm, ↓r_reprB_bl, ↓r_reprB_lst, ↓r_chain, ↓r_iStrM, ↓r_iKeysD, ↓r_iItemsD, ↓r_gDGet, ↓r_gDIn, ↓r_pairs0, ↓r_pairs1, ↓r_disp, ↓r_dc, ↓dcL_nil, ↓r_sortD, ↓r_sortL, ↓r_dictD, ↓r_dictL, ↓r_listD, ↓r_listL, ↓r_listT, ↓r_lenDd, ↓r_len_str, ↓r_jn, ↓r_sl, ↓r_pNone, ↓r_pSome, ↓r_gSlS, ↓r_gSlL, ↓r_ix_str, ↓r_dget2, ↓is_non_int, ↓is_non_bool, ↓is_non_str, ↓is_non_list, ↓is_non_tuple, ↓is_non_dict, ↓is_non_cls, ↓is_bl_int, ↓is_bl_bool, ↓is_bl_str, ↓is_bl_list, ↓is_bl_tuple, ↓is_bl_dict, ↓is_bl_cls, ↓is_int_int, ↓is_int_bool, ↓is_int_str, ↓is_int_list, ↓is_int_tuple, ↓is_int_dict, ↓is_int_cls, ↓is_str_int, ↓is_str_bool, ↓is_str_str, ↓is_str_list, ↓is_str_tuple, ↓is_str_dict, ↓is_str_cls, ↓is_lst_int, ↓is_lst_bool, ↓is_lst_str, ↓is_lst_list, ↓is_lst_tuple, ↓is_lst_dict, ↓is_lst_cls, ↓is_tup_int, ↓is_tup_bool, ↓is_tup_str, ↓is_tup_list, ↓is_tup_tuple, ↓is_tup_dict, ↓is_tup_cls, ↓is_dic_int, ↓is_dic_bool, ↓is_dic_str, ↓is_dic_list, ↓is_dic_tuple, ↓is_dic_dict, ↓is_dic_cls, ↓is_obj_int, ↓is_obj_bool, ↓is_obj_str, ↓is_obj_list, ↓is_obj_tuple, ↓is_obj_dict, ↓is_obj_cls,
  opt_some, opt_ite, opt_ite2, rs_ok, List.getElem?_cons_zero, List.getElem?_cons_succ, List.set_cons_zero, List.set_cons_succ, lstIn_lst, objIn_obj, objOf_dat, objOf_loc, two?, three?, datOf, locIx, intOf, intL, lstD, tupD, blOf, wipeP,
  pAdd_int, pAdd_str, pSub, pMul, pMod, pDiv, pLt, pLe, pGt, pGe, pInt, pAbs, pMax, pMin, pDivmod, tru_bl, tru_int, tru_non, dats, Option.map_some, decide_eq_true_eq, atI0, atI1, atI2, ixN0, ixN1, pEqF_int, pEqT_int, pEqF_str, pEqT_str, p10_4, p10_5, p10_9, p10_10, p10_18, p10_19, p10_29, p10_30, List.length_cons, List.length_nil, true_and, and_true, Bool.not_true, Bool.not_false, if_true, if_false, Bool.false_eq_true, Bool.not_eq_true', decide_eq_false_iff_not, bne_iff_ne, ne_eq, Int.reduceEq, Int.reduceLT, Int.reduceLE, Int.reduceGT, Int.reduceNeg, not_false_eq_true, not_true_eq_false, decide_true, decide_false, eq_self, and_self, sizeLine_eq, Nat.reduceAdd, Nat.reduceLeDiff, Nat.reduceLT, Nat.reduceEqDiff, List.cons_append, List.nil_append, lst1_is, strD, dicD, dicOf_dat, keyOf_str, keyOf_int, kpairs, pKey, pIsN_non, pNotN_non, pIsN_dic, pNotN_dic, pInS_str, seqOf_lst, seqOf_tup, strsOf, strKeys, keyP, List.map_cons, List.map_nil, Option.bind_some, Nat.reduceBEq, ct0, ct1, Bool.true_eq_false, Int.natCast_one, Int.natCast_zero, Int.cast_ofNat_Int, hy0]
    rw [Int.fmod_eq_emod_of_nonneg _ (by omega)]
    exact h
  · rw [gcd_abs]
    walk_at "dl"
theorem e_law_lowest {a b : Int} {S : Store} (hb : b ≠ 0) (ha : Bd 13000 a) (hb' : Bd 13000 b) : M_law_lowest [.dat (.int a), .dat (.int b)] S = .ok (.dat (pairP (nrm a b))) S := by
  refine eq_of_rsp (t := .mk) ?_
  rw [run_law_lowest]
  unfold b_law_lowest
  have hg : dvr a b = if 0 < b then (Int.gcd a b : Int) * 1 else (Int.gcd a b : Int) * -1 := by
    unfold dvr
    split <;> split <;> omega
  have d0 := dvr_ne (a := a) hb
  have d1 := div_ok d0 ha
  have d2 := div_ok d0 hb'
  have m1 : mulOk (Int.gcd a b) 1 = true := mulR (by decide)
  have m2 : mulOk (Int.gcd a b) (-1) = true := mulR (by decide)
  simp -dsimp only [↓r_var, ↓r_K, ↓r_aNil, ↓r_aCons, ↓r_op, ↓r_dat, ↓r_tup, ↓r_lst, ↓r_lstM, ↓r_call, ↓r_cm, ↓r_un, ↓r_negI, ↓r_if, ↓r_val, ↓r_and, ↓r_or, ↓r_not, ↓r_yes, ↓r_andV, ↓r_orV, ↓r_notV, ↓r_fld, ↓r_meth, ↓r_prop, ↓r_ix_lst, ↓r_ix_tup, ↓r_ix_loc, ↓r_len_lst, ↓r_len_tup, ↓r_fm1, ↓r_fm2, ↓r_all, ↓r_app, ↓r_ext, ↓o_seq, ↓o_nil, ↓o_ret, ↓o_set, ↓o_expr, ↓o_if, ↓o_bad, ↓o_par, ↓o_par3, ↓o_asg, ↓o_gNm, ↓o_gTp, ↓o_gsNil, ↓o_gsCons, ↓o_gSb, ↓o_retF, ↓o_fld, ↓o_for, ↓r_iSeq, ↓r_iTpl, ↓r_iRg, ↓r_lc, ↓o_frz, ↓r_iEnm, ↓r_reprB_bl, ↓r_reprB_lst, ↓r_chain, ↓r_iStrM, ↓r_iKeysD, ↓r_iItemsD, ↓r_gDGet, ↓r_gDIn, ↓r_pairs0, ↓r_pairs1, ↓r_disp, ↓r_dc, ↓dcL_nil, ↓r_sortD, ↓r_sortL, ↓r_dictD, ↓r_dictL, ↓r_listD, ↓r_listL, ↓r_listT, ↓r_lenDd, ↓r_len_str, ↓r_jn, ↓r_sl, ↓r_pNone, ↓r_pSome, ↓r_gSlS, ↓r_gSlL, ↓r_ix_str, ↓r_dget2, ↓is_non_int, ↓is_non_bool, ↓is_non_str, ↓is_non_list, ↓is_non_tuple, ↓is_non_dict, ↓is_non_cls, ↓is_bl_int, ↓is_bl_bool, ↓is_bl_str, ↓is_bl_list, ↓is_bl_tuple, ↓is_bl_dict, ↓is_bl_cls, ↓is_int_int, ↓is_int_bool, ↓is_int_str, ↓is_int_list, ↓is_int_tuple, ↓is_int_dict, ↓is_int_cls, ↓is_str_int, ↓is_str_bool, ↓is_str_str, ↓is_str_list, ↓is_str_tuple, ↓is_str_dict, ↓is_str_cls, ↓is_lst_int, ↓is_lst_bool, ↓is_lst_str, ↓is_lst_list, ↓is_lst_tuple, ↓is_lst_dict, ↓is_lst_cls, ↓is_tup_int, ↓is_tup_bool, ↓is_tup_str, ↓is_tup_list, ↓is_tup_tuple, ↓is_tup_dict, ↓is_tup_cls, ↓is_dic_int, ↓is_dic_bool, ↓is_dic_str, ↓is_dic_list, ↓is_dic_tuple, ↓is_dic_dict, ↓is_dic_cls, ↓is_obj_int, ↓is_obj_bool, ↓is_obj_str, ↓is_obj_list, ↓is_obj_tuple, ↓is_obj_dict, ↓is_obj_cls,
  opt_some, opt_ite, opt_ite2, rs_ok, List.getElem?_cons_zero, List.getElem?_cons_succ, List.set_cons_zero, List.set_cons_succ, lstIn_lst, objIn_obj, objOf_dat, objOf_loc, two?, three?, datOf, locIx, intOf, intL, lstD, tupD, blOf, wipeP,
  pAdd_int, pAdd_str, pSub, pMul, pMod, pDiv, pLt, pLe, pGt, pGe, pInt, pAbs, pMax, pMin, pDivmod, tru_bl, tru_int, tru_non, dats, Option.map_some, decide_eq_true_eq, atI0, atI1, atI2, ixN0, ixN1, pEqF_int, pEqT_int, pEqF_str, pEqT_str, p10_4, p10_5, p10_9, p10_10, p10_18, p10_19, p10_29, p10_30, List.length_cons, List.length_nil, true_and, and_true, Bool.not_true, Bool.not_false, if_true, if_false, Bool.false_eq_true, Bool.not_eq_true', decide_eq_false_iff_not, bne_iff_ne, ne_eq, Int.reduceEq, Int.reduceLT, Int.reduceLE, Int.reduceGT, Int.reduceNeg, not_false_eq_true, not_true_eq_false, decide_true, decide_false, eq_self, and_self, sizeLine_eq, Nat.reduceAdd, Nat.reduceLeDiff, Nat.reduceLT, Nat.reduceEqDiff, List.cons_append, List.nil_append, lst1_is, strD, dicD, dicOf_dat, keyOf_str, keyOf_int, kpairs, pKey, pIsN_non, pNotN_non, pIsN_dic, pNotN_dic, pInS_str, seqOf_lst, seqOf_tup, strsOf, strKeys, keyP, List.map_cons, List.map_nil, Option.bind_some, Nat.reduceBEq, ct0, ct1, Bool.true_eq_false, Int.natCast_one, Int.natCast_zero, Int.cast_ofNat_Int, e_law_common, m1, m2]
  unfold pairP nrm
  split
  · rename_i h
    rw [if_pos h] at hg
    rw [← hg]
    exact ⟨d1, d2, rfl⟩
  · rename_i h
    rw [if_neg h] at hg
    rw [← hg]
    exact ⟨d1, d2, rfl⟩
theorem e_repr {p : Int × Int} {S : Store} (h : Bq 13000 p) : M_Ratio_DreprD [.dat (ratP p)] S = .ok (.dat (.str (repT p))) S := by
  refine eq_of_rsp (t := .mk) ?_
  rw [run_Ratio_DreprD]
  unfold b_Ratio_DreprD
  have b1 := big_ok h.1
  have b2 := big_ok h.2
  have l1 := txt_len b1
  have l2 := txt_len b2
  simp -dsimp only [↓r_var, ↓r_K, ↓r_aNil, ↓r_aCons, ↓r_op, ↓r_dat, ↓r_tup, ↓r_lst, ↓r_lstM, ↓r_call, ↓r_cm, ↓r_un, ↓r_negI, ↓r_if, ↓r_val, ↓r_and, ↓r_or, ↓r_not, ↓r_yes, ↓r_andV, ↓r_orV, ↓r_notV, ↓r_fld, ↓r_meth, ↓r_prop, ↓r_ix_lst, ↓r_ix_tup, ↓r_ix_loc, ↓r_len_lst, ↓r_len_tup, ↓r_fm1, ↓r_fm2, ↓r_all, ↓r_app, ↓r_ext, ↓o_seq, ↓o_nil, ↓o_ret, ↓o_set, ↓o_expr, ↓o_if, ↓o_bad, ↓o_par, ↓o_par3, ↓o_asg, ↓o_gNm, ↓o_gTp, ↓o_gsNil, ↓o_gsCons, ↓o_gSb, ↓o_retF, ↓o_fld, ↓o_for, ↓r_iSeq, ↓r_iTpl, ↓r_iRg, ↓r_lc, ↓o_frz, ↓r_iEnm, ↓r_reprB_bl, ↓r_reprB_lst, ↓r_chain, ↓r_iStrM, ↓r_iKeysD, ↓r_iItemsD, ↓r_gDGet, ↓r_gDIn, ↓r_pairs0, ↓r_pairs1, ↓r_disp, ↓r_dc, ↓dcL_nil, ↓r_sortD, ↓r_sortL, ↓r_dictD, ↓r_dictL, ↓r_listD, ↓r_listL, ↓r_listT, ↓r_lenDd, ↓r_len_str, ↓r_jn, ↓r_sl, ↓r_pNone, ↓r_pSome, ↓r_gSlS, ↓r_gSlL, ↓r_ix_str, ↓r_dget2, ↓is_non_int, ↓is_non_bool, ↓is_non_str, ↓is_non_list, ↓is_non_tuple, ↓is_non_dict, ↓is_non_cls, ↓is_bl_int, ↓is_bl_bool, ↓is_bl_str, ↓is_bl_list, ↓is_bl_tuple, ↓is_bl_dict, ↓is_bl_cls, ↓is_int_int, ↓is_int_bool, ↓is_int_str, ↓is_int_list, ↓is_int_tuple, ↓is_int_dict, ↓is_int_cls, ↓is_str_int, ↓is_str_bool, ↓is_str_str, ↓is_str_list, ↓is_str_tuple, ↓is_str_dict, ↓is_str_cls, ↓is_lst_int, ↓is_lst_bool, ↓is_lst_str, ↓is_lst_list, ↓is_lst_tuple, ↓is_lst_dict, ↓is_lst_cls, ↓is_tup_int, ↓is_tup_bool, ↓is_tup_str, ↓is_tup_list, ↓is_tup_tuple, ↓is_tup_dict, ↓is_tup_cls, ↓is_dic_int, ↓is_dic_bool, ↓is_dic_str, ↓is_dic_list, ↓is_dic_tuple, ↓is_dic_dict, ↓is_dic_cls, ↓is_obj_int, ↓is_obj_bool, ↓is_obj_str, ↓is_obj_list, ↓is_obj_tuple, ↓is_obj_dict, ↓is_obj_cls,
  opt_some, opt_ite, opt_ite2, rs_ok, List.getElem?_cons_zero, List.getElem?_cons_succ, List.set_cons_zero, List.set_cons_succ, lstIn_lst, objIn_obj, objOf_dat, objOf_loc, two?, three?, datOf, locIx, intOf, intL, lstD, tupD, blOf, wipeP,
  pAdd_int, pAdd_str, pSub, pMul, pMod, pDiv, pLt, pLe, pGt, pGe, pInt, pAbs, pMax, pMin, pDivmod, tru_bl, tru_int, tru_non, dats, Option.map_some, decide_eq_true_eq, atI0, atI1, atI2, ixN0, ixN1, pEqF_int, pEqT_int, pEqF_str, pEqT_str, p10_4, p10_5, p10_9, p10_10, p10_18, p10_19, p10_29, p10_30, List.length_cons, List.length_nil, true_and, and_true, Bool.not_true, Bool.not_false, if_true, if_false, Bool.false_eq_true, Bool.not_eq_true', decide_eq_false_iff_not, bne_iff_ne, ne_eq, Int.reduceEq, Int.reduceLT, Int.reduceLE, Int.reduceGT, Int.reduceNeg, not_false_eq_true, not_true_eq_false, decide_true, decide_false, eq_self, and_self, sizeLine_eq, Nat.reduceAdd, Nat.reduceLeDiff, Nat.reduceLT, Nat.reduceEqDiff, List.cons_append, List.nil_append, lst1_is, strD, dicD, dicOf_dat, keyOf_str, keyOf_int, kpairs, pKey, pIsN_non, pNotN_non, pIsN_dic, pNotN_dic, pInS_str, seqOf_lst, seqOf_tup, strsOf, strKeys, keyP, List.map_cons, List.map_nil, Option.bind_some, Nat.reduceBEq, ct0, ct1, Bool.true_eq_false, Int.natCast_one, Int.natCast_zero, Int.cast_ofNat_Int, ↓r_joinE, ↓r_join1, ↓r_join0, ↓r_fmt, fmt_int, objOf_rat, strOf, b1, b2, empty_app, strLen_append, ln_r, ln_c, ln_p]
  exact ⟨by omega, by omega, by omega, by omega, rfl⟩
end K12
set_option Elab.async false
set_option linter.all false
set_option maxRecDepth 100000
set_option maxHeartbeats 2000000
namespace K12
open PySem L2 DL QR
local macro_rules | `(tactic| walk_at "dl") => `(tactic| try simp -dsimp only [↓r_var, ↓r_K, ↓r_aNil, ↓r_aCons, ↓r_op, ↓r_dat, ↓r_tup, ↓r_lst, ↓r_lstM, ↓r_call, ↓r_cm, ↓r_un, ↓r_negI, ↓r_if, ↓r_val, ↓r_and, ↓r_or, ↓r_not, ↓r_yes, ↓r_andV, ↓r_orV, ↓r_notV, ↓r_fld, ↓r_meth, ↓r_prop, ↓r_ix_lst, ↓r_ix_tup, ↓r_ix_loc, ↓r_len_lst, ↓r_len_tup, ↓r_fm1, ↓r_fm2, ↓r_all, ↓r_app, ↓r_ext, ↓o_seq, ↓o_nil, ↓o_ret, ↓o_set, ↓o_expr, ↓o_if, ↓o_bad, ↓o_par, ↓o_par3, ↓o_asg, ↓o_gNm, ↓o_gTp, ↓o_gsNil, ↓o_gsCons, ↓o_gSb, ↓o_retF, ↓o_fld, ↓o_for, ↓r_iSeq, ↓r_iTpl, ↓r_iRg, ↓r_lc, ↓o_frz, ↓r_iEnm, ↓r_reprB_bl, ↓r_reprB_lst, ↓r_chain, ↓r_iStrM, ↓r_iKeysD, ↓r_iItemsD, ↓r_gDGet, ↓r_gDIn, ↓r_pairs0, ↓r_pairs1, ↓r_disp, ↓r_dc, ↓dcL_nil, ↓r_sortD, ↓r_sortL, ↓r_dictD, ↓r_dictL, ↓r_listD, ↓r_listL, ↓r_listT, ↓r_lenDd, ↓r_len_str, ↓r_jn, ↓r_sl, ↓r_pNone, ↓r_pSome, ↓r_gSlS, ↓r_gSlL, ↓r_ix_str, ↓r_dget2, ↓is_non_int, ↓is_non_bool, ↓is_non_str, ↓is_non_list, ↓is_non_tuple, ↓is_non_dict, ↓is_non_cls, ↓is_bl_int, ↓is_bl_bool, ↓is_bl_str, ↓is_bl_list, ↓is_bl_tuple, ↓is_bl_dict, ↓is_bl_cls, ↓is_int_int, ↓is_int_bool, ↓is_int_str, ↓is_int_list, ↓is_int_tuple, ↓is_int_dict, ↓is_int_cls, ↓is_str_int, ↓is_str_bool, ↓is_str_str, ↓is_str_list, ↓is_str_tuple, ↓is_str_dict, ↓is_str_cls, ↓is_lst_int, ↓is_lst_bool, ↓is_lst_str, ↓is_lst_list, ↓is_lst_tuple, ↓is_lst_dict, ↓is_lst_cls, ↓is_tup_int, ↓is_tup_bool, ↓is_tup_str, ↓is_tup_list, ↓is_tup_tuple, ↓is_tup_dict, ↓is_tup_cls, ↓is_dic_int, ↓is_dic_bool, ↓is_dic_str, ↓is_dic_list, ↓is_dic_tuple, ↓is_dic_dict, ↓is_dic_cls, ↓is_obj_int, ↓is_obj_bool, ↓is_obj_str, ↓is_obj_list, ↓is_obj_tuple, ↓is_obj_dict, ↓is_obj_cls,
  opt_some, opt_ite, opt_ite2, rs_ok, List.getElem?_cons_zero, List.getElem?_cons_succ, List.set_cons_zero, List.set_cons_succ, lstIn_lst, objIn_obj, objOf_dat, objOf_loc, two?, three?, datOf, locIx, intOf, intL, lstD, tupD, blOf, wipeP,
  pAdd_int, pAdd_str, pSub, pMul, pMod, pDiv, pLt, pLe, pGt, pGe, pInt, pAbs, pMax, pMin, pDivmod, tru_bl, tru_int, tru_non, dats, Option.map_some, decide_eq_true_eq, atI0, atI1, atI2, ixN0, ixN1, pEqF_int, pEqT_int, pEqF_str, pEqT_str, p10_4, p10_5, p10_9, p10_10, p10_18, p10_19, p10_29, p10_30, List.length_cons, List.length_nil, true_and, and_true, Bool.not_true, Bool.not_false, if_true, if_false, Bool.false_eq_true, Bool.not_eq_true', decide_eq_false_iff_not, bne_iff_ne, ne_eq, Int.reduceEq, Int.reduceLT, Int.reduceLE, Int.reduceGT, Int.reduceNeg, not_false_eq_true, not_true_eq_false, decide_true, decide_false, eq_self, and_self, sizeLine_eq, Nat.reduceAdd, Nat.reduceLeDiff, Nat.reduceLT, Nat.reduceEqDiff, List.cons_append, List.nil_append, lst1_is, strD, dicD, dicOf_dat, keyOf_str, keyOf_int, kpairs, pKey, pIsN_non, pNotN_non, pIsN_dic, pNotN_dic, pInS_str, seqOf_lst, seqOf_tup, strsOf, strKeys, keyP, List.map_cons, List.map_nil, Option.bind_some, Nat.reduceBEq, ct0, ct1, Bool.true_eq_false, Int.natCast_one, Int.natCast_zero, Int.cast_ofNat_Int])
theorem lett_no : ∀ c ∈ [45, 48, 49, 50, 51, 52, 53, 54, 55, 56, 57], lett c = false := by
  have h : ([45, 48, 49, 50, 51, 52, 53, 54, 55, 56, 57] : List Nat).all (fun c => !lett c) = true := by decide +kernel
  intro c hc
  have := List.all_eq_true.mp h c hc
  simpa using this
theorem a_name : nameOk "a" = true := by decide +kernel
theorem e_name_a {S : Store} : M_is_name [.dat (.str "a")] S = .ok (.dat (.bl true)) S := by
  have := e_isname (x := .str "a") (S := S) (by show (Str.ofString "a").length ≤ 10000; decide)
  rw [show kName (.str "a") = nameOk "a" from rfl, a_name] at this
  exact this
theorem bd1 : Bd 13000 1 := bd_one (by decide)
theorem e_signR {p : Int × Int} {S : Store} : M_Ratio_sign [.dat (ratP p)] S = .ok (.dat (.int (sgn p.1))) S := e_sign
theorem e_wzA {S : Store} : M_without_zeros [.dat (.dic [(.inr "a", .int 1)])] S = .ok (.dat (.dic [(.inr "a", ratP (1, 1))])) S := by
  refine eq_of_rsp (t := .mk) ?_
  rw [run_without_zeros]
  unfold b_without_zeros
  have s1 : sgn 1 = 1 := by decide
  have v1 : valP [((.inr (Str.ofString "a") : Key), P.int 1)] (.inr "a") = some (.int 1) := by simp [valP]
  simp -dsimp only [↓r_var, ↓r_K, ↓r_aNil, ↓r_aCons, ↓r_op, ↓r_dat, ↓r_tup, ↓r_lst, ↓r_lstM, ↓r_call, ↓r_cm, ↓r_un, ↓r_negI, ↓r_if, ↓r_val, ↓r_and, ↓r_or, ↓r_not, ↓r_yes, ↓r_andV, ↓r_orV, ↓r_notV, ↓r_fld, ↓r_meth, ↓r_prop, ↓r_ix_lst, ↓r_ix_tup, ↓r_ix_loc, ↓r_len_lst, ↓r_len_tup, ↓r_fm1, ↓r_fm2, ↓r_all, ↓r_app, ↓r_ext, ↓o_seq, ↓o_nil, ↓o_ret, ↓o_set, ↓o_expr, ↓o_if, ↓o_bad, ↓o_par, ↓o_par3, ↓o_asg, ↓o_gNm, ↓o_gTp, ↓o_gsNil, ↓o_gsCons, ↓o_gSb, ↓o_retF, ↓o_fld, ↓o_for, ↓r_iSeq, ↓r_iTpl, ↓r_iRg, ↓r_lc, ↓o_frz, ↓r_iEnm, ↓r_reprB_bl, ↓r_reprB_lst, ↓r_chain, ↓r_iStrM, ↓r_iKeysD, ↓r_iItemsD, ↓r_gDGet, ↓r_gDIn, ↓r_pairs0, ↓r_pairs1, ↓r_disp, ↓r_dc, ↓dcL_nil, ↓r_sortD, ↓r_sortL, ↓r_dictD, ↓r_dictL, ↓r_listD, ↓r_listL, ↓r_listT, ↓r_lenDd, ↓r_len_str, ↓r_jn, ↓r_sl, ↓r_pNone, ↓r_pSome, ↓r_gSlS, ↓r_gSlL, ↓r_ix_str, ↓r_dget2, ↓is_non_int, ↓is_non_bool, ↓is_non_str, ↓is_non_list, ↓is_non_tuple, ↓is_non_dict, ↓is_non_cls, ↓is_bl_int, ↓is_bl_bool, ↓is_bl_str, ↓is_bl_list, ↓is_bl_tuple, ↓is_bl_dict, ↓is_bl_cls, ↓is_int_int, ↓is_int_bool, ↓is_int_str, ↓is_int_list, ↓is_int_tuple, ↓is_int_dict, ↓is_int_cls, ↓is_str_int, ↓is_str_bool, ↓is_str_str, ↓is_str_list, ↓is_str_tuple, ↓is_str_dict, ↓is_str_cls, ↓is_lst_int, ↓is_lst_bool, ↓is_lst_str, ↓is_lst_list, ↓is_lst_tuple, ↓is_lst_dict, ↓is_lst_cls, ↓is_tup_int, ↓is_tup_bool, ↓is_tup_str, ↓is_tup_list, ↓is_tup_tuple, ↓is_tup_dict, ↓is_tup_cls, ↓is_dic_int, ↓is_dic_bool, ↓is_dic_str, ↓is_dic_list, ↓is_dic_tuple, ↓is_dic_dict, ↓is_dic_cls, ↓is_obj_int, ↓is_obj_bool, ↓is_obj_str, ↓is_obj_list, ↓is_obj_tuple, ↓is_obj_dict, ↓is_obj_cls,
  opt_some, opt_ite, opt_ite2, rs_ok, List.getElem?_cons_zero, List.getElem?_cons_succ, List.set_cons_zero, List.set_cons_succ, lstIn_lst, objIn_obj, objOf_dat, objOf_loc, two?, three?, datOf, locIx, intOf, intL, lstD, tupD, blOf, wipeP,
  pAdd_int, pAdd_str, pSub, pMul, pMod, pDiv, pLt, pLe, pGt, pGe, pInt, pAbs, pMax, pMin, pDivmod, tru_bl, tru_int, tru_non, dats, Option.map_some, decide_eq_true_eq, atI0, atI1, atI2, ixN0, ixN1, pEqF_int, pEqT_int, pEqF_str, pEqT_str, p10_4, p10_5, p10_9, p10_10, p10_18, p10_19, p10_29, p10_30, List.length_cons, List.length_nil, true_and, and_true, Bool.not_true, Bool.not_false, if_true, if_false, Bool.false_eq_true, Bool.not_eq_true', decide_eq_false_iff_not, bne_iff_ne, ne_eq, Int.reduceEq, Int.reduceLT, Int.reduceLE, Int.reduceGT, Int.reduceNeg, not_false_eq_true, not_true_eq_false, decide_true, decide_false, eq_self, and_self, sizeLine_eq, Nat.reduceAdd, Nat.reduceLeDiff, Nat.reduceLT, Nat.reduceEqDiff, List.cons_append, List.nil_append, lst1_is, strD, dicD, dicOf_dat, keyOf_str, keyOf_int, kpairs, pKey, pIsN_non, pNotN_non, pIsN_dic, pNotN_dic, pInS_str, seqOf_lst, seqOf_tup, strsOf, strKeys, keyP, List.map_cons, List.map_nil, Option.bind_some, Nat.reduceBEq, ct0, ct1, Bool.true_eq_false, Int.natCast_one, Int.natCast_zero, Int.cast_ofNat_Int, srtS, insS, ↓dcL_cons, v1, e_asI bd1, putKP, e_sign, objOf_rat, s1, List.any_nil]
theorem e_chartA {S : Store} : M_is_chart [.dat (.dic [(.inr "a", .int 1)])] S = .ok (.dat (.bl true)) S := by
  refine eq_of_rsp (t := .mk) ?_
  rw [run_is_chart]
  unfold b_is_chart
  simp -dsimp only [↓r_var, ↓r_K, ↓r_aNil, ↓r_aCons, ↓r_op, ↓r_dat, ↓r_tup, ↓r_lst, ↓r_lstM, ↓r_call, ↓r_cm, ↓r_un, ↓r_negI, ↓r_if, ↓r_val, ↓r_and, ↓r_or, ↓r_not, ↓r_yes, ↓r_andV, ↓r_orV, ↓r_notV, ↓r_fld, ↓r_meth, ↓r_prop, ↓r_ix_lst, ↓r_ix_tup, ↓r_ix_loc, ↓r_len_lst, ↓r_len_tup, ↓r_fm1, ↓r_fm2, ↓r_all, ↓r_app, ↓r_ext, ↓o_seq, ↓o_nil, ↓o_ret, ↓o_set, ↓o_expr, ↓o_if, ↓o_bad, ↓o_par, ↓o_par3, ↓o_asg, ↓o_gNm, ↓o_gTp, ↓o_gsNil, ↓o_gsCons, ↓o_gSb, ↓o_retF, ↓o_fld, ↓o_for, ↓r_iSeq, ↓r_iTpl, ↓r_iRg, ↓r_lc, ↓o_frz, ↓r_iEnm, ↓r_reprB_bl, ↓r_reprB_lst, ↓r_chain, ↓r_iStrM, ↓r_iKeysD, ↓r_iItemsD, ↓r_gDGet, ↓r_gDIn, ↓r_pairs0, ↓r_pairs1, ↓r_disp, ↓r_dc, ↓dcL_nil, ↓r_sortD, ↓r_sortL, ↓r_dictD, ↓r_dictL, ↓r_listD, ↓r_listL, ↓r_listT, ↓r_lenDd, ↓r_len_str, ↓r_jn, ↓r_sl, ↓r_pNone, ↓r_pSome, ↓r_gSlS, ↓r_gSlL, ↓r_ix_str, ↓r_dget2, ↓is_non_int, ↓is_non_bool, ↓is_non_str, ↓is_non_list, ↓is_non_tuple, ↓is_non_dict, ↓is_non_cls, ↓is_bl_int, ↓is_bl_bool, ↓is_bl_str, ↓is_bl_list, ↓is_bl_tuple, ↓is_bl_dict, ↓is_bl_cls, ↓is_int_int, ↓is_int_bool, ↓is_int_str, ↓is_int_list, ↓is_int_tuple, ↓is_int_dict, ↓is_int_cls, ↓is_str_int, ↓is_str_bool, ↓is_str_str, ↓is_str_list, ↓is_str_tuple, ↓is_str_dict, ↓is_str_cls, ↓is_lst_int, ↓is_lst_bool, ↓is_lst_str, ↓is_lst_list, ↓is_lst_tuple, ↓is_lst_dict, ↓is_lst_cls, ↓is_tup_int, ↓is_tup_bool, ↓is_tup_str, ↓is_tup_list, ↓is_tup_tuple, ↓is_tup_dict, ↓is_tup_cls, ↓is_dic_int, ↓is_dic_bool, ↓is_dic_str, ↓is_dic_list, ↓is_dic_tuple, ↓is_dic_dict, ↓is_dic_cls, ↓is_obj_int, ↓is_obj_bool, ↓is_obj_str, ↓is_obj_list, ↓is_obj_tuple, ↓is_obj_dict, ↓is_obj_cls,
  opt_some, opt_ite, opt_ite2, rs_ok, List.getElem?_cons_zero, List.getElem?_cons_succ, List.set_cons_zero, List.set_cons_succ, lstIn_lst, objIn_obj, objOf_dat, objOf_loc, two?, three?, datOf, locIx, intOf, intL, lstD, tupD, blOf, wipeP,
  pAdd_int, pAdd_str, pSub, pMul, pMod, pDiv, pLt, pLe, pGt, pGe, pInt, pAbs, pMax, pMin, pDivmod, tru_bl, tru_int, tru_non, dats, Option.map_some, decide_eq_true_eq, atI0, atI1, atI2, ixN0, ixN1, pEqF_int, pEqT_int, pEqF_str, pEqT_str, p10_4, p10_5, p10_9, p10_10, p10_18, p10_19, p10_29, p10_30, List.length_cons, List.length_nil, true_and, and_true, Bool.not_true, Bool.not_false, if_true, if_false, Bool.false_eq_true, Bool.not_eq_true', decide_eq_false_iff_not, bne_iff_ne, ne_eq, Int.reduceEq, Int.reduceLT, Int.reduceLE, Int.reduceGT, Int.reduceNeg, not_false_eq_true, not_true_eq_false, decide_true, decide_false, eq_self, and_self, sizeLine_eq, Nat.reduceAdd, Nat.reduceLeDiff, Nat.reduceLT, Nat.reduceEqDiff, List.cons_append, List.nil_append, lst1_is, strD, dicD, dicOf_dat, keyOf_str, keyOf_int, kpairs, pKey, pIsN_non, pNotN_non, pIsN_dic, pNotN_dic, pInS_str, seqOf_lst, seqOf_tup, strsOf, strKeys, keyP, List.map_cons, List.map_nil, Option.bind_some, Nat.reduceBEq, ct0, ct1, Bool.true_eq_false, Int.natCast_one, Int.natCast_zero, Int.cast_ofNat_Int, ↓lcL_cons, ↓lcL_nil, e_name_a, e_isnum (x := .int 1) trivial, kNum, blsOf, List.all_cons, List.all_nil, id, Bool.and_self]
theorem bd0 : Bd 13000 0 := by unfold Bd; exact Nat.two_pow_pos _
theorem e_ofA {S : Store} : M_Form_of [.dat (.cls 1), .dat (.str "a")] S = .ok (.dat (formP [(.inr "a", ratP (1, 1))] (0, 1))) S := by
  refine eq_of_rsp (t := .mk) ?_
  unfold M_Form_of
  rw [r_star (by simp)]
  have hs : (1 : Nat) ≤ sizeLine := by decide
  simp only [List.drop_succ_cons, List.drop_zero, dats, Option.map_some, opt_some, List.length_cons, List.length_nil, Nat.zero_add, hs, true_and, List.take_succ_cons, List.take_zero, List.cons_append, List.nil_append]
  show RsP (funM N_Form_of.length b_Form_of [.dat (.cls 1), .dat (.tup [.str "a"])] S) _ _ _
  rw [r_fun]
  show OuP (b_Form_of [some (.dat (.cls 1)), some (.dat (.tup [.str "a"])), none, none] S) _ _ _ _ _ _
  unfold b_Form_of
  simp -dsimp only [↓r_var, ↓r_K, ↓r_aNil, ↓r_aCons, ↓r_op, ↓r_dat, ↓r_tup, ↓r_lst, ↓r_lstM, ↓r_call, ↓r_cm, ↓r_un, ↓r_negI, ↓r_if, ↓r_val, ↓r_and, ↓r_or, ↓r_not, ↓r_yes, ↓r_andV, ↓r_orV, ↓r_notV, ↓r_fld, ↓r_meth, ↓r_prop, ↓r_ix_lst, ↓r_ix_tup, ↓r_ix_loc, ↓r_len_lst, ↓r_len_tup, ↓r_fm1, ↓r_fm2, ↓r_all, ↓r_app, ↓r_ext, ↓o_seq, ↓o_nil, ↓o_ret, ↓o_set, ↓o_expr, ↓o_if, ↓o_bad, ↓o_par, ↓o_par3, ↓o_asg, ↓o_gNm, ↓o_gTp, ↓o_gsNil, ↓o_gsCons, ↓o_gSb, ↓o_retF, ↓o_fld, ↓o_for, ↓r_iSeq, ↓r_iTpl, ↓r_iRg, ↓r_lc, ↓o_frz, ↓r_iEnm, ↓r_reprB_bl, ↓r_reprB_lst, ↓r_chain, ↓r_iStrM, ↓r_iKeysD, ↓r_iItemsD, ↓r_gDGet, ↓r_gDIn, ↓r_pairs0, ↓r_pairs1, ↓r_disp, ↓r_dc, ↓dcL_nil, ↓r_sortD, ↓r_sortL, ↓r_dictD, ↓r_dictL, ↓r_listD, ↓r_listL, ↓r_listT, ↓r_lenDd, ↓r_len_str, ↓r_jn, ↓r_sl, ↓r_pNone, ↓r_pSome, ↓r_gSlS, ↓r_gSlL, ↓r_ix_str, ↓r_dget2, ↓is_non_int, ↓is_non_bool, ↓is_non_str, ↓is_non_list, ↓is_non_tuple, ↓is_non_dict, ↓is_non_cls, ↓is_bl_int, ↓is_bl_bool, ↓is_bl_str, ↓is_bl_list, ↓is_bl_tuple, ↓is_bl_dict, ↓is_bl_cls, ↓is_int_int, ↓is_int_bool, ↓is_int_str, ↓is_int_list, ↓is_int_tuple, ↓is_int_dict, ↓is_int_cls, ↓is_str_int, ↓is_str_bool, ↓is_str_str, ↓is_str_list, ↓is_str_tuple, ↓is_str_dict, ↓is_str_cls, ↓is_lst_int, ↓is_lst_bool, ↓is_lst_str, ↓is_lst_list, ↓is_lst_tuple, ↓is_lst_dict, ↓is_lst_cls, ↓is_tup_int, ↓is_tup_bool, ↓is_tup_str, ↓is_tup_list, ↓is_tup_tuple, ↓is_tup_dict, ↓is_tup_cls, ↓is_dic_int, ↓is_dic_bool, ↓is_dic_str, ↓is_dic_list, ↓is_dic_tuple, ↓is_dic_dict, ↓is_dic_cls, ↓is_obj_int, ↓is_obj_bool, ↓is_obj_str, ↓is_obj_list, ↓is_obj_tuple, ↓is_obj_dict, ↓is_obj_cls,
  opt_some, opt_ite, opt_ite2, rs_ok, List.getElem?_cons_zero, List.getElem?_cons_succ, List.set_cons_zero, List.set_cons_succ, lstIn_lst, objIn_obj, objOf_dat, objOf_loc, two?, three?, datOf, locIx, intOf, intL, lstD, tupD, blOf, wipeP,
  pAdd_int, pAdd_str, pSub, pMul, pMod, pDiv, pLt, pLe, pGt, pGe, pInt, pAbs, pMax, pMin, pDivmod, tru_bl, tru_int, tru_non, dats, Option.map_some, decide_eq_true_eq, atI0, atI1, atI2, ixN0, ixN1, pEqF_int, pEqT_int, pEqF_str, pEqT_str, p10_4, p10_5, p10_9, p10_10, p10_18, p10_19, p10_29, p10_30, List.length_cons, List.length_nil, true_and, and_true, Bool.not_true, Bool.not_false, if_true, if_false, Bool.false_eq_true, Bool.not_eq_true', decide_eq_false_iff_not, bne_iff_ne, ne_eq, Int.reduceEq, Int.reduceLT, Int.reduceLE, Int.reduceGT, Int.reduceNeg, not_false_eq_true, not_true_eq_false, decide_true, decide_false, eq_self, and_self, sizeLine_eq, Nat.reduceAdd, Nat.reduceLeDiff, Nat.reduceLT, Nat.reduceEqDiff, List.cons_append, List.nil_append, lst1_is, strD, dicD, dicOf_dat, keyOf_str, keyOf_int, kpairs, pKey, pIsN_non, pNotN_non, pIsN_dic, pNotN_dic, pInS_str, seqOf_lst, seqOf_tup, strsOf, strKeys, keyP, List.map_cons, List.map_nil, Option.bind_some, Nat.reduceBEq, ct0, ct1, Bool.true_eq_false, Int.natCast_one, Int.natCast_zero, Int.cast_ofNat_Int, ↓forL_cons, ↓forL_nil, e_name_a]
  rw [r_callV (by rfl)]
  simp -dsimp only [↓r_var, ↓r_K, ↓r_aNil, ↓r_aCons, ↓r_op, ↓r_dat, ↓r_tup, ↓r_lst, ↓r_lstM, ↓r_call, ↓r_cm, ↓r_un, ↓r_negI, ↓r_if, ↓r_val, ↓r_and, ↓r_or, ↓r_not, ↓r_yes, ↓r_andV, ↓r_orV, ↓r_notV, ↓r_fld, ↓r_meth, ↓r_prop, ↓r_ix_lst, ↓r_ix_tup, ↓r_ix_loc, ↓r_len_lst, ↓r_len_tup, ↓r_fm1, ↓r_fm2, ↓r_all, ↓r_app, ↓r_ext, ↓o_seq, ↓o_nil, ↓o_ret, ↓o_set, ↓o_expr, ↓o_if, ↓o_bad, ↓o_par, ↓o_par3, ↓o_asg, ↓o_gNm, ↓o_gTp, ↓o_gsNil, ↓o_gsCons, ↓o_gSb, ↓o_retF, ↓o_fld, ↓o_for, ↓r_iSeq, ↓r_iTpl, ↓r_iRg, ↓r_lc, ↓o_frz, ↓r_iEnm, ↓r_reprB_bl, ↓r_reprB_lst, ↓r_chain, ↓r_iStrM, ↓r_iKeysD, ↓r_iItemsD, ↓r_gDGet, ↓r_gDIn, ↓r_pairs0, ↓r_pairs1, ↓r_disp, ↓r_dc, ↓dcL_nil, ↓r_sortD, ↓r_sortL, ↓r_dictD, ↓r_dictL, ↓r_listD, ↓r_listL, ↓r_listT, ↓r_lenDd, ↓r_len_str, ↓r_jn, ↓r_sl, ↓r_pNone, ↓r_pSome, ↓r_gSlS, ↓r_gSlL, ↓r_ix_str, ↓r_dget2, ↓is_non_int, ↓is_non_bool, ↓is_non_str, ↓is_non_list, ↓is_non_tuple, ↓is_non_dict, ↓is_non_cls, ↓is_bl_int, ↓is_bl_bool, ↓is_bl_str, ↓is_bl_list, ↓is_bl_tuple, ↓is_bl_dict, ↓is_bl_cls, ↓is_int_int, ↓is_int_bool, ↓is_int_str, ↓is_int_list, ↓is_int_tuple, ↓is_int_dict, ↓is_int_cls, ↓is_str_int, ↓is_str_bool, ↓is_str_str, ↓is_str_list, ↓is_str_tuple, ↓is_str_dict, ↓is_str_cls, ↓is_lst_int, ↓is_lst_bool, ↓is_lst_str, ↓is_lst_list, ↓is_lst_tuple, ↓is_lst_dict, ↓is_lst_cls, ↓is_tup_int, ↓is_tup_bool, ↓is_tup_str, ↓is_tup_list, ↓is_tup_tuple, ↓is_tup_dict, ↓is_tup_cls, ↓is_dic_int, ↓is_dic_bool, ↓is_dic_str, ↓is_dic_list, ↓is_dic_tuple, ↓is_dic_dict, ↓is_dic_cls, ↓is_obj_int, ↓is_obj_bool, ↓is_obj_str, ↓is_obj_list, ↓is_obj_tuple, ↓is_obj_dict, ↓is_obj_cls,
  opt_some, opt_ite, opt_ite2, rs_ok, List.getElem?_cons_zero, List.getElem?_cons_succ, List.set_cons_zero, List.set_cons_succ, lstIn_lst, objIn_obj, objOf_dat, objOf_loc, two?, three?, datOf, locIx, intOf, intL, lstD, tupD, blOf, wipeP,
  pAdd_int, pAdd_str, pSub, pMul, pMod, pDiv, pLt, pLe, pGt, pGe, pInt, pAbs, pMax, pMin, pDivmod, tru_bl, tru_int, tru_non, dats, Option.map_some, decide_eq_true_eq, atI0, atI1, atI2, ixN0, ixN1, pEqF_int, pEqT_int, pEqF_str, pEqT_str, p10_4, p10_5, p10_9, p10_10, p10_18, p10_19, p10_29, p10_30, List.length_cons, List.length_nil, true_and, and_true, Bool.not_true, Bool.not_false, if_true, if_false, Bool.false_eq_true, Bool.not_eq_true', decide_eq_false_iff_not, bne_iff_ne, ne_eq, Int.reduceEq, Int.reduceLT, Int.reduceLE, Int.reduceGT, Int.reduceNeg, not_false_eq_true, not_true_eq_false, decide_true, decide_false, eq_self, and_self, sizeLine_eq, Nat.reduceAdd, Nat.reduceLeDiff, Nat.reduceLT, Nat.reduceEqDiff, List.cons_append, List.nil_append, lst1_is, strD, dicD, dicOf_dat, keyOf_str, keyOf_int, kpairs, pKey, pIsN_non, pNotN_non, pIsN_dic, pNotN_dic, pInS_str, seqOf_lst, seqOf_tup, strsOf, strKeys, keyP, List.map_cons, List.map_nil, Option.bind_some, Nat.reduceBEq, ct0, ct1, Bool.true_eq_false, Int.natCast_one, Int.natCast_zero, Int.cast_ofNat_Int, ↓dcL_cons, ↓lcL_cons, ↓lcL_nil, putKP, List.any_nil]
  rw [r_mk, run_form2]
  unfold b_Form_DinitD
  simp -dsimp only [↓r_var, ↓r_K, ↓r_aNil, ↓r_aCons, ↓r_op, ↓r_dat, ↓r_tup, ↓r_lst, ↓r_lstM, ↓r_call, ↓r_cm, ↓r_un, ↓r_negI, ↓r_if, ↓r_val, ↓r_and, ↓r_or, ↓r_not, ↓r_yes, ↓r_andV, ↓r_orV, ↓r_notV, ↓r_fld, ↓r_meth, ↓r_prop, ↓r_ix_lst, ↓r_ix_tup, ↓r_ix_loc, ↓r_len_lst, ↓r_len_tup, ↓r_fm1, ↓r_fm2, ↓r_all, ↓r_app, ↓r_ext, ↓o_seq, ↓o_nil, ↓o_ret, ↓o_set, ↓o_expr, ↓o_if, ↓o_bad, ↓o_par, ↓o_par3, ↓o_asg, ↓o_gNm, ↓o_gTp, ↓o_gsNil, ↓o_gsCons, ↓o_gSb, ↓o_retF, ↓o_fld, ↓o_for, ↓r_iSeq, ↓r_iTpl, ↓r_iRg, ↓r_lc, ↓o_frz, ↓r_iEnm, ↓r_reprB_bl, ↓r_reprB_lst, ↓r_chain, ↓r_iStrM, ↓r_iKeysD, ↓r_iItemsD, ↓r_gDGet, ↓r_gDIn, ↓r_pairs0, ↓r_pairs1, ↓r_disp, ↓r_dc, ↓dcL_nil, ↓r_sortD, ↓r_sortL, ↓r_dictD, ↓r_dictL, ↓r_listD, ↓r_listL, ↓r_listT, ↓r_lenDd, ↓r_len_str, ↓r_jn, ↓r_sl, ↓r_pNone, ↓r_pSome, ↓r_gSlS, ↓r_gSlL, ↓r_ix_str, ↓r_dget2, ↓is_non_int, ↓is_non_bool, ↓is_non_str, ↓is_non_list, ↓is_non_tuple, ↓is_non_dict, ↓is_non_cls, ↓is_bl_int, ↓is_bl_bool, ↓is_bl_str, ↓is_bl_list, ↓is_bl_tuple, ↓is_bl_dict, ↓is_bl_cls, ↓is_int_int, ↓is_int_bool, ↓is_int_str, ↓is_int_list, ↓is_int_tuple, ↓is_int_dict, ↓is_int_cls, ↓is_str_int, ↓is_str_bool, ↓is_str_str, ↓is_str_list, ↓is_str_tuple, ↓is_str_dict, ↓is_str_cls, ↓is_lst_int, ↓is_lst_bool, ↓is_lst_str, ↓is_lst_list, ↓is_lst_tuple, ↓is_lst_dict, ↓is_lst_cls, ↓is_tup_int, ↓is_tup_bool, ↓is_tup_str, ↓is_tup_list, ↓is_tup_tuple, ↓is_tup_dict, ↓is_tup_cls, ↓is_dic_int, ↓is_dic_bool, ↓is_dic_str, ↓is_dic_list, ↓is_dic_tuple, ↓is_dic_dict, ↓is_dic_cls, ↓is_obj_int, ↓is_obj_bool, ↓is_obj_str, ↓is_obj_list, ↓is_obj_tuple, ↓is_obj_dict, ↓is_obj_cls,
  opt_some, opt_ite, opt_ite2, rs_ok, List.getElem?_cons_zero, List.getElem?_cons_succ, List.set_cons_zero, List.set_cons_succ, lstIn_lst, objIn_obj, objOf_dat, objOf_loc, two?, three?, datOf, locIx, intOf, intL, lstD, tupD, blOf, wipeP,
  pAdd_int, pAdd_str, pSub, pMul, pMod, pDiv, pLt, pLe, pGt, pGe, pInt, pAbs, pMax, pMin, pDivmod, tru_bl, tru_int, tru_non, dats, Option.map_some, decide_eq_true_eq, atI0, atI1, atI2, ixN0, ixN1, pEqF_int, pEqT_int, pEqF_str, pEqT_str, p10_4, p10_5, p10_9, p10_10, p10_18, p10_19, p10_29, p10_30, List.length_cons, List.length_nil, true_and, and_true, Bool.not_true, Bool.not_false, if_true, if_false, Bool.false_eq_true, Bool.not_eq_true', decide_eq_false_iff_not, bne_iff_ne, ne_eq, Int.reduceEq, Int.reduceLT, Int.reduceLE, Int.reduceGT, Int.reduceNeg, not_false_eq_true, not_true_eq_false, decide_true, decide_false, eq_self, and_self, sizeLine_eq, Nat.reduceAdd, Nat.reduceLeDiff, Nat.reduceLT, Nat.reduceEqDiff, List.cons_append, List.nil_append, lst1_is, strD, dicD, dicOf_dat, keyOf_str, keyOf_int, kpairs, pKey, pIsN_non, pNotN_non, pIsN_dic, pNotN_dic, pInS_str, seqOf_lst, seqOf_tup, strsOf, strKeys, keyP, List.map_cons, List.map_nil, Option.bind_some, Nat.reduceBEq, ct0, ct1, Bool.true_eq_false, Int.natCast_one, Int.natCast_zero, Int.cast_ofNat_Int, e_chartA, e_wantI, e_wzA, e_asI bd0, push_at, push_set, putP, ne_wn, DL.isNon, take_push]
  rfl
end K12
set_option Elab.async false
set_option linter.all false
set_option maxRecDepth 100000
set_option maxHeartbeats 2000000
namespace K12
open PySem L2 DL QR
local macro_rules | `(tactic| walk_at "dl") => `(tactic| try simp -dsimp only [↓r_var, ↓r_K, ↓r_aNil, ↓r_aCons, ↓r_op, ↓r_dat, ↓r_tup, ↓r_lst, ↓r_lstM, ↓r_call, ↓r_cm, ↓r_un, ↓r_negI, ↓r_if, ↓r_val, ↓r_and, ↓r_or, ↓r_not, ↓r_yes, ↓r_andV, ↓r_orV, ↓r_notV, ↓r_fld, ↓r_meth, ↓r_prop, ↓r_ix_lst, ↓r_ix_tup, ↓r_ix_loc, ↓r_len_lst, ↓r_len_tup, ↓r_fm1, ↓r_fm2, ↓r_all, ↓r_app, ↓r_ext, ↓o_seq, ↓o_nil, ↓o_ret, ↓o_set, ↓o_expr, ↓o_if, ↓o_bad, ↓o_par, ↓o_par3, ↓o_asg, ↓o_gNm, ↓o_gTp, ↓o_gsNil, ↓o_gsCons, ↓o_gSb, ↓o_retF, ↓o_fld, ↓o_for, ↓r_iSeq, ↓r_iTpl, ↓r_iRg, ↓r_lc, ↓o_frz, ↓r_iEnm, ↓r_reprB_bl, ↓r_reprB_lst, ↓r_chain, ↓r_iStrM, ↓r_iKeysD, ↓r_iItemsD, ↓r_gDGet, ↓r_gDIn, ↓r_pairs0, ↓r_pairs1, ↓r_disp, ↓r_dc, ↓dcL_nil, ↓r_sortD, ↓r_sortL, ↓r_dictD, ↓r_dictL, ↓r_listD, ↓r_listL, ↓r_listT, ↓r_lenDd, ↓r_len_str, ↓r_jn, ↓r_sl, ↓r_pNone, ↓r_pSome, ↓r_gSlS, ↓r_gSlL, ↓r_ix_str, ↓r_dget2, ↓is_non_int, ↓is_non_bool, ↓is_non_str, ↓is_non_list, ↓is_non_tuple, ↓is_non_dict, ↓is_non_cls, ↓is_bl_int, ↓is_bl_bool, ↓is_bl_str, ↓is_bl_list, ↓is_bl_tuple, ↓is_bl_dict, ↓is_bl_cls, ↓is_int_int, ↓is_int_bool, ↓is_int_str, ↓is_int_list, ↓is_int_tuple, ↓is_int_dict, ↓is_int_cls, ↓is_str_int, ↓is_str_bool, ↓is_str_str, ↓is_str_list, ↓is_str_tuple, ↓is_str_dict, ↓is_str_cls, ↓is_lst_int, ↓is_lst_bool, ↓is_lst_str, ↓is_lst_list, ↓is_lst_tuple, ↓is_lst_dict, ↓is_lst_cls, ↓is_tup_int, ↓is_tup_bool, ↓is_tup_str, ↓is_tup_list, ↓is_tup_tuple, ↓is_tup_dict, ↓is_tup_cls, ↓is_dic_int, ↓is_dic_bool, ↓is_dic_str, ↓is_dic_list, ↓is_dic_tuple, ↓is_dic_dict, ↓is_dic_cls, ↓is_obj_int, ↓is_obj_bool, ↓is_obj_str, ↓is_obj_list, ↓is_obj_tuple, ↓is_obj_dict, ↓is_obj_cls,
  opt_some, opt_ite, opt_ite2, rs_ok, List.getElem?_cons_zero, List.getElem?_cons_succ, List.set_cons_zero, List.set_cons_succ, lstIn_lst, objIn_obj, objOf_dat, objOf_loc, two?, three?, datOf, locIx, intOf, intL, lstD, tupD, blOf, wipeP,
  pAdd_int, pAdd_str, pSub, pMul, pMod, pDiv, pLt, pLe, pGt, pGe, pInt, pAbs, pMax, pMin, pDivmod, tru_bl, tru_int, tru_non, dats, Option.map_some, decide_eq_true_eq, atI0, atI1, atI2, ixN0, ixN1, pEqF_int, pEqT_int, pEqF_str, pEqT_str, p10_4, p10_5, p10_9, p10_10, p10_18, p10_19, p10_29, p10_30, List.length_cons, List.length_nil, true_and, and_true, Bool.not_true, Bool.not_false, if_true, if_false, Bool.false_eq_true, Bool.not_eq_true', decide_eq_false_iff_not, bne_iff_ne, ne_eq, Int.reduceEq, Int.reduceLT, Int.reduceLE, Int.reduceGT, Int.reduceNeg, not_false_eq_true, not_true_eq_false, decide_true, decide_false, eq_self, and_self, sizeLine_eq, Nat.reduceAdd, Nat.reduceLeDiff, Nat.reduceLT, Nat.reduceEqDiff, List.cons_append, List.nil_append, lst1_is, strD, dicD, dicOf_dat, keyOf_str, keyOf_int, kpairs, pKey, pIsN_non, pNotN_non, pIsN_dic, pNotN_dic, pInS_str, seqOf_lst, seqOf_tup, strsOf, strKeys, keyP, List.map_cons, List.map_nil, Option.bind_some, Nat.reduceBEq, ct0, ct1, Bool.true_eq_false, Int.natCast_one, Int.natCast_zero, Int.cast_ofNat_Int])
/-! ### numbers -/
theorem e_want {x : P} {q : Int × Int} {S : Store} (h : NumQ x q) : M_want_number [.dat x] S = .ok (.dat .non) S := by
  refine eq_of_rsp (t := .mk) ?_
  rw [run_want_number]
  unfold b_want_number
  cases h with
  | rat p =>
    have e : ∀ S, M_is_number [.dat (ratP q)] S = .ok (.dat (.bl true)) S := fun S => e_isnum (x := ratP q) (.inl rfl)
    simp -dsimp only [↓r_var, ↓r_K, ↓r_aNil, ↓r_aCons, ↓r_op, ↓r_dat, ↓r_tup, ↓r_lst, ↓r_lstM, ↓r_call, ↓r_cm, ↓r_un, ↓r_negI, ↓r_if, ↓r_val, ↓r_and, ↓r_or, ↓r_not, ↓r_yes, ↓r_andV, ↓r_orV, ↓r_notV, ↓r_fld, ↓r_meth, ↓r_prop, ↓r_ix_lst, ↓r_ix_tup, ↓r_ix_loc, ↓r_len_lst, ↓r_len_tup, ↓r_fm1, ↓r_fm2, ↓r_all, ↓r_app, ↓r_ext, ↓o_seq, ↓o_nil, ↓o_ret, ↓o_set, ↓o_expr, ↓o_if, ↓o_bad, ↓o_par, ↓o_par3, ↓o_asg, ↓o_gNm, ↓o_gTp, ↓o_gsNil, ↓o_gsCons, ↓o_gSb, ↓o_retF, ↓o_fld, ↓o_for, ↓r_iSeq, ↓r_iTpl, ↓r_iRg, ↓r_lc, ↓o_frz, ↓r_iEnm, ↓r_reprB_bl, ↓r_reprB_lst, ↓r_chain, ↓r_iStrM, ↓r_iKeysD, ↓r_iItemsD, ↓r_gDGet, ↓r_gDIn, ↓r_pairs0, ↓r_pairs1, ↓r_disp, ↓r_dc, ↓dcL_nil, ↓r_sortD, ↓r_sortL, ↓r_dictD, ↓r_dictL, ↓r_listD, ↓r_listL, ↓r_listT, ↓r_lenDd, ↓r_len_str, ↓r_jn, ↓r_sl, ↓r_pNone, ↓r_pSome, ↓r_gSlS, ↓r_gSlL, ↓r_ix_str, ↓r_dget2, ↓is_non_int, ↓is_non_bool, ↓is_non_str, ↓is_non_list, ↓is_non_tuple, ↓is_non_dict, ↓is_non_cls, ↓is_bl_int, ↓is_bl_bool, ↓is_bl_str, ↓is_bl_list, ↓is_bl_tuple, ↓is_bl_dict, ↓is_bl_cls, ↓is_int_int, ↓is_int_bool, ↓is_int_str, ↓is_int_list, ↓is_int_tuple, ↓is_int_dict, ↓is_int_cls, ↓is_str_int, ↓is_str_bool, ↓is_str_str, ↓is_str_list, ↓is_str_tuple, ↓is_str_dict, ↓is_str_cls, ↓is_lst_int, ↓is_lst_bool, ↓is_lst_str, ↓is_lst_list, ↓is_lst_tuple, ↓is_lst_dict, ↓is_lst_cls, ↓is_tup_int, ↓is_tup_bool, ↓is_tup_str, ↓is_tup_list, ↓is_tup_tuple, ↓is_tup_dict, ↓is_tup_cls, ↓is_dic_int, ↓is_dic_bool, ↓is_dic_str, ↓is_dic_list, ↓is_dic_tuple, ↓is_dic_dict, ↓is_dic_cls, ↓is_obj_int, ↓is_obj_bool, ↓is_obj_str, ↓is_obj_list, ↓is_obj_tuple, ↓is_obj_dict, ↓is_obj_cls,
  opt_some, opt_ite, opt_ite2, rs_ok, List.getElem?_cons_zero, List.getElem?_cons_succ, List.set_cons_zero, List.set_cons_succ, lstIn_lst, objIn_obj, objOf_dat, objOf_loc, two?, three?, datOf, locIx, intOf, intL, lstD, tupD, blOf, wipeP,
  pAdd_int, pAdd_str, pSub, pMul, pMod, pDiv, pLt, pLe, pGt, pGe, pInt, pAbs, pMax, pMin, pDivmod, tru_bl, tru_int, tru_non, dats, Option.map_some, decide_eq_true_eq, atI0, atI1, atI2, ixN0, ixN1, pEqF_int, pEqT_int, pEqF_str, pEqT_str, p10_4, p10_5, p10_9, p10_10, p10_18, p10_19, p10_29, p10_30, List.length_cons, List.length_nil, true_and, and_true, Bool.not_true, Bool.not_false, if_true, if_false, Bool.false_eq_true, Bool.not_eq_true', decide_eq_false_iff_not, bne_iff_ne, ne_eq, Int.reduceEq, Int.reduceLT, Int.reduceLE, Int.reduceGT, Int.reduceNeg, not_false_eq_true, not_true_eq_false, decide_true, decide_false, eq_self, and_self, sizeLine_eq, Nat.reduceAdd, Nat.reduceLeDiff, Nat.reduceLT, Nat.reduceEqDiff, List.cons_append, List.nil_append, lst1_is, strD, dicD, dicOf_dat, keyOf_str, keyOf_int, kpairs, pKey, pIsN_non, pNotN_non, pIsN_dic, pNotN_dic, pInS_str, seqOf_lst, seqOf_tup, strsOf, strKeys, keyP, List.map_cons, List.map_nil, Option.bind_some, Nat.reduceBEq, ct0, ct1, Bool.true_eq_false, Int.natCast_one, Int.natCast_zero, Int.cast_ofNat_Int, e]
  | int n => simp -dsimp only [↓r_var, ↓r_K, ↓r_aNil, ↓r_aCons, ↓r_op, ↓r_dat, ↓r_tup, ↓r_lst, ↓r_lstM, ↓r_call, ↓r_cm, ↓r_un, ↓r_negI, ↓r_if, ↓r_val, ↓r_and, ↓r_or, ↓r_not, ↓r_yes, ↓r_andV, ↓r_orV, ↓r_notV, ↓r_fld, ↓r_meth, ↓r_prop, ↓r_ix_lst, ↓r_ix_tup, ↓r_ix_loc, ↓r_len_lst, ↓r_len_tup, ↓r_fm1, ↓r_fm2, ↓r_all, ↓r_app, ↓r_ext, ↓o_seq, ↓o_nil, ↓o_ret, ↓o_set, ↓o_expr, ↓o_if, ↓o_bad, ↓o_par, ↓o_par3, ↓o_asg, ↓o_gNm, ↓o_gTp, ↓o_gsNil, ↓o_gsCons, ↓o_gSb, ↓o_retF, ↓o_fld, ↓o_for, ↓r_iSeq, ↓r_iTpl, ↓r_iRg, ↓r_lc, ↓o_frz, ↓r_iEnm, ↓r_reprB_bl, ↓r_reprB_lst, ↓r_chain, ↓r_iStrM, ↓r_iKeysD, ↓r_iItemsD, ↓r_gDGet, ↓r_gDIn, ↓r_pairs0, ↓r_pairs1, ↓r_disp, ↓r_dc, ↓dcL_nil, ↓r_sortD, ↓r_sortL, ↓r_dictD, ↓r_dictL, ↓r_listD, ↓r_listL, ↓r_listT, ↓r_lenDd, ↓r_len_str, ↓r_jn, ↓r_sl, ↓r_pNone, ↓r_pSome, ↓r_gSlS, ↓r_gSlL, ↓r_ix_str, ↓r_dget2, ↓is_non_int, ↓is_non_bool, ↓is_non_str, ↓is_non_list, ↓is_non_tuple, ↓is_non_dict, ↓is_non_cls, ↓is_bl_int, ↓is_bl_bool, ↓is_bl_str, ↓is_bl_list, ↓is_bl_tuple, ↓is_bl_dict, ↓is_bl_cls, ↓is_int_int, ↓is_int_bool, ↓is_int_str, ↓is_int_list, ↓is_int_tuple, ↓is_int_dict, ↓is_int_cls, ↓is_str_int, ↓is_str_bool, ↓is_str_str, ↓is_str_list, ↓is_str_tuple, ↓is_str_dict, ↓is_str_cls, ↓is_lst_int, ↓is_lst_bool, ↓is_lst_str, ↓is_lst_list, ↓is_lst_tuple, ↓is_lst_dict, ↓is_lst_cls, ↓is_tup_int, ↓is_tup_bool, ↓is_tup_str, ↓is_tup_list, ↓is_tup_tuple, ↓is_tup_dict, ↓is_tup_cls, ↓is_dic_int, ↓is_dic_bool, ↓is_dic_str, ↓is_dic_list, ↓is_dic_tuple, ↓is_dic_dict, ↓is_dic_cls, ↓is_obj_int, ↓is_obj_bool, ↓is_obj_str, ↓is_obj_list, ↓is_obj_tuple, ↓is_obj_dict, ↓is_obj_cls,
  opt_some, opt_ite, opt_ite2, rs_ok, List.getElem?_cons_zero, List.getElem?_cons_succ, List.set_cons_zero, List.set_cons_succ, lstIn_lst, objIn_obj, objOf_dat, objOf_loc, two?, three?, datOf, locIx, intOf, intL, lstD, tupD, blOf, wipeP,
  pAdd_int, pAdd_str, pSub, pMul, pMod, pDiv, pLt, pLe, pGt, pGe, pInt, pAbs, pMax, pMin, pDivmod, tru_bl, tru_int, tru_non, dats, Option.map_some, decide_eq_true_eq, atI0, atI1, atI2, ixN0, ixN1, pEqF_int, pEqT_int, pEqF_str, pEqT_str, p10_4, p10_5, p10_9, p10_10, p10_18, p10_19, p10_29, p10_30, List.length_cons, List.length_nil, true_and, and_true, Bool.not_true, Bool.not_false, if_true, if_false, Bool.false_eq_true, Bool.not_eq_true', decide_eq_false_iff_not, bne_iff_ne, ne_eq, Int.reduceEq, Int.reduceLT, Int.reduceLE, Int.reduceGT, Int.reduceNeg, not_false_eq_true, not_true_eq_false, decide_true, decide_false, eq_self, and_self, sizeLine_eq, Nat.reduceAdd, Nat.reduceLeDiff, Nat.reduceLT, Nat.reduceEqDiff, List.cons_append, List.nil_append, lst1_is, strD, dicD, dicOf_dat, keyOf_str, keyOf_int, kpairs, pKey, pIsN_non, pNotN_non, pIsN_dic, pNotN_dic, pInS_str, seqOf_lst, seqOf_tup, strsOf, strKeys, keyP, List.map_cons, List.map_nil, Option.bind_some, Nat.reduceBEq, ct0, ct1, Bool.true_eq_false, Int.natCast_one, Int.natCast_zero, Int.cast_ofNat_Int, e_isnum (x := .int n) trivial, kNum]
theorem isi_rat {p : Int × Int} {S : Store} {Q E t} : RsP (isiM [0, 1] [.dat (ratP p), .dat (.cls 0)] S) Q E t = Q (.dat (.bl true)) S := isi_obj_cls rfl rfl
theorem isi_rat1 {p : Int × Int} {S : Store} {Q E t} : RsP (isiM [0, 1] [.dat (ratP p), .dat (.cls 1)] S) Q E t = Q (.dat (.bl false)) S := isi_obj_cls rfl rfl
theorem e_as {x : P} {q : Int × Int} {S : Store} (h : NumQ x q) (b : Bq 13000 q) : M_as_ratio [.dat x] S = .ok (.dat (ratP q)) S := by
  refine eq_of_rsp (t := .mk) ?_
  rw [run_as_ratio]
  unfold b_as_ratio
  cases h with
  | rat p => simp -dsimp only [↓r_var, ↓r_K, ↓r_aNil, ↓r_aCons, ↓r_op, ↓r_dat, ↓r_tup, ↓r_lst, ↓r_lstM, ↓r_call, ↓r_cm, ↓r_un, ↓r_negI, ↓r_if, ↓r_val, ↓r_and, ↓r_or, ↓r_not, ↓r_yes, ↓r_andV, ↓r_orV, ↓r_notV, ↓r_fld, ↓r_meth, ↓r_prop, ↓r_ix_lst, ↓r_ix_tup, ↓r_ix_loc, ↓r_len_lst, ↓r_len_tup, ↓r_fm1, ↓r_fm2, ↓r_all, ↓r_app, ↓r_ext, ↓o_seq, ↓o_nil, ↓o_ret, ↓o_set, ↓o_expr, ↓o_if, ↓o_bad, ↓o_par, ↓o_par3, ↓o_asg, ↓o_gNm, ↓o_gTp, ↓o_gsNil, ↓o_gsCons, ↓o_gSb, ↓o_retF, ↓o_fld, ↓o_for, ↓r_iSeq, ↓r_iTpl, ↓r_iRg, ↓r_lc, ↓o_frz, ↓r_iEnm, ↓r_reprB_bl, ↓r_reprB_lst, ↓r_chain, ↓r_iStrM, ↓r_iKeysD, ↓r_iItemsD, ↓r_gDGet, ↓r_gDIn, ↓r_pairs0, ↓r_pairs1, ↓r_disp, ↓r_dc, ↓dcL_nil, ↓r_sortD, ↓r_sortL, ↓r_dictD, ↓r_dictL, ↓r_listD, ↓r_listL, ↓r_listT, ↓r_lenDd, ↓r_len_str, ↓r_jn, ↓r_sl, ↓r_pNone, ↓r_pSome, ↓r_gSlS, ↓r_gSlL, ↓r_ix_str, ↓r_dget2, ↓is_non_int, ↓is_non_bool, ↓is_non_str, ↓is_non_list, ↓is_non_tuple, ↓is_non_dict, ↓is_non_cls, ↓is_bl_int, ↓is_bl_bool, ↓is_bl_str, ↓is_bl_list, ↓is_bl_tuple, ↓is_bl_dict, ↓is_bl_cls, ↓is_int_int, ↓is_int_bool, ↓is_int_str, ↓is_int_list, ↓is_int_tuple, ↓is_int_dict, ↓is_int_cls, ↓is_str_int, ↓is_str_bool, ↓is_str_str, ↓is_str_list, ↓is_str_tuple, ↓is_str_dict, ↓is_str_cls, ↓is_lst_int, ↓is_lst_bool, ↓is_lst_str, ↓is_lst_list, ↓is_lst_tuple, ↓is_lst_dict, ↓is_lst_cls, ↓is_tup_int, ↓is_tup_bool, ↓is_tup_str, ↓is_tup_list, ↓is_tup_tuple, ↓is_tup_dict, ↓is_tup_cls, ↓is_dic_int, ↓is_dic_bool, ↓is_dic_str, ↓is_dic_list, ↓is_dic_tuple, ↓is_dic_dict, ↓is_dic_cls, ↓is_obj_int, ↓is_obj_bool, ↓is_obj_str, ↓is_obj_list, ↓is_obj_tuple, ↓is_obj_dict, ↓is_obj_cls,
  opt_some, opt_ite, opt_ite2, rs_ok, List.getElem?_cons_zero, List.getElem?_cons_succ, List.set_cons_zero, List.set_cons_succ, lstIn_lst, objIn_obj, objOf_dat, objOf_loc, two?, three?, datOf, locIx, intOf, intL, lstD, tupD, blOf, wipeP,
  pAdd_int, pAdd_str, pSub, pMul, pMod, pDiv, pLt, pLe, pGt, pGe, pInt, pAbs, pMax, pMin, pDivmod, tru_bl, tru_int, tru_non, dats, Option.map_some, decide_eq_true_eq, atI0, atI1, atI2, ixN0, ixN1, pEqF_int, pEqT_int, pEqF_str, pEqT_str, p10_4, p10_5, p10_9, p10_10, p10_18, p10_19, p10_29, p10_30, List.length_cons, List.length_nil, true_and, and_true, Bool.not_true, Bool.not_false, if_true, if_false, Bool.false_eq_true, Bool.not_eq_true', decide_eq_false_iff_not, bne_iff_ne, ne_eq, Int.reduceEq, Int.reduceLT, Int.reduceLE, Int.reduceGT, Int.reduceNeg, not_false_eq_true, not_true_eq_false, decide_true, decide_false, eq_self, and_self, sizeLine_eq, Nat.reduceAdd, Nat.reduceLeDiff, Nat.reduceLT, Nat.reduceEqDiff, List.cons_append, List.nil_append, lst1_is, strD, dicD, dicOf_dat, keyOf_str, keyOf_int, kpairs, pKey, pIsN_non, pNotN_non, pIsN_dic, pNotN_dic, pInS_str, seqOf_lst, seqOf_tup, strsOf, strKeys, keyP, List.map_cons, List.map_nil, Option.bind_some, Nat.reduceBEq, ct0, ct1, Bool.true_eq_false, Int.natCast_one, Int.natCast_zero, Int.cast_ofNat_Int, ↓isi_rat]
  | int n => simp -dsimp only [↓r_var, ↓r_K, ↓r_aNil, ↓r_aCons, ↓r_op, ↓r_dat, ↓r_tup, ↓r_lst, ↓r_lstM, ↓r_call, ↓r_cm, ↓r_un, ↓r_negI, ↓r_if, ↓r_val, ↓r_and, ↓r_or, ↓r_not, ↓r_yes, ↓r_andV, ↓r_orV, ↓r_notV, ↓r_fld, ↓r_meth, ↓r_prop, ↓r_ix_lst, ↓r_ix_tup, ↓r_ix_loc, ↓r_len_lst, ↓r_len_tup, ↓r_fm1, ↓r_fm2, ↓r_all, ↓r_app, ↓r_ext, ↓o_seq, ↓o_nil, ↓o_ret, ↓o_set, ↓o_expr, ↓o_if, ↓o_bad, ↓o_par, ↓o_par3, ↓o_asg, ↓o_gNm, ↓o_gTp, ↓o_gsNil, ↓o_gsCons, ↓o_gSb, ↓o_retF, ↓o_fld, ↓o_for, ↓r_iSeq, ↓r_iTpl, ↓r_iRg, ↓r_lc, ↓o_frz, ↓r_iEnm, ↓r_reprB_bl, ↓r_reprB_lst, ↓r_chain, ↓r_iStrM, ↓r_iKeysD, ↓r_iItemsD, ↓r_gDGet, ↓r_gDIn, ↓r_pairs0, ↓r_pairs1, ↓r_disp, ↓r_dc, ↓dcL_nil, ↓r_sortD, ↓r_sortL, ↓r_dictD, ↓r_dictL, ↓r_listD, ↓r_listL, ↓r_listT, ↓r_lenDd, ↓r_len_str, ↓r_jn, ↓r_sl, ↓r_pNone, ↓r_pSome, ↓r_gSlS, ↓r_gSlL, ↓r_ix_str, ↓r_dget2, ↓is_non_int, ↓is_non_bool, ↓is_non_str, ↓is_non_list, ↓is_non_tuple, ↓is_non_dict, ↓is_non_cls, ↓is_bl_int, ↓is_bl_bool, ↓is_bl_str, ↓is_bl_list, ↓is_bl_tuple, ↓is_bl_dict, ↓is_bl_cls, ↓is_int_int, ↓is_int_bool, ↓is_int_str, ↓is_int_list, ↓is_int_tuple, ↓is_int_dict, ↓is_int_cls, ↓is_str_int, ↓is_str_bool, ↓is_str_str, ↓is_str_list, ↓is_str_tuple, ↓is_str_dict, ↓is_str_cls, ↓is_lst_int, ↓is_lst_bool, ↓is_lst_str, ↓is_lst_list, ↓is_lst_tuple, ↓is_lst_dict, ↓is_lst_cls, ↓is_tup_int, ↓is_tup_bool, ↓is_tup_str, ↓is_tup_list, ↓is_tup_tuple, ↓is_tup_dict, ↓is_tup_cls, ↓is_dic_int, ↓is_dic_bool, ↓is_dic_str, ↓is_dic_list, ↓is_dic_tuple, ↓is_dic_dict, ↓is_dic_cls, ↓is_obj_int, ↓is_obj_bool, ↓is_obj_str, ↓is_obj_list, ↓is_obj_tuple, ↓is_obj_dict, ↓is_obj_cls,
  opt_some, opt_ite, opt_ite2, rs_ok, List.getElem?_cons_zero, List.getElem?_cons_succ, List.set_cons_zero, List.set_cons_succ, lstIn_lst, objIn_obj, objOf_dat, objOf_loc, two?, three?, datOf, locIx, intOf, intL, lstD, tupD, blOf, wipeP,
  pAdd_int, pAdd_str, pSub, pMul, pMod, pDiv, pLt, pLe, pGt, pGe, pInt, pAbs, pMax, pMin, pDivmod, tru_bl, tru_int, tru_non, dats, Option.map_some, decide_eq_true_eq, atI0, atI1, atI2, ixN0, ixN1, pEqF_int, pEqT_int, pEqF_str, pEqT_str, p10_4, p10_5, p10_9, p10_10, p10_18, p10_19, p10_29, p10_30, List.length_cons, List.length_nil, true_and, and_true, Bool.not_true, Bool.not_false, if_true, if_false, Bool.false_eq_true, Bool.not_eq_true', decide_eq_false_iff_not, bne_iff_ne, ne_eq, Int.reduceEq, Int.reduceLT, Int.reduceLE, Int.reduceGT, Int.reduceNeg, not_false_eq_true, not_true_eq_false, decide_true, decide_false, eq_self, and_self, sizeLine_eq, Nat.reduceAdd, Nat.reduceLeDiff, Nat.reduceLT, Nat.reduceEqDiff, List.cons_append, List.nil_append, lst1_is, strD, dicD, dicOf_dat, keyOf_str, keyOf_int, kpairs, pKey, pIsN_non, pNotN_non, pIsN_dic, pNotN_dic, pInS_str, seqOf_lst, seqOf_tup, strsOf, strKeys, keyP, List.map_cons, List.map_nil, Option.bind_some, Nat.reduceBEq, ct0, ct1, Bool.true_eq_false, Int.natCast_one, Int.natCast_zero, Int.cast_ofNat_Int, e_mk1 b.1]
/-! ### below, == -/
def bel (p q : Int × Int) : Bool := decide (p.1 * q.2 < q.1 * p.2)
theorem b_below {x : P} {p q : Int × Int} {S : Store} {N : SS} {R : Val → Store → Prop} {B C : SS} {ER : XR} {t} (h : NumQ x q) (bp : Bq 10000 p) (bq : Bq 10000 q) (hR : R (.dat (.bl (bel p q))) S) :
    OuP (b_Ratio_is_below [some (.dat (ratP p)), some (.dat x), none] S) N R B C ER t := by
  unfold b_Ratio_is_below
  have bp' := bp.mono (show 10000 ≤ 1000000 by decide)
  have bq' := bq.mono (show 10000 ≤ 1000000 by decide)
  simp -dsimp only [↓r_var, ↓r_K, ↓r_aNil, ↓r_aCons, ↓r_op, ↓r_dat, ↓r_tup, ↓r_lst, ↓r_lstM, ↓r_call, ↓r_cm, ↓r_un, ↓r_negI, ↓r_if, ↓r_val, ↓r_and, ↓r_or, ↓r_not, ↓r_yes, ↓r_andV, ↓r_orV, ↓r_notV, ↓r_fld, ↓r_meth, ↓r_prop, ↓r_ix_lst, ↓r_ix_tup, ↓r_ix_loc, ↓r_len_lst, ↓r_len_tup, ↓r_fm1, ↓r_fm2, ↓r_all, ↓r_app, ↓r_ext, ↓o_seq, ↓o_nil, ↓o_ret, ↓o_set, ↓o_expr, ↓o_if, ↓o_bad, ↓o_par, ↓o_par3, ↓o_asg, ↓o_gNm, ↓o_gTp, ↓o_gsNil, ↓o_gsCons, ↓o_gSb, ↓o_retF, ↓o_fld, ↓o_for, ↓r_iSeq, ↓r_iTpl, ↓r_iRg, ↓r_lc, ↓o_frz, ↓r_iEnm, ↓r_reprB_bl, ↓r_reprB_lst, ↓r_chain, ↓r_iStrM, ↓r_iKeysD, ↓r_iItemsD, ↓r_gDGet, ↓r_gDIn, ↓r_pairs0, ↓r_pairs1, ↓r_disp, ↓r_dc, ↓dcL_nil, ↓r_sortD, ↓r_sortL, ↓r_dictD, ↓r_dictL, ↓r_listD, ↓r_listL, ↓r_listT, ↓r_lenDd, ↓r_len_str, ↓r_jn, ↓r_sl, ↓r_pNone, ↓r_pSome, ↓r_gSlS, ↓r_gSlL, ↓r_ix_str, ↓r_dget2, ↓is_non_int, ↓is_non_bool, ↓is_non_str, ↓is_non_list, ↓is_non_tuple, ↓is_non_dict, ↓is_non_cls, ↓is_bl_int, ↓is_bl_bool, ↓is_bl_str, ↓is_bl_list, ↓is_bl_tuple, ↓is_bl_dict, ↓is_bl_cls, ↓is_int_int, ↓is_int_bool, ↓is_int_str, ↓is_int_list, ↓is_int_tuple, ↓is_int_dict, ↓is_int_cls, ↓is_str_int, ↓is_str_bool, ↓is_str_str, ↓is_str_list, ↓is_str_tuple, ↓is_str_dict, ↓is_str_cls, ↓is_lst_int, ↓is_lst_bool, ↓is_lst_str, ↓is_lst_list, ↓is_lst_tuple, ↓is_lst_dict, ↓is_lst_cls, ↓is_tup_int, ↓is_tup_bool, ↓is_tup_str, ↓is_tup_list, ↓is_tup_tuple, ↓is_tup_dict, ↓is_tup_cls, ↓is_dic_int, ↓is_dic_bool, ↓is_dic_str, ↓is_dic_list, ↓is_dic_tuple, ↓is_dic_dict, ↓is_dic_cls, ↓is_obj_int, ↓is_obj_bool, ↓is_obj_str, ↓is_obj_list, ↓is_obj_tuple, ↓is_obj_dict, ↓is_obj_cls,
  opt_some, opt_ite, opt_ite2, rs_ok, List.getElem?_cons_zero, List.getElem?_cons_succ, List.set_cons_zero, List.set_cons_succ, lstIn_lst, objIn_obj, objOf_dat, objOf_loc, two?, three?, datOf, locIx, intOf, intL, lstD, tupD, blOf, wipeP,
  pAdd_int, pAdd_str, pSub, pMul, pMod, pDiv, pLt, pLe, pGt, pGe, pInt, pAbs, pMax, pMin, pDivmod, tru_bl, tru_int, tru_non, dats, Option.map_some, decide_eq_true_eq, atI0, atI1, atI2, ixN0, ixN1, pEqF_int, pEqT_int, pEqF_str, pEqT_str, p10_4, p10_5, p10_9, p10_10, p10_18, p10_19, p10_29, p10_30, List.length_cons, List.length_nil, true_and, and_true, Bool.not_true, Bool.not_false, if_true, if_false, Bool.false_eq_true, Bool.not_eq_true', decide_eq_false_iff_not, bne_iff_ne, ne_eq, Int.reduceEq, Int.reduceLT, Int.reduceLE, Int.reduceGT, Int.reduceNeg, not_false_eq_true, not_true_eq_false, decide_true, decide_false, eq_self, and_self, sizeLine_eq, Nat.reduceAdd, Nat.reduceLeDiff, Nat.reduceLT, Nat.reduceEqDiff, List.cons_append, List.nil_append, lst1_is, strD, dicD, dicOf_dat, keyOf_str, keyOf_int, kpairs, pKey, pIsN_non, pNotN_non, pIsN_dic, pNotN_dic, pInS_str, seqOf_lst, seqOf_tup, strsOf, strKeys, keyP, List.map_cons, List.map_nil, Option.bind_some, Nat.reduceBEq, ct0, ct1, Bool.true_eq_false, Int.natCast_one, Int.natCast_zero, Int.cast_ofNat_Int, e_want h, e_as h (bq.mono (by decide)), objOf_rat, mul_ok bp'.1 bq'.2, mul_ok bq'.1 bp'.2]
  exact hR
theorem e_below {x : P} {p q : Int × Int} {S : Store} (h : NumQ x q) (bp : Bq 10000 p) (bq : Bq 10000 q) : M_Ratio_is_below [.dat (ratP p), .dat x] S = .ok (.dat (.bl (bel p q))) S := by
  refine eq_of_rsp (t := .mk) ?_
  rw [run_Ratio_is_below]
  exact b_below h bp bq ⟨rfl, rfl⟩
theorem e_belowK {x : P} {p q : Int × Int} {S : Store} (h : NumQ x q) (bp : Bq 10000 p) (bq : Bq 10000 q) : MK_Ratio_is_below_other [.dat (ratP p), .dat x] S = .ok (.dat (.bl (bel p q))) S := by
  refine eq_of_rsp (t := .mk) ?_
  unfold MK_Ratio_is_below_other F_Ratio_is_below
  rw [run_kw (n := 1 + 1) (ρ := [some (.dat (ratP p)), some (.dat x), none]) rfl rfl]
  exact b_below h bp bq ⟨rfl, rfl⟩
theorem e_eqR {p q : Int × Int} {S : Store} : M_Ratio_DeqD [.dat (ratP p), .dat (ratP q)] S = .ok (.dat (.bl (decide (p = q)))) S := by
  refine eq_of_rsp (t := .mk) ?_
  rw [run_Ratio_DeqD]
  unfold b_Ratio_DeqD
  simp -dsimp only [↓r_var, ↓r_K, ↓r_aNil, ↓r_aCons, ↓r_op, ↓r_dat, ↓r_tup, ↓r_lst, ↓r_lstM, ↓r_call, ↓r_cm, ↓r_un, ↓r_negI, ↓r_if, ↓r_val, ↓r_and, ↓r_or, ↓r_not, ↓r_yes, ↓r_andV, ↓r_orV, ↓r_notV, ↓r_fld, ↓r_meth, ↓r_prop, ↓r_ix_lst, ↓r_ix_tup, ↓r_ix_loc, ↓r_len_lst, ↓r_len_tup, ↓r_fm1, ↓r_fm2, ↓r_all, ↓r_app, ↓r_ext, ↓o_seq, ↓o_nil, ↓o_ret, ↓o_set, ↓o_expr, ↓o_if, ↓o_bad, ↓o_par, ↓o_par3, ↓o_asg, ↓o_gNm, ↓o_gTp, ↓o_gsNil, ↓o_gsCons, ↓o_gSb, ↓o_retF, ↓o_fld, ↓o_for, ↓r_iSeq, ↓r_iTpl, ↓r_iRg, ↓r_lc, ↓o_frz, ↓r_iEnm, ↓r_reprB_bl, ↓r_reprB_lst, ↓r_chain, ↓r_iStrM, ↓r_iKeysD, ↓r_iItemsD, ↓r_gDGet, ↓r_gDIn, ↓r_pairs0, ↓r_pairs1, ↓r_disp, ↓r_dc, ↓dcL_nil, ↓r_sortD, ↓r_sortL, ↓r_dictD, ↓r_dictL, ↓r_listD, ↓r_listL, ↓r_listT, ↓r_lenDd, ↓r_len_str, ↓r_jn, ↓r_sl, ↓r_pNone, ↓r_pSome, ↓r_gSlS, ↓r_gSlL, ↓r_ix_str, ↓r_dget2, ↓is_non_int, ↓is_non_bool, ↓is_non_str, ↓is_non_list, ↓is_non_tuple, ↓is_non_dict, ↓is_non_cls, ↓is_bl_int, ↓is_bl_bool, ↓is_bl_str, ↓is_bl_list, ↓is_bl_tuple, ↓is_bl_dict, ↓is_bl_cls, ↓is_int_int, ↓is_int_bool, ↓is_int_str, ↓is_int_list, ↓is_int_tuple, ↓is_int_dict, ↓is_int_cls, ↓is_str_int, ↓is_str_bool, ↓is_str_str, ↓is_str_list, ↓is_str_tuple, ↓is_str_dict, ↓is_str_cls, ↓is_lst_int, ↓is_lst_bool, ↓is_lst_str, ↓is_lst_list, ↓is_lst_tuple, ↓is_lst_dict, ↓is_lst_cls, ↓is_tup_int, ↓is_tup_bool, ↓is_tup_str, ↓is_tup_list, ↓is_tup_tuple, ↓is_tup_dict, ↓is_tup_cls, ↓is_dic_int, ↓is_dic_bool, ↓is_dic_str, ↓is_dic_list, ↓is_dic_tuple, ↓is_dic_dict, ↓is_dic_cls, ↓is_obj_int, ↓is_obj_bool, ↓is_obj_str, ↓is_obj_list, ↓is_obj_tuple, ↓is_obj_dict, ↓is_obj_cls,
  opt_some, opt_ite, opt_ite2, rs_ok, List.getElem?_cons_zero, List.getElem?_cons_succ, List.set_cons_zero, List.set_cons_succ, lstIn_lst, objIn_obj, objOf_dat, objOf_loc, two?, three?, datOf, locIx, intOf, intL, lstD, tupD, blOf, wipeP,
  pAdd_int, pAdd_str, pSub, pMul, pMod, pDiv, pLt, pLe, pGt, pGe, pInt, pAbs, pMax, pMin, pDivmod, tru_bl, tru_int, tru_non, dats, Option.map_some, decide_eq_true_eq, atI0, atI1, atI2, ixN0, ixN1, pEqF_int, pEqT_int, pEqF_str, pEqT_str, p10_4, p10_5, p10_9, p10_10, p10_18, p10_19, p10_29, p10_30, List.length_cons, List.length_nil, true_and, and_true, Bool.not_true, Bool.not_false, if_true, if_false, Bool.false_eq_true, Bool.not_eq_true', decide_eq_false_iff_not, bne_iff_ne, ne_eq, Int.reduceEq, Int.reduceLT, Int.reduceLE, Int.reduceGT, Int.reduceNeg, not_false_eq_true, not_true_eq_false, decide_true, decide_false, eq_self, and_self, sizeLine_eq, Nat.reduceAdd, Nat.reduceLeDiff, Nat.reduceLT, Nat.reduceEqDiff, List.cons_append, List.nil_append, lst1_is, strD, dicD, dicOf_dat, keyOf_str, keyOf_int, kpairs, pKey, pIsN_non, pNotN_non, pIsN_dic, pNotN_dic, pInS_str, seqOf_lst, seqOf_tup, strsOf, strKeys, keyP, List.map_cons, List.map_nil, Option.bind_some, Nat.reduceBEq, ct0, ct1, Bool.true_eq_false, Int.natCast_one, Int.natCast_zero, Int.cast_ofNat_Int, ↓isi_rat, objOf_rat]
  obtain ⟨a, b⟩ := p
  obtain ⟨c, d⟩ := q
  by_cases h1 : a = c <;> by_cases h2 : b = d <;> simp [h1, h2]
/-- what is no ratio -/
def nR : P → Prop
  | .cls _ => False
  | .bty _ => False
  | .obj c _ => c = 1
  | _ => True
theorem e_eqX {p : Int × Int} {x : P} {S : Store} (h : nR x) : M_Ratio_DeqD [.dat (ratP p), .dat x] S = .ok (.dat (.bl false)) S := by
  refine eq_of_rsp (t := .mk) ?_
  rw [run_Ratio_DeqD]
  unfold b_Ratio_DeqD
  cases x with
  | cls _ => exact h.elim
  | bty _ => exact h.elim
  | obj c fs =>
    cases (show c = 1 from h)
    walk_at "dl"
  | _ => walk_at "dl"
theorem e_feqR {fs : List (Str × P)} {p : Int × Int} {S : Store} : M_Form_DeqD [.dat (.obj 1 fs), .dat (ratP p)] S = .ok (.dat (.bl false)) S := by
  refine eq_of_rsp (t := .mk) ?_
  rw [run_Form_DeqD]
  unfold b_Form_DeqD
  simp -dsimp only [↓r_var, ↓r_K, ↓r_aNil, ↓r_aCons, ↓r_op, ↓r_dat, ↓r_tup, ↓r_lst, ↓r_lstM, ↓r_call, ↓r_cm, ↓r_un, ↓r_negI, ↓r_if, ↓r_val, ↓r_and, ↓r_or, ↓r_not, ↓r_yes, ↓r_andV, ↓r_orV, ↓r_notV, ↓r_fld, ↓r_meth, ↓r_prop, ↓r_ix_lst, ↓r_ix_tup, ↓r_ix_loc, ↓r_len_lst, ↓r_len_tup, ↓r_fm1, ↓r_fm2, ↓r_all, ↓r_app, ↓r_ext, ↓o_seq, ↓o_nil, ↓o_ret, ↓o_set, ↓o_expr, ↓o_if, ↓o_bad, ↓o_par, ↓o_par3, ↓o_asg, ↓o_gNm, ↓o_gTp, ↓o_gsNil, ↓o_gsCons, ↓o_gSb, ↓o_retF, ↓o_fld, ↓o_for, ↓r_iSeq, ↓r_iTpl, ↓r_iRg, ↓r_lc, ↓o_frz, ↓r_iEnm, ↓r_reprB_bl, ↓r_reprB_lst, ↓r_chain, ↓r_iStrM, ↓r_iKeysD, ↓r_iItemsD, ↓r_gDGet, ↓r_gDIn, ↓r_pairs0, ↓r_pairs1, ↓r_disp, ↓r_dc, ↓dcL_nil, ↓r_sortD, ↓r_sortL, ↓r_dictD, ↓r_dictL, ↓r_listD, ↓r_listL, ↓r_listT, ↓r_lenDd, ↓r_len_str, ↓r_jn, ↓r_sl, ↓r_pNone, ↓r_pSome, ↓r_gSlS, ↓r_gSlL, ↓r_ix_str, ↓r_dget2, ↓is_non_int, ↓is_non_bool, ↓is_non_str, ↓is_non_list, ↓is_non_tuple, ↓is_non_dict, ↓is_non_cls, ↓is_bl_int, ↓is_bl_bool, ↓is_bl_str, ↓is_bl_list, ↓is_bl_tuple, ↓is_bl_dict, ↓is_bl_cls, ↓is_int_int, ↓is_int_bool, ↓is_int_str, ↓is_int_list, ↓is_int_tuple, ↓is_int_dict, ↓is_int_cls, ↓is_str_int, ↓is_str_bool, ↓is_str_str, ↓is_str_list, ↓is_str_tuple, ↓is_str_dict, ↓is_str_cls, ↓is_lst_int, ↓is_lst_bool, ↓is_lst_str, ↓is_lst_list, ↓is_lst_tuple, ↓is_lst_dict, ↓is_lst_cls, ↓is_tup_int, ↓is_tup_bool, ↓is_tup_str, ↓is_tup_list, ↓is_tup_tuple, ↓is_tup_dict, ↓is_tup_cls, ↓is_dic_int, ↓is_dic_bool, ↓is_dic_str, ↓is_dic_list, ↓is_dic_tuple, ↓is_dic_dict, ↓is_dic_cls, ↓is_obj_int, ↓is_obj_bool, ↓is_obj_str, ↓is_obj_list, ↓is_obj_tuple, ↓is_obj_dict, ↓is_obj_cls,
  opt_some, opt_ite, opt_ite2, rs_ok, List.getElem?_cons_zero, List.getElem?_cons_succ, List.set_cons_zero, List.set_cons_succ, lstIn_lst, objIn_obj, objOf_dat, objOf_loc, two?, three?, datOf, locIx, intOf, intL, lstD, tupD, blOf, wipeP,
  pAdd_int, pAdd_str, pSub, pMul, pMod, pDiv, pLt, pLe, pGt, pGe, pInt, pAbs, pMax, pMin, pDivmod, tru_bl, tru_int, tru_non, dats, Option.map_some, decide_eq_true_eq, atI0, atI1, atI2, ixN0, ixN1, pEqF_int, pEqT_int, pEqF_str, pEqT_str, p10_4, p10_5, p10_9, p10_10, p10_18, p10_19, p10_29, p10_30, List.length_cons, List.length_nil, true_and, and_true, Bool.not_true, Bool.not_false, if_true, if_false, Bool.false_eq_true, Bool.not_eq_true', decide_eq_false_iff_not, bne_iff_ne, ne_eq, Int.reduceEq, Int.reduceLT, Int.reduceLE, Int.reduceGT, Int.reduceNeg, not_false_eq_true, not_true_eq_false, decide_true, decide_false, eq_self, and_self, sizeLine_eq, Nat.reduceAdd, Nat.reduceLeDiff, Nat.reduceLT, Nat.reduceEqDiff, List.cons_append, List.nil_append, lst1_is, strD, dicD, dicOf_dat, keyOf_str, keyOf_int, kpairs, pKey, pIsN_non, pNotN_non, pIsN_dic, pNotN_dic, pInS_str, seqOf_lst, seqOf_tup, strsOf, strKeys, keyP, List.map_cons, List.map_nil, Option.bind_some, Nat.reduceBEq, ct0, ct1, Bool.true_eq_false, Int.natCast_one, Int.natCast_zero, Int.cast_ofNat_Int, ↓isi_rat1]
section
variable {base : G2} {p q : Int × Int} {x : P} {S : Store}
theorem eqO_rr : gEqO [(0, M_Ratio_DeqD), (1, M_Form_DeqD)] base (.dat (ratP p)) (.dat (ratP q)) S = .ok (.dat (.bl (decide (p = q)))) S := by
  show boolRs (M_Ratio_DeqD [.dat (ratP p), .dat (ratP q)] S) = _
  rw [e_eqR]
  rfl
theorem eqO_rx (h : nR x) : gEqO [(0, M_Ratio_DeqD), (1, M_Form_DeqD)] base (.dat (ratP p)) (.dat x) S = .ok (.dat (.bl false)) S := by
  have e := e_eqX (p := p) (S := S) h
  cases x with
  | cls _ => exact h.elim
  | bty _ => exact h.elim
  | obj c fs =>
    cases (show c = 1 from h)
    show boolRs (M_Ratio_DeqD [.dat (ratP p), .dat (.obj 1 fs)] S) = _
    rw [e]
    rfl
  | _ => exact congrArg boolRs e
theorem eqO_xr (h : nR x) : gEqO [(0, M_Ratio_DeqD), (1, M_Form_DeqD)] base (.dat x) (.dat (ratP p)) S = .ok (.dat (.bl false)) S := by
  have e := e_eqX (p := p) (S := S) h
  cases x with
  | cls _ => exact h.elim
  | bty _ => exact h.elim
  | obj c fs =>
    cases (show c = 1 from h)
    show boolRs (M_Form_DeqD [.dat (.obj 1 fs), .dat (ratP p)] S) = _
    rw [e_feqR]
    rfl
  | _ => exact congrArg boolRs e
theorem neO_rr : gNeO [(0, M_Ratio_DeqD), (1, M_Form_DeqD)] base (.dat (ratP p)) (.dat (ratP q)) S = .ok (.dat (.bl (!decide (p = q)))) S := by
  show negRs (M_Ratio_DeqD [.dat (ratP p), .dat (ratP q)] S) = _
  rw [e_eqR]
  rfl
theorem neO_ri {i : Int} : gNeO [(0, M_Ratio_DeqD), (1, M_Form_DeqD)] base (.dat (ratP p)) (.dat (.int i)) S = .ok (.dat (.bl true)) S := by
  show negRs (M_Ratio_DeqD [.dat (ratP p), .dat (.int i)] S) = _
  rw [e_eqX (x := .int i) trivial]
  rfl
end
theorem fl_rat (p : Int × Int) : flFs [(Str.ofString "own_top", P.int p.1), (Str.ofString "own_bottom", P.int p.2)] = true := rfl
theorem inL_rats {p : Int × Int} {S : Store} : ∀ ps : List (Int × Int), inL M_Ratio_DeqD 0 [(Str.ofString "own_top", P.int p.1), (Str.ofString "own_bottom", P.int p.2)] (ps.map ratP) S = .ok (.dat (.bl (ps.any fun q => decide (q = p)))) S
  | [] => by rw [List.map_nil, inL]; rfl
  | q :: r => by
    rw [List.map_cons, ratP, inL, if_pos ⟨rfl, rfl⟩]
    have e := e_eqR (p := q) (q := p) (S := S)
    rw [ratP, ratP] at e
    rw [e]
    simp only [if_true, List.any_cons]
    by_cases h : q = p
    · simp [h]
    · have e2 : eqFs [(Str.ofString "own_top", P.int q.1), (Str.ofString "own_bottom", P.int q.2)] [(Str.ofString "own_top", P.int p.1), (Str.ofString "own_bottom", P.int p.2)] = false := by
        obtain ⟨a, b⟩ := q
        obtain ⟨c, d⟩ := p
        by_cases h1 : a = c
        · subst h1
          have h2 : b ≠ d := fun e => h (by rw [e])
          simp [eqFs, eqFl, h2]
        · simp [eqFs, eqFl, h1]
      rw [e2, decide_eq_false h, inL_rats r]
      simp
theorem inO_rats {base : G2} {p : Int × Int} {ps : List (Int × Int)} {S : Store} : gInO [(0, M_Ratio_DeqD), (1, M_Form_DeqD)] base (.dat (ratP p)) (.dat (.lst (ps.map ratP))) S = .ok (.dat (.bl (ps.any fun q => decide (q = p)))) S := inL_rats ps
end K12
set_option Elab.async false
set_option linter.all false
set_option maxRecDepth 100000
set_option maxHeartbeats 2000000
namespace K12
open PySem L2 DL QR
local macro_rules | `(tactic| walk_at "dl") => `(tactic| try simp -dsimp only [↓r_var, ↓r_K, ↓r_aNil, ↓r_aCons, ↓r_op, ↓r_dat, ↓r_tup, ↓r_lst, ↓r_lstM, ↓r_call, ↓r_cm, ↓r_un, ↓r_negI, ↓r_if, ↓r_val, ↓r_and, ↓r_or, ↓r_not, ↓r_yes, ↓r_andV, ↓r_orV, ↓r_notV, ↓r_fld, ↓r_meth, ↓r_prop, ↓r_ix_lst, ↓r_ix_tup, ↓r_ix_loc, ↓r_len_lst, ↓r_len_tup, ↓r_fm1, ↓r_fm2, ↓r_all, ↓r_app, ↓r_ext, ↓o_seq, ↓o_nil, ↓o_ret, ↓o_set, ↓o_expr, ↓o_if, ↓o_bad, ↓o_par, ↓o_par3, ↓o_asg, ↓o_gNm, ↓o_gTp, ↓o_gsNil, ↓o_gsCons, ↓o_gSb, ↓o_retF, ↓o_fld, ↓o_for, ↓r_iSeq, ↓r_iTpl, ↓r_iRg, ↓r_lc, ↓o_frz, ↓r_iEnm, ↓r_reprB_bl, ↓r_reprB_lst, ↓r_chain, ↓r_iStrM, ↓r_iKeysD, ↓r_iItemsD, ↓r_gDGet, ↓r_gDIn, ↓r_pairs0, ↓r_pairs1, ↓r_disp, ↓r_dc, ↓dcL_nil, ↓r_sortD, ↓r_sortL, ↓r_dictD, ↓r_dictL, ↓r_listD, ↓r_listL, ↓r_listT, ↓r_lenDd, ↓r_len_str, ↓r_jn, ↓r_sl, ↓r_pNone, ↓r_pSome, ↓r_gSlS, ↓r_gSlL, ↓r_ix_str, ↓r_dget2, ↓is_non_int, ↓is_non_bool, ↓is_non_str, ↓is_non_list, ↓is_non_tuple, ↓is_non_dict, ↓is_non_cls, ↓is_bl_int, ↓is_bl_bool, ↓is_bl_str, ↓is_bl_list, ↓is_bl_tuple, ↓is_bl_dict, ↓is_bl_cls, ↓is_int_int, ↓is_int_bool, ↓is_int_str, ↓is_int_list, ↓is_int_tuple, ↓is_int_dict, ↓is_int_cls, ↓is_str_int, ↓is_str_bool, ↓is_str_str, ↓is_str_list, ↓is_str_tuple, ↓is_str_dict, ↓is_str_cls, ↓is_lst_int, ↓is_lst_bool, ↓is_lst_str, ↓is_lst_list, ↓is_lst_tuple, ↓is_lst_dict, ↓is_lst_cls, ↓is_tup_int, ↓is_tup_bool, ↓is_tup_str, ↓is_tup_list, ↓is_tup_tuple, ↓is_tup_dict, ↓is_tup_cls, ↓is_dic_int, ↓is_dic_bool, ↓is_dic_str, ↓is_dic_list, ↓is_dic_tuple, ↓is_dic_dict, ↓is_dic_cls, ↓is_obj_int, ↓is_obj_bool, ↓is_obj_str, ↓is_obj_list, ↓is_obj_tuple, ↓is_obj_dict, ↓is_obj_cls,
  opt_some, opt_ite, opt_ite2, rs_ok, List.getElem?_cons_zero, List.getElem?_cons_succ, List.set_cons_zero, List.set_cons_succ, lstIn_lst, objIn_obj, objOf_dat, objOf_loc, two?, three?, datOf, locIx, intOf, intL, lstD, tupD, blOf, wipeP,
  pAdd_int, pAdd_str, pSub, pMul, pMod, pDiv, pLt, pLe, pGt, pGe, pInt, pAbs, pMax, pMin, pDivmod, tru_bl, tru_int, tru_non, dats, Option.map_some, decide_eq_true_eq, atI0, atI1, atI2, ixN0, ixN1, pEqF_int, pEqT_int, pEqF_str, pEqT_str, p10_4, p10_5, p10_9, p10_10, p10_18, p10_19, p10_29, p10_30, List.length_cons, List.length_nil, true_and, and_true, Bool.not_true, Bool.not_false, if_true, if_false, Bool.false_eq_true, Bool.not_eq_true', decide_eq_false_iff_not, bne_iff_ne, ne_eq, Int.reduceEq, Int.reduceLT, Int.reduceLE, Int.reduceGT, Int.reduceNeg, not_false_eq_true, not_true_eq_false, decide_true, decide_false, eq_self, and_self, sizeLine_eq, Nat.reduceAdd, Nat.reduceLeDiff, Nat.reduceLT, Nat.reduceEqDiff, List.cons_append, List.nil_append, lst1_is, strD, dicD, dicOf_dat, keyOf_str, keyOf_int, kpairs, pKey, pIsN_non, pNotN_non, pIsN_dic, pNotN_dic, pInS_str, seqOf_lst, seqOf_tup, strsOf, strKeys, keyP, List.map_cons, List.map_nil, Option.bind_some, Nat.reduceBEq, ct0, ct1, Bool.true_eq_false, Int.natCast_one, Int.natCast_zero, Int.cast_ofNat_Int])
theorem e_law_sum {n m : Nat} {p q : Int × Int} {S : Store} (hp : G n p) (hq : G m q) (l : n + m + 1 ≤ 13000) : M_law_sum [.dat (pairP p), .dat (pairP q)] S = .ok (.dat (pairP (addQ p q))) S := by
  refine eq_of_rsp (t := .mk) ?_
  rw [run_law_sum]
  unfold b_law_sum
  have bp := hp.bq.mono (show n ≤ 1000000 by omega)
  have bq := hq.bq.mono (show m ≤ 1000000 by omega)
  simp -dsimp only [↓r_var, ↓r_K, ↓r_aNil, ↓r_aCons, ↓r_op, ↓r_dat, ↓r_tup, ↓r_lst, ↓r_lstM, ↓r_call, ↓r_cm, ↓r_un, ↓r_negI, ↓r_if, ↓r_val, ↓r_and, ↓r_or, ↓r_not, ↓r_yes, ↓r_andV, ↓r_orV, ↓r_notV, ↓r_fld, ↓r_meth, ↓r_prop, ↓r_ix_lst, ↓r_ix_tup, ↓r_ix_loc, ↓r_len_lst, ↓r_len_tup, ↓r_fm1, ↓r_fm2, ↓r_all, ↓r_app, ↓r_ext, ↓o_seq, ↓o_nil, ↓o_ret, ↓o_set, ↓o_expr, ↓o_if, ↓o_bad, ↓o_par, ↓o_par3, ↓o_asg, ↓o_gNm, ↓o_gTp, ↓o_gsNil, ↓o_gsCons, ↓o_gSb, ↓o_retF, ↓o_fld, ↓o_for, ↓r_iSeq, ↓r_iTpl, ↓r_iRg, ↓r_lc, ↓o_frz, ↓r_iEnm, ↓r_reprB_bl, ↓r_reprB_lst, ↓r_chain, ↓r_iStrM, ↓r_iKeysD, ↓r_iItemsD, ↓r_gDGet, ↓r_gDIn, ↓r_pairs0, ↓r_pairs1, ↓r_disp, ↓r_dc, ↓dcL_nil, ↓r_sortD, ↓r_sortL, ↓r_dictD, ↓r_dictL, ↓r_listD, ↓r_listL, ↓r_listT, ↓r_lenDd, ↓r_len_str, ↓r_jn, ↓r_sl, ↓r_pNone, ↓r_pSome, ↓r_gSlS, ↓r_gSlL, ↓r_ix_str, ↓r_dget2, ↓is_non_int, ↓is_non_bool, ↓is_non_str, ↓is_non_list, ↓is_non_tuple, ↓is_non_dict, ↓is_non_cls, ↓is_bl_int, ↓is_bl_bool, ↓is_bl_str, ↓is_bl_list, ↓is_bl_tuple, ↓is_bl_dict, ↓is_bl_cls, ↓is_int_int, ↓is_int_bool, ↓is_int_str, ↓is_int_list, ↓is_int_tuple, ↓is_int_dict, ↓is_int_cls, ↓is_str_int, ↓is_str_bool, ↓is_str_str, ↓is_str_list, ↓is_str_tuple, ↓is_str_dict, ↓is_str_cls, ↓is_lst_int, ↓is_lst_bool, ↓is_lst_str, ↓is_lst_list, ↓is_lst_tuple, ↓is_lst_dict, ↓is_lst_cls, ↓is_tup_int, ↓is_tup_bool, ↓is_tup_str, ↓is_tup_list, ↓is_tup_tuple, ↓is_tup_dict, ↓is_tup_cls, ↓is_dic_int, ↓is_dic_bool, ↓is_dic_str, ↓is_dic_list, ↓is_dic_tuple, ↓is_dic_dict, ↓is_dic_cls, ↓is_obj_int, ↓is_obj_bool, ↓is_obj_str, ↓is_obj_list, ↓is_obj_tuple, ↓is_obj_dict, ↓is_obj_cls,
  opt_some, opt_ite, opt_ite2, rs_ok, List.getElem?_cons_zero, List.getElem?_cons_succ, List.set_cons_zero, List.set_cons_succ, lstIn_lst, objIn_obj, objOf_dat, objOf_loc, two?, three?, datOf, locIx, intOf, intL, lstD, tupD, blOf, wipeP,
  pAdd_int, pAdd_str, pSub, pMul, pMod, pDiv, pLt, pLe, pGt, pGe, pInt, pAbs, pMax, pMin, pDivmod, tru_bl, tru_int, tru_non, dats, Option.map_some, decide_eq_true_eq, atI0, atI1, atI2, ixN0, ixN1, pEqF_int, pEqT_int, pEqF_str, pEqT_str, p10_4, p10_5, p10_9, p10_10, p10_18, p10_19, p10_29, p10_30, List.length_cons, List.length_nil, true_and, and_true, Bool.not_true, Bool.not_false, if_true, if_false, Bool.false_eq_true, Bool.not_eq_true', decide_eq_false_iff_not, bne_iff_ne, ne_eq, Int.reduceEq, Int.reduceLT, Int.reduceLE, Int.reduceGT, Int.reduceNeg, not_false_eq_true, not_true_eq_false, decide_true, decide_false, eq_self, and_self, sizeLine_eq, Nat.reduceAdd, Nat.reduceLeDiff, Nat.reduceLT, Nat.reduceEqDiff, List.cons_append, List.nil_append, lst1_is, strD, dicD, dicOf_dat, keyOf_str, keyOf_int, kpairs, pKey, pIsN_non, pNotN_non, pIsN_dic, pNotN_dic, pInS_str, seqOf_lst, seqOf_tup, strsOf, strKeys, keyP, List.map_cons, List.map_nil, Option.bind_some, Nat.reduceBEq, ct0, ct1, Bool.true_eq_false, Int.natCast_one, Int.natCast_zero, Int.cast_ofNat_Int, ↓ix_p0, ↓ix_p1, mul_ok bp.1 bq.2, mul_ok bq.1 bp.2, mul_ok bp.2 bq.2]
  rw [e_law_lowest (Int.mul_ne_zero hp.ne hq.ne) (((hp.bq.1.mul hq.bq.2).add ((hq.bq.1.mul hp.bq.2).mono (by omega))).mono l) ((hp.bq.2.mul hq.bq.2).mono (by omega))]
  walk_at "dl"
  rfl
theorem tp (a b : Int) : P.tup [.int a, .int b] = pairP (a, b) := rfl
theorem bd_fdiv {n : Nat} {a b : Int} (ha : Bd n a) (hb : 0 < b) : Bd n (a.fdiv b) := by
  unfold Bd at *
  rw [Int.fdiv_eq_ediv_of_nonneg _ (by omega)]
  exact Nat.lt_of_le_of_lt (Int.natAbs_ediv_le_natAbs a b) ha
theorem bd_small {n : Nat} {x : Int} (h : -1000000000 ≤ x) (h' : x ≤ 1000000000) (hn : 31 ≤ n) : Bd n x := by
  have : Bd 31 x := by unfold Bd; omega
  exact this.mono hn
theorem g_unit {s d : Int} (hs : s = 1 ∨ s = -1) (h1 : 1 ≤ d) (h2 : d ≤ 1000000000) : G 31 (s, d) := by
  refine ⟨⟨by show 0 < d; omega, ?_⟩, bd_small (by show -1000000000 ≤ s; omega) (by show s ≤ 1000000000; omega) (Nat.le_refl _), bd_small (by show -1000000000 ≤ d; omega) h2 (Nat.le_refl _)⟩
  rcases hs with rfl | rfl
  · show Int.gcd 1 d = 1
    simp
  · show Int.gcd (-1) d = 1
    rw [Int.neg_gcd]
    simp
theorem m_near {n : Nat} {T S : Store} {p : Int × Int} {Q E t} (J : JarF n T S) (hp : G 100 p) (h : ∀ q S', G 132 q → JarF n T S' → Q (.dat (pairP q)) S') : RsP (M_law_near [.loc n, .dat (pairP p)] S) Q E t := by
  rw [run_law_near]
  unfold b_law_near
  walk_at "dl"
  refine m_dip J (by decide) (by decide) fun d S1 d0 d1 J1 => ?_
  have dv := div_ok hp.ne (hp.bq.1.mono (show 100 ≤ 13000 by decide))
  simp -dsimp only [↓r_var, ↓r_K, ↓r_aNil, ↓r_aCons, ↓r_op, ↓r_dat, ↓r_tup, ↓r_lst, ↓r_lstM, ↓r_call, ↓r_cm, ↓r_un, ↓r_negI, ↓r_if, ↓r_val, ↓r_and, ↓r_or, ↓r_not, ↓r_yes, ↓r_andV, ↓r_orV, ↓r_notV, ↓r_fld, ↓r_meth, ↓r_prop, ↓r_ix_lst, ↓r_ix_tup, ↓r_ix_loc, ↓r_len_lst, ↓r_len_tup, ↓r_fm1, ↓r_fm2, ↓r_all, ↓r_app, ↓r_ext, ↓o_seq, ↓o_nil, ↓o_ret, ↓o_set, ↓o_expr, ↓o_if, ↓o_bad, ↓o_par, ↓o_par3, ↓o_asg, ↓o_gNm, ↓o_gTp, ↓o_gsNil, ↓o_gsCons, ↓o_gSb, ↓o_retF, ↓o_fld, ↓o_for, ↓r_iSeq, ↓r_iTpl, ↓r_iRg, ↓r_lc, ↓o_frz, ↓r_iEnm, ↓r_reprB_bl, ↓r_reprB_lst, ↓r_chain, ↓r_iStrM, ↓r_iKeysD, ↓r_iItemsD, ↓r_gDGet, ↓r_gDIn, ↓r_pairs0, ↓r_pairs1, ↓r_disp, ↓r_dc, ↓dcL_nil, ↓r_sortD, ↓r_sortL, ↓r_dictD, ↓r_dictL, ↓r_listD, ↓r_listL, ↓r_listT, ↓r_lenDd, ↓r_len_str, ↓r_jn, ↓r_sl, ↓r_pNone, ↓r_pSome, ↓r_gSlS, ↓r_gSlL, ↓r_ix_str, ↓r_dget2, ↓is_non_int, ↓is_non_bool, ↓is_non_str, ↓is_non_list, ↓is_non_tuple, ↓is_non_dict, ↓is_non_cls, ↓is_bl_int, ↓is_bl_bool, ↓is_bl_str, ↓is_bl_list, ↓is_bl_tuple, ↓is_bl_dict, ↓is_bl_cls, ↓is_int_int, ↓is_int_bool, ↓is_int_str, ↓is_int_list, ↓is_int_tuple, ↓is_int_dict, ↓is_int_cls, ↓is_str_int, ↓is_str_bool, ↓is_str_str, ↓is_str_list, ↓is_str_tuple, ↓is_str_dict, ↓is_str_cls, ↓is_lst_int, ↓is_lst_bool, ↓is_lst_str, ↓is_lst_list, ↓is_lst_tuple, ↓is_lst_dict, ↓is_lst_cls, ↓is_tup_int, ↓is_tup_bool, ↓is_tup_str, ↓is_tup_list, ↓is_tup_tuple, ↓is_tup_dict, ↓is_tup_cls, ↓is_dic_int, ↓is_dic_bool, ↓is_dic_str, ↓is_dic_list, ↓is_dic_tuple, ↓is_dic_dict, ↓is_dic_cls, ↓is_obj_int, ↓is_obj_bool, ↓is_obj_str, ↓is_obj_list, ↓is_obj_tuple, ↓is_obj_dict, ↓is_obj_cls,
  opt_some, opt_ite, opt_ite2, rs_ok, List.getElem?_cons_zero, List.getElem?_cons_succ, List.set_cons_zero, List.set_cons_succ, lstIn_lst, objIn_obj, objOf_dat, objOf_loc, two?, three?, datOf, locIx, intOf, intL, lstD, tupD, blOf, wipeP,
  pAdd_int, pAdd_str, pSub, pMul, pMod, pDiv, pLt, pLe, pGt, pGe, pInt, pAbs, pMax, pMin, pDivmod, tru_bl, tru_int, tru_non, dats, Option.map_some, decide_eq_true_eq, atI0, atI1, atI2, ixN0, ixN1, pEqF_int, pEqT_int, pEqF_str, pEqT_str, p10_4, p10_5, p10_9, p10_10, p10_18, p10_19, p10_29, p10_30, List.length_cons, List.length_nil, true_and, and_true, Bool.not_true, Bool.not_false, if_true, if_false, Bool.false_eq_true, Bool.not_eq_true', decide_eq_false_iff_not, bne_iff_ne, ne_eq, Int.reduceEq, Int.reduceLT, Int.reduceLE, Int.reduceGT, Int.reduceNeg, not_false_eq_true, not_true_eq_false, decide_true, decide_false, eq_self, and_self, sizeLine_eq, Nat.reduceAdd, Nat.reduceLeDiff, Nat.reduceLT, Nat.reduceEqDiff, List.cons_append, List.nil_append, lst1_is, strD, dicD, dicOf_dat, keyOf_str, keyOf_int, kpairs, pKey, pIsN_non, pNotN_non, pIsN_dic, pNotN_dic, pInS_str, seqOf_lst, seqOf_tup, strsOf, strKeys, keyP, List.map_cons, List.map_nil, Option.bind_some, Nat.reduceBEq, ct0, ct1, Bool.true_eq_false, Int.natCast_one, Int.natCast_zero, Int.cast_ofNat_Int, ↓ix_p0, ↓ix_p1]
  split
  · walk_at "dl"
    refine m_parts J1 fun a b S2 ha hb h0 J2 => ?_
    simp -dsimp only [↓r_var, ↓r_K, ↓r_aNil, ↓r_aCons, ↓r_op, ↓r_dat, ↓r_tup, ↓r_lst, ↓r_lstM, ↓r_call, ↓r_cm, ↓r_un, ↓r_negI, ↓r_if, ↓r_val, ↓r_and, ↓r_or, ↓r_not, ↓r_yes, ↓r_andV, ↓r_orV, ↓r_notV, ↓r_fld, ↓r_meth, ↓r_prop, ↓r_ix_lst, ↓r_ix_tup, ↓r_ix_loc, ↓r_len_lst, ↓r_len_tup, ↓r_fm1, ↓r_fm2, ↓r_all, ↓r_app, ↓r_ext, ↓o_seq, ↓o_nil, ↓o_ret, ↓o_set, ↓o_expr, ↓o_if, ↓o_bad, ↓o_par, ↓o_par3, ↓o_asg, ↓o_gNm, ↓o_gTp, ↓o_gsNil, ↓o_gsCons, ↓o_gSb, ↓o_retF, ↓o_fld, ↓o_for, ↓r_iSeq, ↓r_iTpl, ↓r_iRg, ↓r_lc, ↓o_frz, ↓r_iEnm, ↓r_reprB_bl, ↓r_reprB_lst, ↓r_chain, ↓r_iStrM, ↓r_iKeysD, ↓r_iItemsD, ↓r_gDGet, ↓r_gDIn, ↓r_pairs0, ↓r_pairs1, ↓r_disp, ↓r_dc, ↓dcL_nil, ↓r_sortD, ↓r_sortL, ↓r_dictD, ↓r_dictL, ↓r_listD, ↓r_listL, ↓r_listT, ↓r_lenDd, ↓r_len_str, ↓r_jn, ↓r_sl, ↓r_pNone, ↓r_pSome, ↓r_gSlS, ↓r_gSlL, ↓r_ix_str, ↓r_dget2, ↓is_non_int, ↓is_non_bool, ↓is_non_str, ↓is_non_list, ↓is_non_tuple, ↓is_non_dict, ↓is_non_cls, ↓is_bl_int, ↓is_bl_bool, ↓is_bl_str, ↓is_bl_list, ↓is_bl_tuple, ↓is_bl_dict, ↓is_bl_cls, ↓is_int_int, ↓is_int_bool, ↓is_int_str, ↓is_int_list, ↓is_int_tuple, ↓is_int_dict, ↓is_int_cls, ↓is_str_int, ↓is_str_bool, ↓is_str_str, ↓is_str_list, ↓is_str_tuple, ↓is_str_dict, ↓is_str_cls, ↓is_lst_int, ↓is_lst_bool, ↓is_lst_str, ↓is_lst_list, ↓is_lst_tuple, ↓is_lst_dict, ↓is_lst_cls, ↓is_tup_int, ↓is_tup_bool, ↓is_tup_str, ↓is_tup_list, ↓is_tup_tuple, ↓is_tup_dict, ↓is_tup_cls, ↓is_dic_int, ↓is_dic_bool, ↓is_dic_str, ↓is_dic_list, ↓is_dic_tuple, ↓is_dic_dict, ↓is_dic_cls, ↓is_obj_int, ↓is_obj_bool, ↓is_obj_str, ↓is_obj_list, ↓is_obj_tuple, ↓is_obj_dict, ↓is_obj_cls,
  opt_some, opt_ite, opt_ite2, rs_ok, List.getElem?_cons_zero, List.getElem?_cons_succ, List.set_cons_zero, List.set_cons_succ, lstIn_lst, objIn_obj, objOf_dat, objOf_loc, two?, three?, datOf, locIx, intOf, intL, lstD, tupD, blOf, wipeP,
  pAdd_int, pAdd_str, pSub, pMul, pMod, pDiv, pLt, pLe, pGt, pGe, pInt, pAbs, pMax, pMin, pDivmod, tru_bl, tru_int, tru_non, dats, Option.map_some, decide_eq_true_eq, atI0, atI1, atI2, ixN0, ixN1, pEqF_int, pEqT_int, pEqF_str, pEqT_str, p10_4, p10_5, p10_9, p10_10, p10_18, p10_19, p10_29, p10_30, List.length_cons, List.length_nil, true_and, and_true, Bool.not_true, Bool.not_false, if_true, if_false, Bool.false_eq_true, Bool.not_eq_true', decide_eq_false_iff_not, bne_iff_ne, ne_eq, Int.reduceEq, Int.reduceLT, Int.reduceLE, Int.reduceGT, Int.reduceNeg, not_false_eq_true, not_true_eq_false, decide_true, decide_false, eq_self, and_self, sizeLine_eq, Nat.reduceAdd, Nat.reduceLeDiff, Nat.reduceLT, Nat.reduceEqDiff, List.cons_append, List.nil_append, lst1_is, strD, dicD, dicOf_dat, keyOf_str, keyOf_int, kpairs, pKey, pIsN_non, pNotN_non, pIsN_dic, pNotN_dic, pInS_str, seqOf_lst, seqOf_tup, strsOf, strKeys, keyP, List.map_cons, List.map_nil, Option.bind_some, Nat.reduceBEq, ct0, ct1, Bool.true_eq_false, Int.natCast_one, Int.natCast_zero, Int.cast_ofNat_Int, e_law_lowest h0 (ha.mono (show 97 ≤ 13000 by decide)) (hb.mono (show 97 ≤ 13000 by decide))]
    exact h _ _ ((G.nrm h0 ha hb).mono (by decide)) J2
  · split
    · simp -dsimp only [↓r_var, ↓r_K, ↓r_aNil, ↓r_aCons, ↓r_op, ↓r_dat, ↓r_tup, ↓r_lst, ↓r_lstM, ↓r_call, ↓r_cm, ↓r_un, ↓r_negI, ↓r_if, ↓r_val, ↓r_and, ↓r_or, ↓r_not, ↓r_yes, ↓r_andV, ↓r_orV, ↓r_notV, ↓r_fld, ↓r_meth, ↓r_prop, ↓r_ix_lst, ↓r_ix_tup, ↓r_ix_loc, ↓r_len_lst, ↓r_len_tup, ↓r_fm1, ↓r_fm2, ↓r_all, ↓r_app, ↓r_ext, ↓o_seq, ↓o_nil, ↓o_ret, ↓o_set, ↓o_expr, ↓o_if, ↓o_bad, ↓o_par, ↓o_par3, ↓o_asg, ↓o_gNm, ↓o_gTp, ↓o_gsNil, ↓o_gsCons, ↓o_gSb, ↓o_retF, ↓o_fld, ↓o_for, ↓r_iSeq, ↓r_iTpl, ↓r_iRg, ↓r_lc, ↓o_frz, ↓r_iEnm, ↓r_reprB_bl, ↓r_reprB_lst, ↓r_chain, ↓r_iStrM, ↓r_iKeysD, ↓r_iItemsD, ↓r_gDGet, ↓r_gDIn, ↓r_pairs0, ↓r_pairs1, ↓r_disp, ↓r_dc, ↓dcL_nil, ↓r_sortD, ↓r_sortL, ↓r_dictD, ↓r_dictL, ↓r_listD, ↓r_listL, ↓r_listT, ↓r_lenDd, ↓r_len_str, ↓r_jn, ↓r_sl, ↓r_pNone, ↓r_pSome, ↓r_gSlS, ↓r_gSlL, ↓r_ix_str, ↓r_dget2, ↓is_non_int, ↓is_non_bool, ↓is_non_str, ↓is_non_list, ↓is_non_tuple, ↓is_non_dict, ↓is_non_cls, ↓is_bl_int, ↓is_bl_bool, ↓is_bl_str, ↓is_bl_list, ↓is_bl_tuple, ↓is_bl_dict, ↓is_bl_cls, ↓is_int_int, ↓is_int_bool, ↓is_int_str, ↓is_int_list, ↓is_int_tuple, ↓is_int_dict, ↓is_int_cls, ↓is_str_int, ↓is_str_bool, ↓is_str_str, ↓is_str_list, ↓is_str_tuple, ↓is_str_dict, ↓is_str_cls, ↓is_lst_int, ↓is_lst_bool, ↓is_lst_str, ↓is_lst_list, ↓is_lst_tuple, ↓is_lst_dict, ↓is_lst_cls, ↓is_tup_int, ↓is_tup_bool, ↓is_tup_str, ↓is_tup_list, ↓is_tup_tuple, ↓is_tup_dict, ↓is_tup_cls, ↓is_dic_int, ↓is_dic_bool, ↓is_dic_str, ↓is_dic_list, ↓is_dic_tuple, ↓is_dic_dict, ↓is_dic_cls, ↓is_obj_int, ↓is_obj_bool, ↓is_obj_str, ↓is_obj_list, ↓is_obj_tuple, ↓is_obj_dict, ↓is_obj_cls,
  opt_some, opt_ite, opt_ite2, rs_ok, List.getElem?_cons_zero, List.getElem?_cons_succ, List.set_cons_zero, List.set_cons_succ, lstIn_lst, objIn_obj, objOf_dat, objOf_loc, two?, three?, datOf, locIx, intOf, intL, lstD, tupD, blOf, wipeP,
  pAdd_int, pAdd_str, pSub, pMul, pMod, pDiv, pLt, pLe, pGt, pGe, pInt, pAbs, pMax, pMin, pDivmod, tru_bl, tru_int, tru_non, dats, Option.map_some, decide_eq_true_eq, atI0, atI1, atI2, ixN0, ixN1, pEqF_int, pEqT_int, pEqF_str, pEqT_str, p10_4, p10_5, p10_9, p10_10, p10_18, p10_19, p10_29, p10_30, List.length_cons, List.length_nil, true_and, and_true, Bool.not_true, Bool.not_false, if_true, if_false, Bool.false_eq_true, Bool.not_eq_true', decide_eq_false_iff_not, bne_iff_ne, ne_eq, Int.reduceEq, Int.reduceLT, Int.reduceLE, Int.reduceGT, Int.reduceNeg, not_false_eq_true, not_true_eq_false, decide_true, decide_false, eq_self, and_self, sizeLine_eq, Nat.reduceAdd, Nat.reduceLeDiff, Nat.reduceLT, Nat.reduceEqDiff, List.cons_append, List.nil_append, lst1_is, strD, dicD, dicOf_dat, keyOf_str, keyOf_int, kpairs, pKey, pIsN_non, pNotN_non, pIsN_dic, pNotN_dic, pInS_str, seqOf_lst, seqOf_tup, strsOf, strKeys, keyP, List.map_cons, List.map_nil, Option.bind_some, Nat.reduceBEq, ct0, ct1, Bool.true_eq_false, Int.natCast_one, Int.natCast_zero, Int.cast_ofNat_Int, ↓ix_p0, ↓ix_p1, tp]
      exact h (negQ p) _ (hp.neg.mono (by decide)) J1
    · split
      · walk_at "dl"
        exact h p _ (hp.mono (by decide)) J1
      · split
        · simp -dsimp only [↓r_var, ↓r_K, ↓r_aNil, ↓r_aCons, ↓r_op, ↓r_dat, ↓r_tup, ↓r_lst, ↓r_lstM, ↓r_call, ↓r_cm, ↓r_un, ↓r_negI, ↓r_if, ↓r_val, ↓r_and, ↓r_or, ↓r_not, ↓r_yes, ↓r_andV, ↓r_orV, ↓r_notV, ↓r_fld, ↓r_meth, ↓r_prop, ↓r_ix_lst, ↓r_ix_tup, ↓r_ix_loc, ↓r_len_lst, ↓r_len_tup, ↓r_fm1, ↓r_fm2, ↓r_all, ↓r_app, ↓r_ext, ↓o_seq, ↓o_nil, ↓o_ret, ↓o_set, ↓o_expr, ↓o_if, ↓o_bad, ↓o_par, ↓o_par3, ↓o_asg, ↓o_gNm, ↓o_gTp, ↓o_gsNil, ↓o_gsCons, ↓o_gSb, ↓o_retF, ↓o_fld, ↓o_for, ↓r_iSeq, ↓r_iTpl, ↓r_iRg, ↓r_lc, ↓o_frz, ↓r_iEnm, ↓r_reprB_bl, ↓r_reprB_lst, ↓r_chain, ↓r_iStrM, ↓r_iKeysD, ↓r_iItemsD, ↓r_gDGet, ↓r_gDIn, ↓r_pairs0, ↓r_pairs1, ↓r_disp, ↓r_dc, ↓dcL_nil, ↓r_sortD, ↓r_sortL, ↓r_dictD, ↓r_dictL, ↓r_listD, ↓r_listL, ↓r_listT, ↓r_lenDd, ↓r_len_str, ↓r_jn, ↓r_sl, ↓r_pNone, ↓r_pSome, ↓r_gSlS, ↓r_gSlL, ↓r_ix_str, ↓r_dget2, ↓is_non_int, ↓is_non_bool, ↓is_non_str, ↓is_non_list, ↓is_non_tuple, ↓is_non_dict, ↓is_non_cls, ↓is_bl_int, ↓is_bl_bool, ↓is_bl_str, ↓is_bl_list, ↓is_bl_tuple, ↓is_bl_dict, ↓is_bl_cls, ↓is_int_int, ↓is_int_bool, ↓is_int_str, ↓is_int_list, ↓is_int_tuple, ↓is_int_dict, ↓is_int_cls, ↓is_str_int, ↓is_str_bool, ↓is_str_str, ↓is_str_list, ↓is_str_tuple, ↓is_str_dict, ↓is_str_cls, ↓is_lst_int, ↓is_lst_bool, ↓is_lst_str, ↓is_lst_list, ↓is_lst_tuple, ↓is_lst_dict, ↓is_lst_cls, ↓is_tup_int, ↓is_tup_bool, ↓is_tup_str, ↓is_tup_list, ↓is_tup_tuple, ↓is_tup_dict, ↓is_tup_cls, ↓is_dic_int, ↓is_dic_bool, ↓is_dic_str, ↓is_dic_list, ↓is_dic_tuple, ↓is_dic_dict, ↓is_dic_cls, ↓is_obj_int, ↓is_obj_bool, ↓is_obj_str, ↓is_obj_list, ↓is_obj_tuple, ↓is_obj_dict, ↓is_obj_cls,
  opt_some, opt_ite, opt_ite2, rs_ok, List.getElem?_cons_zero, List.getElem?_cons_succ, List.set_cons_zero, List.set_cons_succ, lstIn_lst, objIn_obj, objOf_dat, objOf_loc, two?, three?, datOf, locIx, intOf, intL, lstD, tupD, blOf, wipeP,
  pAdd_int, pAdd_str, pSub, pMul, pMod, pDiv, pLt, pLe, pGt, pGe, pInt, pAbs, pMax, pMin, pDivmod, tru_bl, tru_int, tru_non, dats, Option.map_some, decide_eq_true_eq, atI0, atI1, atI2, ixN0, ixN1, pEqF_int, pEqT_int, pEqF_str, pEqT_str, p10_4, p10_5, p10_9, p10_10, p10_18, p10_19, p10_29, p10_30, List.length_cons, List.length_nil, true_and, and_true, Bool.not_true, Bool.not_false, if_true, if_false, Bool.false_eq_true, Bool.not_eq_true', decide_eq_false_iff_not, bne_iff_ne, ne_eq, Int.reduceEq, Int.reduceLT, Int.reduceLE, Int.reduceGT, Int.reduceNeg, not_false_eq_true, not_true_eq_false, decide_true, decide_false, eq_self, and_self, sizeLine_eq, Nat.reduceAdd, Nat.reduceLeDiff, Nat.reduceLT, Nat.reduceEqDiff, List.cons_append, List.nil_append, lst1_is, strD, dicD, dicOf_dat, keyOf_str, keyOf_int, kpairs, pKey, pIsN_non, pNotN_non, pIsN_dic, pNotN_dic, pInS_str, seqOf_lst, seqOf_tup, strsOf, strKeys, keyP, List.map_cons, List.map_nil, Option.bind_some, Nat.reduceBEq, ct0, ct1, Bool.true_eq_false, Int.natCast_one, Int.natCast_zero, Int.cast_ofNat_Int, ↓ix_p0, ↓ix_p1, dv, tp]
          exact h (_, 1) _ (.int ((bd_fdiv hp.bq.1 hp.nf.pos).mono (by decide)) (by decide)) J1
        · have hd : d = 4 ∨ d = 5 := by omega
          rcases hd with rfl | rfl
          · simp -dsimp only [↓r_var, ↓r_K, ↓r_aNil, ↓r_aCons, ↓r_op, ↓r_dat, ↓r_tup, ↓r_lst, ↓r_lstM, ↓r_call, ↓r_cm, ↓r_un, ↓r_negI, ↓r_if, ↓r_val, ↓r_and, ↓r_or, ↓r_not, ↓r_yes, ↓r_andV, ↓r_orV, ↓r_notV, ↓r_fld, ↓r_meth, ↓r_prop, ↓r_ix_lst, ↓r_ix_tup, ↓r_ix_loc, ↓r_len_lst, ↓r_len_tup, ↓r_fm1, ↓r_fm2, ↓r_all, ↓r_app, ↓r_ext, ↓o_seq, ↓o_nil, ↓o_ret, ↓o_set, ↓o_expr, ↓o_if, ↓o_bad, ↓o_par, ↓o_par3, ↓o_asg, ↓o_gNm, ↓o_gTp, ↓o_gsNil, ↓o_gsCons, ↓o_gSb, ↓o_retF, ↓o_fld, ↓o_for, ↓r_iSeq, ↓r_iTpl, ↓r_iRg, ↓r_lc, ↓o_frz, ↓r_iEnm, ↓r_reprB_bl, ↓r_reprB_lst, ↓r_chain, ↓r_iStrM, ↓r_iKeysD, ↓r_iItemsD, ↓r_gDGet, ↓r_gDIn, ↓r_pairs0, ↓r_pairs1, ↓r_disp, ↓r_dc, ↓dcL_nil, ↓r_sortD, ↓r_sortL, ↓r_dictD, ↓r_dictL, ↓r_listD, ↓r_listL, ↓r_listT, ↓r_lenDd, ↓r_len_str, ↓r_jn, ↓r_sl, ↓r_pNone, ↓r_pSome, ↓r_gSlS, ↓r_gSlL, ↓r_ix_str, ↓r_dget2, ↓is_non_int, ↓is_non_bool, ↓is_non_str, ↓is_non_list, ↓is_non_tuple, ↓is_non_dict, ↓is_non_cls, ↓is_bl_int, ↓is_bl_bool, ↓is_bl_str, ↓is_bl_list, ↓is_bl_tuple, ↓is_bl_dict, ↓is_bl_cls, ↓is_int_int, ↓is_int_bool, ↓is_int_str, ↓is_int_list, ↓is_int_tuple, ↓is_int_dict, ↓is_int_cls, ↓is_str_int, ↓is_str_bool, ↓is_str_str, ↓is_str_list, ↓is_str_tuple, ↓is_str_dict, ↓is_str_cls, ↓is_lst_int, ↓is_lst_bool, ↓is_lst_str, ↓is_lst_list, ↓is_lst_tuple, ↓is_lst_dict, ↓is_lst_cls, ↓is_tup_int, ↓is_tup_bool, ↓is_tup_str, ↓is_tup_list, ↓is_tup_tuple, ↓is_tup_dict, ↓is_tup_cls, ↓is_dic_int, ↓is_dic_bool, ↓is_dic_str, ↓is_dic_list, ↓is_dic_tuple, ↓is_dic_dict, ↓is_dic_cls, ↓is_obj_int, ↓is_obj_bool, ↓is_obj_str, ↓is_obj_list, ↓is_obj_tuple, ↓is_obj_dict, ↓is_obj_cls,
  opt_some, opt_ite, opt_ite2, rs_ok, List.getElem?_cons_zero, List.getElem?_cons_succ, List.set_cons_zero, List.set_cons_succ, lstIn_lst, objIn_obj, objOf_dat, objOf_loc, two?, three?, datOf, locIx, intOf, intL, lstD, tupD, blOf, wipeP,
  pAdd_int, pAdd_str, pSub, pMul, pMod, pDiv, pLt, pLe, pGt, pGe, pInt, pAbs, pMax, pMin, pDivmod, tru_bl, tru_int, tru_non, dats, Option.map_some, decide_eq_true_eq, atI0, atI1, atI2, ixN0, ixN1, pEqF_int, pEqT_int, pEqF_str, pEqT_str, p10_4, p10_5, p10_9, p10_10, p10_18, p10_19, p10_29, p10_30, List.length_cons, List.length_nil, true_and, and_true, Bool.not_true, Bool.not_false, if_true, if_false, Bool.false_eq_true, Bool.not_eq_true', decide_eq_false_iff_not, bne_iff_ne, ne_eq, Int.reduceEq, Int.reduceLT, Int.reduceLE, Int.reduceGT, Int.reduceNeg, not_false_eq_true, not_true_eq_false, decide_true, decide_false, eq_self, and_self, sizeLine_eq, Nat.reduceAdd, Nat.reduceLeDiff, Nat.reduceLT, Nat.reduceEqDiff, List.cons_append, List.nil_append, lst1_is, strD, dicD, dicOf_dat, keyOf_str, keyOf_int, kpairs, pKey, pIsN_non, pNotN_non, pIsN_dic, pNotN_dic, pInS_str, seqOf_lst, seqOf_tup, strsOf, strKeys, keyP, List.map_cons, List.map_nil, Option.bind_some, Nat.reduceBEq, ct0, ct1, Bool.true_eq_false, Int.natCast_one, Int.natCast_zero, Int.cast_ofNat_Int, Int.reduceSub, atI0, atI1]
            refine m_dip J1 (by decide) (by decide) fun e S2 e0 e1 J2 => ?_
            have hu := g_unit (s := 1) (d := 1 + e) (.inl rfl) (by omega) (by omega)
            simp -dsimp only [↓r_var, ↓r_K, ↓r_aNil, ↓r_aCons, ↓r_op, ↓r_dat, ↓r_tup, ↓r_lst, ↓r_lstM, ↓r_call, ↓r_cm, ↓r_un, ↓r_negI, ↓r_if, ↓r_val, ↓r_and, ↓r_or, ↓r_not, ↓r_yes, ↓r_andV, ↓r_orV, ↓r_notV, ↓r_fld, ↓r_meth, ↓r_prop, ↓r_ix_lst, ↓r_ix_tup, ↓r_ix_loc, ↓r_len_lst, ↓r_len_tup, ↓r_fm1, ↓r_fm2, ↓r_all, ↓r_app, ↓r_ext, ↓o_seq, ↓o_nil, ↓o_ret, ↓o_set, ↓o_expr, ↓o_if, ↓o_bad, ↓o_par, ↓o_par3, ↓o_asg, ↓o_gNm, ↓o_gTp, ↓o_gsNil, ↓o_gsCons, ↓o_gSb, ↓o_retF, ↓o_fld, ↓o_for, ↓r_iSeq, ↓r_iTpl, ↓r_iRg, ↓r_lc, ↓o_frz, ↓r_iEnm, ↓r_reprB_bl, ↓r_reprB_lst, ↓r_chain, ↓r_iStrM, ↓r_iKeysD, ↓r_iItemsD, ↓r_gDGet, ↓r_gDIn, ↓r_pairs0, ↓r_pairs1, ↓r_disp, ↓r_dc, ↓dcL_nil, ↓r_sortD, ↓r_sortL, ↓r_dictD, ↓r_dictL, ↓r_listD, ↓r_listL, ↓r_listT, ↓r_lenDd, ↓r_len_str, ↓r_jn, ↓r_sl, ↓r_pNone, ↓r_pSome, ↓r_gSlS, ↓r_gSlL, ↓r_ix_str, ↓r_dget2, ↓is_non_int, ↓is_non_bool, ↓is_non_str, ↓is_non_list, ↓is_non_tuple, ↓is_non_dict, ↓is_non_cls, ↓is_bl_int, ↓is_bl_bool, ↓is_bl_str, ↓is_bl_list, ↓is_bl_tuple, ↓is_bl_dict, ↓is_bl_cls, ↓is_int_int, ↓is_int_bool, ↓is_int_str, ↓is_int_list, ↓is_int_tuple, ↓is_int_dict, ↓is_int_cls, ↓is_str_int, ↓is_str_bool, ↓is_str_str, ↓is_str_list, ↓is_str_tuple, ↓is_str_dict, ↓is_str_cls, ↓is_lst_int, ↓is_lst_bool, ↓is_lst_str, ↓is_lst_list, ↓is_lst_tuple, ↓is_lst_dict, ↓is_lst_cls, ↓is_tup_int, ↓is_tup_bool, ↓is_tup_str, ↓is_tup_list, ↓is_tup_tuple, ↓is_tup_dict, ↓is_tup_cls, ↓is_dic_int, ↓is_dic_bool, ↓is_dic_str, ↓is_dic_list, ↓is_dic_tuple, ↓is_dic_dict, ↓is_dic_cls, ↓is_obj_int, ↓is_obj_bool, ↓is_obj_str, ↓is_obj_list, ↓is_obj_tuple, ↓is_obj_dict, ↓is_obj_cls,
  opt_some, opt_ite, opt_ite2, rs_ok, List.getElem?_cons_zero, List.getElem?_cons_succ, List.set_cons_zero, List.set_cons_succ, lstIn_lst, objIn_obj, objOf_dat, objOf_loc, two?, three?, datOf, locIx, intOf, intL, lstD, tupD, blOf, wipeP,
  pAdd_int, pAdd_str, pSub, pMul, pMod, pDiv, pLt, pLe, pGt, pGe, pInt, pAbs, pMax, pMin, pDivmod, tru_bl, tru_int, tru_non, dats, Option.map_some, decide_eq_true_eq, atI0, atI1, atI2, ixN0, ixN1, pEqF_int, pEqT_int, pEqF_str, pEqT_str, p10_4, p10_5, p10_9, p10_10, p10_18, p10_19, p10_29, p10_30, List.length_cons, List.length_nil, true_and, and_true, Bool.not_true, Bool.not_false, if_true, if_false, Bool.false_eq_true, Bool.not_eq_true', decide_eq_false_iff_not, bne_iff_ne, ne_eq, Int.reduceEq, Int.reduceLT, Int.reduceLE, Int.reduceGT, Int.reduceNeg, not_false_eq_true, not_true_eq_false, decide_true, decide_false, eq_self, and_self, sizeLine_eq, Nat.reduceAdd, Nat.reduceLeDiff, Nat.reduceLT, Nat.reduceEqDiff, List.cons_append, List.nil_append, lst1_is, strD, dicD, dicOf_dat, keyOf_str, keyOf_int, kpairs, pKey, pIsN_non, pNotN_non, pIsN_dic, pNotN_dic, pInS_str, seqOf_lst, seqOf_tup, strsOf, strKeys, keyP, List.map_cons, List.map_nil, Option.bind_some, Nat.reduceBEq, ct0, ct1, Bool.true_eq_false, Int.natCast_one, Int.natCast_zero, Int.cast_ofNat_Int, tp, e_law_sum hp hu (by decide)]
            exact h _ _ (hp.add hu) J2
          · simp -dsimp only [↓r_var, ↓r_K, ↓r_aNil, ↓r_aCons, ↓r_op, ↓r_dat, ↓r_tup, ↓r_lst, ↓r_lstM, ↓r_call, ↓r_cm, ↓r_un, ↓r_negI, ↓r_if, ↓r_val, ↓r_and, ↓r_or, ↓r_not, ↓r_yes, ↓r_andV, ↓r_orV, ↓r_notV, ↓r_fld, ↓r_meth, ↓r_prop, ↓r_ix_lst, ↓r_ix_tup, ↓r_ix_loc, ↓r_len_lst, ↓r_len_tup, ↓r_fm1, ↓r_fm2, ↓r_all, ↓r_app, ↓r_ext, ↓o_seq, ↓o_nil, ↓o_ret, ↓o_set, ↓o_expr, ↓o_if, ↓o_bad, ↓o_par, ↓o_par3, ↓o_asg, ↓o_gNm, ↓o_gTp, ↓o_gsNil, ↓o_gsCons, ↓o_gSb, ↓o_retF, ↓o_fld, ↓o_for, ↓r_iSeq, ↓r_iTpl, ↓r_iRg, ↓r_lc, ↓o_frz, ↓r_iEnm, ↓r_reprB_bl, ↓r_reprB_lst, ↓r_chain, ↓r_iStrM, ↓r_iKeysD, ↓r_iItemsD, ↓r_gDGet, ↓r_gDIn, ↓r_pairs0, ↓r_pairs1, ↓r_disp, ↓r_dc, ↓dcL_nil, ↓r_sortD, ↓r_sortL, ↓r_dictD, ↓r_dictL, ↓r_listD, ↓r_listL, ↓r_listT, ↓r_lenDd, ↓r_len_str, ↓r_jn, ↓r_sl, ↓r_pNone, ↓r_pSome, ↓r_gSlS, ↓r_gSlL, ↓r_ix_str, ↓r_dget2, ↓is_non_int, ↓is_non_bool, ↓is_non_str, ↓is_non_list, ↓is_non_tuple, ↓is_non_dict, ↓is_non_cls, ↓is_bl_int, ↓is_bl_bool, ↓is_bl_str, ↓is_bl_list, ↓is_bl_tuple, ↓is_bl_dict, ↓is_bl_cls, ↓is_int_int, ↓is_int_bool, ↓is_int_str, ↓is_int_list, ↓is_int_tuple, ↓is_int_dict, ↓is_int_cls, ↓is_str_int, ↓is_str_bool, ↓is_str_str, ↓is_str_list, ↓is_str_tuple, ↓is_str_dict, ↓is_str_cls, ↓is_lst_int, ↓is_lst_bool, ↓is_lst_str, ↓is_lst_list, ↓is_lst_tuple, ↓is_lst_dict, ↓is_lst_cls, ↓is_tup_int, ↓is_tup_bool, ↓is_tup_str, ↓is_tup_list, ↓is_tup_tuple, ↓is_tup_dict, ↓is_tup_cls, ↓is_dic_int, ↓is_dic_bool, ↓is_dic_str, ↓is_dic_list, ↓is_dic_tuple, ↓is_dic_dict, ↓is_dic_cls, ↓is_obj_int, ↓is_obj_bool, ↓is_obj_str, ↓is_obj_list, ↓is_obj_tuple, ↓is_obj_dict, ↓is_obj_cls,
  opt_some, opt_ite, opt_ite2, rs_ok, List.getElem?_cons_zero, List.getElem?_cons_succ, List.set_cons_zero, List.set_cons_succ, lstIn_lst, objIn_obj, objOf_dat, objOf_loc, two?, three?, datOf, locIx, intOf, intL, lstD, tupD, blOf, wipeP,
  pAdd_int, pAdd_str, pSub, pMul, pMod, pDiv, pLt, pLe, pGt, pGe, pInt, pAbs, pMax, pMin, pDivmod, tru_bl, tru_int, tru_non, dats, Option.map_some, decide_eq_true_eq, atI0, atI1, atI2, ixN0, ixN1, pEqF_int, pEqT_int, pEqF_str, pEqT_str, p10_4, p10_5, p10_9, p10_10, p10_18, p10_19, p10_29, p10_30, List.length_cons, List.length_nil, true_and, and_true, Bool.not_true, Bool.not_false, if_true, if_false, Bool.false_eq_true, Bool.not_eq_true', decide_eq_false_iff_not, bne_iff_ne, ne_eq, Int.reduceEq, Int.reduceLT, Int.reduceLE, Int.reduceGT, Int.reduceNeg, not_false_eq_true, not_true_eq_false, decide_true, decide_false, eq_self, and_self, sizeLine_eq, Nat.reduceAdd, Nat.reduceLeDiff, Nat.reduceLT, Nat.reduceEqDiff, List.cons_append, List.nil_append, lst1_is, strD, dicD, dicOf_dat, keyOf_str, keyOf_int, kpairs, pKey, pIsN_non, pNotN_non, pIsN_dic, pNotN_dic, pInS_str, seqOf_lst, seqOf_tup, strsOf, strKeys, keyP, List.map_cons, List.map_nil, Option.bind_some, Nat.reduceBEq, ct0, ct1, Bool.true_eq_false, Int.natCast_one, Int.natCast_zero, Int.cast_ofNat_Int, Int.reduceSub, atI0, atI1]
            refine m_dip J1 (by decide) (by decide) fun e S2 e0 e1 J2 => ?_
            have hu := g_unit (s := -1) (d := 1 + e) (.inr rfl) (by omega) (by omega)
            simp -dsimp only [↓r_var, ↓r_K, ↓r_aNil, ↓r_aCons, ↓r_op, ↓r_dat, ↓r_tup, ↓r_lst, ↓r_lstM, ↓r_call, ↓r_cm, ↓r_un, ↓r_negI, ↓r_if, ↓r_val, ↓r_and, ↓r_or, ↓r_not, ↓r_yes, ↓r_andV, ↓r_orV, ↓r_notV, ↓r_fld, ↓r_meth, ↓r_prop, ↓r_ix_lst, ↓r_ix_tup, ↓r_ix_loc, ↓r_len_lst, ↓r_len_tup, ↓r_fm1, ↓r_fm2, ↓r_all, ↓r_app, ↓r_ext, ↓o_seq, ↓o_nil, ↓o_ret, ↓o_set, ↓o_expr, ↓o_if, ↓o_bad, ↓o_par, ↓o_par3, ↓o_asg, ↓o_gNm, ↓o_gTp, ↓o_gsNil, ↓o_gsCons, ↓o_gSb, ↓o_retF, ↓o_fld, ↓o_for, ↓r_iSeq, ↓r_iTpl, ↓r_iRg, ↓r_lc, ↓o_frz, ↓r_iEnm, ↓r_reprB_bl, ↓r_reprB_lst, ↓r_chain, ↓r_iStrM, ↓r_iKeysD, ↓r_iItemsD, ↓r_gDGet, ↓r_gDIn, ↓r_pairs0, ↓r_pairs1, ↓r_disp, ↓r_dc, ↓dcL_nil, ↓r_sortD, ↓r_sortL, ↓r_dictD, ↓r_dictL, ↓r_listD, ↓r_listL, ↓r_listT, ↓r_lenDd, ↓r_len_str, ↓r_jn, ↓r_sl, ↓r_pNone, ↓r_pSome, ↓r_gSlS, ↓r_gSlL, ↓r_ix_str, ↓r_dget2, ↓is_non_int, ↓is_non_bool, ↓is_non_str, ↓is_non_list, ↓is_non_tuple, ↓is_non_dict, ↓is_non_cls, ↓is_bl_int, ↓is_bl_bool, ↓is_bl_str, ↓is_bl_list, ↓is_bl_tuple, ↓is_bl_dict, ↓is_bl_cls, ↓is_int_int, ↓is_int_bool, ↓is_int_str, ↓is_int_list, ↓is_int_tuple, ↓is_int_dict, ↓is_int_cls, ↓is_str_int, ↓is_str_bool, ↓is_str_str, ↓is_str_list, ↓is_str_tuple, ↓is_str_dict, ↓is_str_cls, ↓is_lst_int, ↓is_lst_bool, ↓is_lst_str, ↓is_lst_list, ↓is_lst_tuple, ↓is_lst_dict, ↓is_lst_cls, ↓is_tup_int, ↓is_tup_bool, ↓is_tup_str, ↓is_tup_list, ↓is_tup_tuple, ↓is_tup_dict, ↓is_tup_cls, ↓is_dic_int, ↓is_dic_bool, ↓is_dic_str, ↓is_dic_list, ↓is_dic_tuple, ↓is_dic_dict, ↓is_dic_cls, ↓is_obj_int, ↓is_obj_bool, ↓is_obj_str, ↓is_obj_list, ↓is_obj_tuple, ↓is_obj_dict, ↓is_obj_cls,
  opt_some, opt_ite, opt_ite2, rs_ok, List.getElem?_cons_zero, List.getElem?_cons_succ, List.set_cons_zero, List.set_cons_succ, lstIn_lst, objIn_obj, objOf_dat, objOf_loc, two?, three?, datOf, locIx, intOf, intL, lstD, tupD, blOf, wipeP,
  pAdd_int, pAdd_str, pSub, pMul, pMod, pDiv, pLt, pLe, pGt, pGe, pInt, pAbs, pMax, pMin, pDivmod, tru_bl, tru_int, tru_non, dats, Option.map_some, decide_eq_true_eq, atI0, atI1, atI2, ixN0, ixN1, pEqF_int, pEqT_int, pEqF_str, pEqT_str, p10_4, p10_5, p10_9, p10_10, p10_18, p10_19, p10_29, p10_30, List.length_cons, List.length_nil, true_and, and_true, Bool.not_true, Bool.not_false, if_true, if_false, Bool.false_eq_true, Bool.not_eq_true', decide_eq_false_iff_not, bne_iff_ne, ne_eq, Int.reduceEq, Int.reduceLT, Int.reduceLE, Int.reduceGT, Int.reduceNeg, not_false_eq_true, not_true_eq_false, decide_true, decide_false, eq_self, and_self, sizeLine_eq, Nat.reduceAdd, Nat.reduceLeDiff, Nat.reduceLT, Nat.reduceEqDiff, List.cons_append, List.nil_append, lst1_is, strD, dicD, dicOf_dat, keyOf_str, keyOf_int, kpairs, pKey, pIsN_non, pNotN_non, pIsN_dic, pNotN_dic, pInS_str, seqOf_lst, seqOf_tup, strsOf, strKeys, keyP, List.map_cons, List.map_nil, Option.bind_some, Nat.reduceBEq, ct0, ct1, Bool.true_eq_false, Int.natCast_one, Int.natCast_zero, Int.cast_ofNat_Int, tp, e_law_sum hp hu (by decide)]
            exact h _ _ (hp.add hu) J2
theorem m_made {n : Nat} {T S : Store} {p : Int × Int} {Q E t} (J : JarF n T S) (hp : G 100 p) (h : ∀ S', JarF n T S' → Q (.dat (ratP p)) S') : RsP (M_law_made [.loc n, .dat (pairP p)] S) Q E t := by
  rw [run_law_made]
  unfold b_law_made
  walk_at "dl"
  refine m_choice J (by simp) (by simp) fun x S1 hx J1 => ?_
  have hx' : ∃ z : Int, x = .int z ∧ z ≠ 0 ∧ -10000 ≤ z ∧ z ≤ 10000 := by
    simp only [List.mem_cons, List.mem_nil_iff, or_false] at hx
    rcases hx with rfl | rfl | rfl | rfl | rfl <;> exact ⟨_, rfl, by decide, by decide, by decide⟩
  obtain ⟨z, rfl, z0, z1, z2⟩ := hx'
  have m1 : ∀ a : Int, mulOk a z = true := fun a => mulR (by omega)
  have bz : Bd 31 z := bd_small (by omega) (by omega) (Nat.le_refl _)
  have e1 : ∀ S, mkM 0 M_Ratio_DinitD [.dat (.int p.1), .dat (.int p.2)] S = .ok (.dat (ratP p)) S := fun S => by
    have := e_mk2 (S := S) hp.ne (hp.bq.1.mono (show 100 ≤ 13000 by decide)) (hp.bq.2.mono (show 100 ≤ 13000 by decide))
    rw [nrm_self hp.nf] at this
    exact this
  have e2 : ∀ S, mkM 0 M_Ratio_DinitD [.dat (.int (p.1 * z)), .dat (.int (p.2 * z))] S = .ok (.dat (ratP p)) S := fun S => by
    have := e_mk2 (S := S) (Int.mul_ne_zero hp.ne z0) ((hp.bq.1.mul bz).mono (show 100 + 31 ≤ 13000 by decide)) ((hp.bq.2.mul bz).mono (show 100 + 31 ≤ 13000 by decide))
    rw [nrm_scale hp.nf z0] at this
    exact this
  simp -dsimp only [↓r_var, ↓r_K, ↓r_aNil, ↓r_aCons, ↓r_op, ↓r_dat, ↓r_tup, ↓r_lst, ↓r_lstM, ↓r_call, ↓r_cm, ↓r_un, ↓r_negI, ↓r_if, ↓r_val, ↓r_and, ↓r_or, ↓r_not, ↓r_yes, ↓r_andV, ↓r_orV, ↓r_notV, ↓r_fld, ↓r_meth, ↓r_prop, ↓r_ix_lst, ↓r_ix_tup, ↓r_ix_loc, ↓r_len_lst, ↓r_len_tup, ↓r_fm1, ↓r_fm2, ↓r_all, ↓r_app, ↓r_ext, ↓o_seq, ↓o_nil, ↓o_ret, ↓o_set, ↓o_expr, ↓o_if, ↓o_bad, ↓o_par, ↓o_par3, ↓o_asg, ↓o_gNm, ↓o_gTp, ↓o_gsNil, ↓o_gsCons, ↓o_gSb, ↓o_retF, ↓o_fld, ↓o_for, ↓r_iSeq, ↓r_iTpl, ↓r_iRg, ↓r_lc, ↓o_frz, ↓r_iEnm, ↓r_reprB_bl, ↓r_reprB_lst, ↓r_chain, ↓r_iStrM, ↓r_iKeysD, ↓r_iItemsD, ↓r_gDGet, ↓r_gDIn, ↓r_pairs0, ↓r_pairs1, ↓r_disp, ↓r_dc, ↓dcL_nil, ↓r_sortD, ↓r_sortL, ↓r_dictD, ↓r_dictL, ↓r_listD, ↓r_listL, ↓r_listT, ↓r_lenDd, ↓r_len_str, ↓r_jn, ↓r_sl, ↓r_pNone, ↓r_pSome, ↓r_gSlS, ↓r_gSlL, ↓r_ix_str, ↓r_dget2, ↓is_non_int, ↓is_non_bool, ↓is_non_str, ↓is_non_list, ↓is_non_tuple, ↓is_non_dict, ↓is_non_cls, ↓is_bl_int, ↓is_bl_bool, ↓is_bl_str, ↓is_bl_list, ↓is_bl_tuple, ↓is_bl_dict, ↓is_bl_cls, ↓is_int_int, ↓is_int_bool, ↓is_int_str, ↓is_int_list, ↓is_int_tuple, ↓is_int_dict, ↓is_int_cls, ↓is_str_int, ↓is_str_bool, ↓is_str_str, ↓is_str_list, ↓is_str_tuple, ↓is_str_dict, ↓is_str_cls, ↓is_lst_int, ↓is_lst_bool, ↓is_lst_str, ↓is_lst_list, ↓is_lst_tuple, ↓is_lst_dict, ↓is_lst_cls, ↓is_tup_int, ↓is_tup_bool, ↓is_tup_str, ↓is_tup_list, ↓is_tup_tuple, ↓is_tup_dict, ↓is_tup_cls, ↓is_dic_int, ↓is_dic_bool, ↓is_dic_str, ↓is_dic_list, ↓is_dic_tuple, ↓is_dic_dict, ↓is_dic_cls, ↓is_obj_int, ↓is_obj_bool, ↓is_obj_str, ↓is_obj_list, ↓is_obj_tuple, ↓is_obj_dict, ↓is_obj_cls,
  opt_some, opt_ite, opt_ite2, rs_ok, List.getElem?_cons_zero, List.getElem?_cons_succ, List.set_cons_zero, List.set_cons_succ, lstIn_lst, objIn_obj, objOf_dat, objOf_loc, two?, three?, datOf, locIx, intOf, intL, lstD, tupD, blOf, wipeP,
  pAdd_int, pAdd_str, pSub, pMul, pMod, pDiv, pLt, pLe, pGt, pGe, pInt, pAbs, pMax, pMin, pDivmod, tru_bl, tru_int, tru_non, dats, Option.map_some, decide_eq_true_eq, atI0, atI1, atI2, ixN0, ixN1, pEqF_int, pEqT_int, pEqF_str, pEqT_str, p10_4, p10_5, p10_9, p10_10, p10_18, p10_19, p10_29, p10_30, List.length_cons, List.length_nil, true_and, and_true, Bool.not_true, Bool.not_false, if_true, if_false, Bool.false_eq_true, Bool.not_eq_true', decide_eq_false_iff_not, bne_iff_ne, ne_eq, Int.reduceEq, Int.reduceLT, Int.reduceLE, Int.reduceGT, Int.reduceNeg, not_false_eq_true, not_true_eq_false, decide_true, decide_false, eq_self, and_self, sizeLine_eq, Nat.reduceAdd, Nat.reduceLeDiff, Nat.reduceLT, Nat.reduceEqDiff, List.cons_append, List.nil_append, lst1_is, strD, dicD, dicOf_dat, keyOf_str, keyOf_int, kpairs, pKey, pIsN_non, pNotN_non, pIsN_dic, pNotN_dic, pInS_str, seqOf_lst, seqOf_tup, strsOf, strKeys, keyP, List.map_cons, List.map_nil, Option.bind_some, Nat.reduceBEq, ct0, ct1, Bool.true_eq_false, Int.natCast_one, Int.natCast_zero, Int.cast_ofNat_Int, ↓ix_p0, ↓ix_p1, m1, e1, e2, ite_self]
  exact h _ J1
/-! ### two of them -/
def bt (b : Bool) : Str := if b = true then "True" else "False"
theorem rep_bls {S : Store} : ∀ bs : List Bool, reprL (rpO 0 M_Ratio_DreprD rpB) (bs.map P.bl) S = .ok (bs.map bt) S
  | [] => rfl
  | b :: r => by
    rw [List.map_cons, List.map_cons, reprL]
    show (reprL (rpO 0 M_Ratio_DreprD rpB) (r.map P.bl) S).bind _ = _
    rw [rep_bls r]
    rfl
theorem r_bls {bs : List Bool} {S : Store} {Q E t} (hne : bs ≠ []) (hl : bs.length ≤ 1000) : RsP (reprM 0 M_Ratio_DreprD (rpO 0 M_Ratio_DreprD rpB) [.dat (.lst (bs.map P.bl))] S) Q E t = Q (.dat (.str (listText (bs.map bt)))) S := by
  refine r_reprL (ts := bs.map bt) (rep_bls bs) (by simpa using hne) ?_
  have hb : ∀ b : Bool, (bt b).length ≤ 5 := fun b => by cases b <;> decide
  have := listText_len (ts := bs.map bt) (b := 5) (fun t ht => by
    obtain ⟨b, _, rfl⟩ := List.mem_map.mp ht
    exact hb _)
  rw [sizeLine_eq]
  simp at this
  omega
theorem r_b5 {a b c d e : Bool} {S : Store} {Q E t} : RsP (reprM 0 M_Ratio_DreprD (rpO 0 M_Ratio_DreprD rpB) [.dat (.lst [.bl a, .bl b, .bl c, .bl d, .bl e])] S) Q E t = Q (.dat (.str (listText [bt a, bt b, bt c, bt d, bt e]))) S := r_bls (bs := [a, b, c, d, e]) (by simp) (by simp)
theorem r_b2 {a b : Bool} {S : Store} {Q E t} : RsP (reprM 0 M_Ratio_DreprD (rpO 0 M_Ratio_DreprD rpB) [.dat (.lst [.bl a, .bl b])] S) Q E t = Q (.dat (.str (listText [bt a, bt b]))) S := r_bls (bs := [a, b]) (by simp) (by simp)
theorem e_two {p q : Int × Int} {S : Store} (hp : G 100 p) (hq : G 100 q) : M_law_two_right [.dat (ratP p), .dat (pairP p), .dat (ratP q), .dat (pairP q)] S = .ok (.dat (.bl true)) S := by
  refine eq_of_rsp (t := .mk) ?_
  rw [run_law_two_right]
  unfold b_law_two_right
  have bp := hp.bq.mono (show 100 ≤ 10000 by decide)
  have bq := hq.bq.mono (show 100 ≤ 10000 by decide)
  have bp' := hp.bq.mono (show 100 ≤ 1000000 by decide)
  have bq' := hq.bq.mono (show 100 ≤ 1000000 by decide)
  have hx := nf_cross hp.nf hq.nf
  simp -dsimp only [↓r_var, ↓r_K, ↓r_aNil, ↓r_aCons, ↓r_op, ↓r_dat, ↓r_tup, ↓r_lst, ↓r_lstM, ↓r_call, ↓r_cm, ↓r_un, ↓r_negI, ↓r_if, ↓r_val, ↓r_and, ↓r_or, ↓r_not, ↓r_yes, ↓r_andV, ↓r_orV, ↓r_notV, ↓r_fld, ↓r_meth, ↓r_prop, ↓r_ix_lst, ↓r_ix_tup, ↓r_ix_loc, ↓r_len_lst, ↓r_len_tup, ↓r_fm1, ↓r_fm2, ↓r_all, ↓r_app, ↓r_ext, ↓o_seq, ↓o_nil, ↓o_ret, ↓o_set, ↓o_expr, ↓o_if, ↓o_bad, ↓o_par, ↓o_par3, ↓o_asg, ↓o_gNm, ↓o_gTp, ↓o_gsNil, ↓o_gsCons, ↓o_gSb, ↓o_retF, ↓o_fld, ↓o_for, ↓r_iSeq, ↓r_iTpl, ↓r_iRg, ↓r_lc, ↓o_frz, ↓r_iEnm, ↓r_reprB_bl, ↓r_reprB_lst, ↓r_chain, ↓r_iStrM, ↓r_iKeysD, ↓r_iItemsD, ↓r_gDGet, ↓r_gDIn, ↓r_pairs0, ↓r_pairs1, ↓r_disp, ↓r_dc, ↓dcL_nil, ↓r_sortD, ↓r_sortL, ↓r_dictD, ↓r_dictL, ↓r_listD, ↓r_listL, ↓r_listT, ↓r_lenDd, ↓r_len_str, ↓r_jn, ↓r_sl, ↓r_pNone, ↓r_pSome, ↓r_gSlS, ↓r_gSlL, ↓r_ix_str, ↓r_dget2, ↓is_non_int, ↓is_non_bool, ↓is_non_str, ↓is_non_list, ↓is_non_tuple, ↓is_non_dict, ↓is_non_cls, ↓is_bl_int, ↓is_bl_bool, ↓is_bl_str, ↓is_bl_list, ↓is_bl_tuple, ↓is_bl_dict, ↓is_bl_cls, ↓is_int_int, ↓is_int_bool, ↓is_int_str, ↓is_int_list, ↓is_int_tuple, ↓is_int_dict, ↓is_int_cls, ↓is_str_int, ↓is_str_bool, ↓is_str_str, ↓is_str_list, ↓is_str_tuple, ↓is_str_dict, ↓is_str_cls, ↓is_lst_int, ↓is_lst_bool, ↓is_lst_str, ↓is_lst_list, ↓is_lst_tuple, ↓is_lst_dict, ↓is_lst_cls, ↓is_tup_int, ↓is_tup_bool, ↓is_tup_str, ↓is_tup_list, ↓is_tup_tuple, ↓is_tup_dict, ↓is_tup_cls, ↓is_dic_int, ↓is_dic_bool, ↓is_dic_str, ↓is_dic_list, ↓is_dic_tuple, ↓is_dic_dict, ↓is_dic_cls, ↓is_obj_int, ↓is_obj_bool, ↓is_obj_str, ↓is_obj_list, ↓is_obj_tuple, ↓is_obj_dict, ↓is_obj_cls,
  opt_some, opt_ite, opt_ite2, rs_ok, List.getElem?_cons_zero, List.getElem?_cons_succ, List.set_cons_zero, List.set_cons_succ, lstIn_lst, objIn_obj, objOf_dat, objOf_loc, two?, three?, datOf, locIx, intOf, intL, lstD, tupD, blOf, wipeP,
  pAdd_int, pAdd_str, pSub, pMul, pMod, pDiv, pLt, pLe, pGt, pGe, pInt, pAbs, pMax, pMin, pDivmod, tru_bl, tru_int, tru_non, dats, Option.map_some, decide_eq_true_eq, atI0, atI1, atI2, ixN0, ixN1, pEqF_int, pEqT_int, pEqF_str, pEqT_str, p10_4, p10_5, p10_9, p10_10, p10_18, p10_19, p10_29, p10_30, List.length_cons, List.length_nil, true_and, and_true, Bool.not_true, Bool.not_false, if_true, if_false, Bool.false_eq_true, Bool.not_eq_true', decide_eq_false_iff_not, bne_iff_ne, ne_eq, Int.reduceEq, Int.reduceLT, Int.reduceLE, Int.reduceGT, Int.reduceNeg, not_false_eq_true, not_true_eq_false, decide_true, decide_false, eq_self, and_self, sizeLine_eq, Nat.reduceAdd, Nat.reduceLeDiff, Nat.reduceLT, Nat.reduceEqDiff, List.cons_append, List.nil_append, lst1_is, strD, dicD, dicOf_dat, keyOf_str, keyOf_int, kpairs, pKey, pIsN_non, pNotN_non, pIsN_dic, pNotN_dic, pInS_str, seqOf_lst, seqOf_tup, strsOf, strKeys, keyP, List.map_cons, List.map_nil, Option.bind_some, Nat.reduceBEq, ct0, ct1, Bool.true_eq_false, Int.natCast_one, Int.natCast_zero, Int.cast_ofNat_Int, ↓ix_p0, ↓ix_p1, mul_ok bp'.1 bq'.2, mul_ok bq'.1 bp'.2, objOf_rat, e_below (.rat q) bp bq, e_below (.rat p) bq bp, e_belowK (.rat q) bp bq, eqO_rr, neO_rr, hx, ↓r_b5, bel]
end K12
set_option Elab.async false
set_option linter.all false
set_option maxRecDepth 100000
set_option maxHeartbeats 2000000
namespace K12
open PySem L2 DL QR
local macro_rules | `(tactic| walk_at "dl") => `(tactic| try simp -dsimp only [↓r_var, ↓r_K, ↓r_aNil, ↓r_aCons, ↓r_op, ↓r_dat, ↓r_tup, ↓r_lst, ↓r_lstM, ↓r_call, ↓r_cm, ↓r_un, ↓r_negI, ↓r_if, ↓r_val, ↓r_and, ↓r_or, ↓r_not, ↓r_yes, ↓r_andV, ↓r_orV, ↓r_notV, ↓r_fld, ↓r_meth, ↓r_prop, ↓r_ix_lst, ↓r_ix_tup, ↓r_ix_loc, ↓r_len_lst, ↓r_len_tup, ↓r_fm1, ↓r_fm2, ↓r_all, ↓r_app, ↓r_ext, ↓o_seq, ↓o_nil, ↓o_ret, ↓o_set, ↓o_expr, ↓o_if, ↓o_bad, ↓o_par, ↓o_par3, ↓o_asg, ↓o_gNm, ↓o_gTp, ↓o_gsNil, ↓o_gsCons, ↓o_gSb, ↓o_retF, ↓o_fld, ↓o_for, ↓r_iSeq, ↓r_iTpl, ↓r_iRg, ↓r_lc, ↓o_frz, ↓r_iEnm, ↓r_reprB_bl, ↓r_reprB_lst, ↓r_chain, ↓r_iStrM, ↓r_iKeysD, ↓r_iItemsD, ↓r_gDGet, ↓r_gDIn, ↓r_pairs0, ↓r_pairs1, ↓r_disp, ↓r_dc, ↓dcL_nil, ↓r_sortD, ↓r_sortL, ↓r_dictD, ↓r_dictL, ↓r_listD, ↓r_listL, ↓r_listT, ↓r_lenDd, ↓r_len_str, ↓r_jn, ↓r_sl, ↓r_pNone, ↓r_pSome, ↓r_gSlS, ↓r_gSlL, ↓r_ix_str, ↓r_dget2, ↓is_non_int, ↓is_non_bool, ↓is_non_str, ↓is_non_list, ↓is_non_tuple, ↓is_non_dict, ↓is_non_cls, ↓is_bl_int, ↓is_bl_bool, ↓is_bl_str, ↓is_bl_list, ↓is_bl_tuple, ↓is_bl_dict, ↓is_bl_cls, ↓is_int_int, ↓is_int_bool, ↓is_int_str, ↓is_int_list, ↓is_int_tuple, ↓is_int_dict, ↓is_int_cls, ↓is_str_int, ↓is_str_bool, ↓is_str_str, ↓is_str_list, ↓is_str_tuple, ↓is_str_dict, ↓is_str_cls, ↓is_lst_int, ↓is_lst_bool, ↓is_lst_str, ↓is_lst_list, ↓is_lst_tuple, ↓is_lst_dict, ↓is_lst_cls, ↓is_tup_int, ↓is_tup_bool, ↓is_tup_str, ↓is_tup_list, ↓is_tup_tuple, ↓is_tup_dict, ↓is_tup_cls, ↓is_dic_int, ↓is_dic_bool, ↓is_dic_str, ↓is_dic_list, ↓is_dic_tuple, ↓is_dic_dict, ↓is_dic_cls, ↓is_obj_int, ↓is_obj_bool, ↓is_obj_str, ↓is_obj_list, ↓is_obj_tuple, ↓is_obj_dict, ↓is_obj_cls,
  opt_some, opt_ite, opt_ite2, rs_ok, List.getElem?_cons_zero, List.getElem?_cons_succ, List.set_cons_zero, List.set_cons_succ, lstIn_lst, objIn_obj, objOf_dat, objOf_loc, two?, three?, datOf, locIx, intOf, intL, lstD, tupD, blOf, wipeP,
  pAdd_int, pAdd_str, pSub, pMul, pMod, pDiv, pLt, pLe, pGt, pGe, pInt, pAbs, pMax, pMin, pDivmod, tru_bl, tru_int, tru_non, dats, Option.map_some, decide_eq_true_eq, atI0, atI1, atI2, ixN0, ixN1, pEqF_int, pEqT_int, pEqF_str, pEqT_str, p10_4, p10_5, p10_9, p10_10, p10_18, p10_19, p10_29, p10_30, List.length_cons, List.length_nil, true_and, and_true, Bool.not_true, Bool.not_false, if_true, if_false, Bool.false_eq_true, Bool.not_eq_true', decide_eq_false_iff_not, bne_iff_ne, ne_eq, Int.reduceEq, Int.reduceLT, Int.reduceLE, Int.reduceGT, Int.reduceNeg, not_false_eq_true, not_true_eq_false, decide_true, decide_false, eq_self, and_self, sizeLine_eq, Nat.reduceAdd, Nat.reduceLeDiff, Nat.reduceLT, Nat.reduceEqDiff, List.cons_append, List.nil_append, lst1_is, strD, dicD, dicOf_dat, keyOf_str, keyOf_int, kpairs, pKey, pIsN_non, pNotN_non, pIsN_dic, pNotN_dic, pInS_str, seqOf_lst, seqOf_tup, strsOf, strKeys, keyP, List.map_cons, List.map_nil, Option.bind_some, Nat.reduceBEq, ct0, ct1, Bool.true_eq_false, Int.natCast_one, Int.natCast_zero, Int.cast_ofNat_Int])
theorem e_formR {p : Int × Int} {S : Store} (h : Bq 13000 p) : mkM 1 M_Form_DinitD [.dat .non, .dat (ratP p)] S = .ok (.dat (formP [] p)) S := by
  refine eq_of_rsp (t := .mk) ?_
  rw [r_mk, run_form3]
  unfold b_Form_DinitD
  simp -dsimp only [↓r_var, ↓r_K, ↓r_aNil, ↓r_aCons, ↓r_op, ↓r_dat, ↓r_tup, ↓r_lst, ↓r_lstM, ↓r_call, ↓r_cm, ↓r_un, ↓r_negI, ↓r_if, ↓r_val, ↓r_and, ↓r_or, ↓r_not, ↓r_yes, ↓r_andV, ↓r_orV, ↓r_notV, ↓r_fld, ↓r_meth, ↓r_prop, ↓r_ix_lst, ↓r_ix_tup, ↓r_ix_loc, ↓r_len_lst, ↓r_len_tup, ↓r_fm1, ↓r_fm2, ↓r_all, ↓r_app, ↓r_ext, ↓o_seq, ↓o_nil, ↓o_ret, ↓o_set, ↓o_expr, ↓o_if, ↓o_bad, ↓o_par, ↓o_par3, ↓o_asg, ↓o_gNm, ↓o_gTp, ↓o_gsNil, ↓o_gsCons, ↓o_gSb, ↓o_retF, ↓o_fld, ↓o_for, ↓r_iSeq, ↓r_iTpl, ↓r_iRg, ↓r_lc, ↓o_frz, ↓r_iEnm, ↓r_reprB_bl, ↓r_reprB_lst, ↓r_chain, ↓r_iStrM, ↓r_iKeysD, ↓r_iItemsD, ↓r_gDGet, ↓r_gDIn, ↓r_pairs0, ↓r_pairs1, ↓r_disp, ↓r_dc, ↓dcL_nil, ↓r_sortD, ↓r_sortL, ↓r_dictD, ↓r_dictL, ↓r_listD, ↓r_listL, ↓r_listT, ↓r_lenDd, ↓r_len_str, ↓r_jn, ↓r_sl, ↓r_pNone, ↓r_pSome, ↓r_gSlS, ↓r_gSlL, ↓r_ix_str, ↓r_dget2, ↓is_non_int, ↓is_non_bool, ↓is_non_str, ↓is_non_list, ↓is_non_tuple, ↓is_non_dict, ↓is_non_cls, ↓is_bl_int, ↓is_bl_bool, ↓is_bl_str, ↓is_bl_list, ↓is_bl_tuple, ↓is_bl_dict, ↓is_bl_cls, ↓is_int_int, ↓is_int_bool, ↓is_int_str, ↓is_int_list, ↓is_int_tuple, ↓is_int_dict, ↓is_int_cls, ↓is_str_int, ↓is_str_bool, ↓is_str_str, ↓is_str_list, ↓is_str_tuple, ↓is_str_dict, ↓is_str_cls, ↓is_lst_int, ↓is_lst_bool, ↓is_lst_str, ↓is_lst_list, ↓is_lst_tuple, ↓is_lst_dict, ↓is_lst_cls, ↓is_tup_int, ↓is_tup_bool, ↓is_tup_str, ↓is_tup_list, ↓is_tup_tuple, ↓is_tup_dict, ↓is_tup_cls, ↓is_dic_int, ↓is_dic_bool, ↓is_dic_str, ↓is_dic_list, ↓is_dic_tuple, ↓is_dic_dict, ↓is_dic_cls, ↓is_obj_int, ↓is_obj_bool, ↓is_obj_str, ↓is_obj_list, ↓is_obj_tuple, ↓is_obj_dict, ↓is_obj_cls,
  opt_some, opt_ite, opt_ite2, rs_ok, List.getElem?_cons_zero, List.getElem?_cons_succ, List.set_cons_zero, List.set_cons_succ, lstIn_lst, objIn_obj, objOf_dat, objOf_loc, two?, three?, datOf, locIx, intOf, intL, lstD, tupD, blOf, wipeP,
  pAdd_int, pAdd_str, pSub, pMul, pMod, pDiv, pLt, pLe, pGt, pGe, pInt, pAbs, pMax, pMin, pDivmod, tru_bl, tru_int, tru_non, dats, Option.map_some, decide_eq_true_eq, atI0, atI1, atI2, ixN0, ixN1, pEqF_int, pEqT_int, pEqF_str, pEqT_str, p10_4, p10_5, p10_9, p10_10, p10_18, p10_19, p10_29, p10_30, List.length_cons, List.length_nil, true_and, and_true, Bool.not_true, Bool.not_false, if_true, if_false, Bool.false_eq_true, Bool.not_eq_true', decide_eq_false_iff_not, bne_iff_ne, ne_eq, Int.reduceEq, Int.reduceLT, Int.reduceLE, Int.reduceGT, Int.reduceNeg, not_false_eq_true, not_true_eq_false, decide_true, decide_false, eq_self, and_self, sizeLine_eq, Nat.reduceAdd, Nat.reduceLeDiff, Nat.reduceLT, Nat.reduceEqDiff, List.cons_append, List.nil_append, lst1_is, strD, dicD, dicOf_dat, keyOf_str, keyOf_int, kpairs, pKey, pIsN_non, pNotN_non, pIsN_dic, pNotN_dic, pInS_str, seqOf_lst, seqOf_tup, strsOf, strKeys, keyP, List.map_cons, List.map_nil, Option.bind_some, Nat.reduceBEq, ct0, ct1, Bool.true_eq_false, Int.natCast_one, Int.natCast_zero, Int.cast_ofNat_Int, e_want (.rat p), e_wz0, e_as (.rat p) h, push_at, push_set, putP, ne_wn, DL.isNon, take_push]
  rfl
theorem r_rat {rp : Rm} {p : Int × Int} {S : Store} {Q E t} (h : Bq 13000 p) : RsP (reprB (reprM 0 M_Ratio_DreprD rp) [.dat (ratP p)] S) Q E t = Q (.dat (.str (repT p))) S := r_reprO (rp := rp) (e_repr h)
structure WI (n : Nat) (p : Int × Int) (dn : Int) (S0 : Store) (r : List P) (ρ : Slots) (S : Store) : Prop where
  ex : ∃ o4 o5 o6, ρ = [some (.loc n), some (.dat (ratP p)), some (.dat (pairP p)), some (.dat (.int dn)), o4, o5, o6] ∧ S = S0
  it : ∀ x ∈ r, ∃ z, x = .int z ∧ Bd 102 z
theorem below_int {p : Int × Int} {z : Int} : bel p (z, 1) = decide (p.1 < z * p.2) := by
  unfold bel
  rw [Int.mul_one]
theorem int_below {p : Int × Int} {z : Int} : bel (z, 1) p = decide (z * p.2 < p.1) := by
  unfold bel
  rw [Int.mul_one]
theorem m_whole {n : Nat} {T S : Store} {p : Int × Int} {Q E t} (J : JarF n T S) (hp : G 100 p) (h : ∀ S', JarF n T S' → Q (.dat (.bl true)) S') : RsP (M_law_whole_right [.loc n, .dat (ratP p), .dat (pairP p)] S) Q E t := by
  rw [run_law_whole_right]
  unfold b_law_whole_right
  have dv := div_ok hp.ne (hp.bq.1.mono (show 100 ≤ 13000 by decide))
  have bd := bd_fdiv hp.bq.1 hp.nf.pos
  have bp := hp.bq.mono (show 100 ≤ 10000 by decide)
  have bp' := hp.bq.mono (show 100 ≤ 1000000 by decide)
  generalize hdn : p.1.fdiv p.2 = dn at bd
  simp -dsimp only [↓r_var, ↓r_K, ↓r_aNil, ↓r_aCons, ↓r_op, ↓r_dat, ↓r_tup, ↓r_lst, ↓r_lstM, ↓r_call, ↓r_cm, ↓r_un, ↓r_negI, ↓r_if, ↓r_val, ↓r_and, ↓r_or, ↓r_not, ↓r_yes, ↓r_andV, ↓r_orV, ↓r_notV, ↓r_fld, ↓r_meth, ↓r_prop, ↓r_ix_lst, ↓r_ix_tup, ↓r_ix_loc, ↓r_len_lst, ↓r_len_tup, ↓r_fm1, ↓r_fm2, ↓r_all, ↓r_app, ↓r_ext, ↓o_seq, ↓o_nil, ↓o_ret, ↓o_set, ↓o_expr, ↓o_if, ↓o_bad, ↓o_par, ↓o_par3, ↓o_asg, ↓o_gNm, ↓o_gTp, ↓o_gsNil, ↓o_gsCons, ↓o_gSb, ↓o_retF, ↓o_fld, ↓o_for, ↓r_iSeq, ↓r_iTpl, ↓r_iRg, ↓r_lc, ↓o_frz, ↓r_iEnm, ↓r_reprB_bl, ↓r_reprB_lst, ↓r_chain, ↓r_iStrM, ↓r_iKeysD, ↓r_iItemsD, ↓r_gDGet, ↓r_gDIn, ↓r_pairs0, ↓r_pairs1, ↓r_disp, ↓r_dc, ↓dcL_nil, ↓r_sortD, ↓r_sortL, ↓r_dictD, ↓r_dictL, ↓r_listD, ↓r_listL, ↓r_listT, ↓r_lenDd, ↓r_len_str, ↓r_jn, ↓r_sl, ↓r_pNone, ↓r_pSome, ↓r_gSlS, ↓r_gSlL, ↓r_ix_str, ↓r_dget2, ↓is_non_int, ↓is_non_bool, ↓is_non_str, ↓is_non_list, ↓is_non_tuple, ↓is_non_dict, ↓is_non_cls, ↓is_bl_int, ↓is_bl_bool, ↓is_bl_str, ↓is_bl_list, ↓is_bl_tuple, ↓is_bl_dict, ↓is_bl_cls, ↓is_int_int, ↓is_int_bool, ↓is_int_str, ↓is_int_list, ↓is_int_tuple, ↓is_int_dict, ↓is_int_cls, ↓is_str_int, ↓is_str_bool, ↓is_str_str, ↓is_str_list, ↓is_str_tuple, ↓is_str_dict, ↓is_str_cls, ↓is_lst_int, ↓is_lst_bool, ↓is_lst_str, ↓is_lst_list, ↓is_lst_tuple, ↓is_lst_dict, ↓is_lst_cls, ↓is_tup_int, ↓is_tup_bool, ↓is_tup_str, ↓is_tup_list, ↓is_tup_tuple, ↓is_tup_dict, ↓is_tup_cls, ↓is_dic_int, ↓is_dic_bool, ↓is_dic_str, ↓is_dic_list, ↓is_dic_tuple, ↓is_dic_dict, ↓is_dic_cls, ↓is_obj_int, ↓is_obj_bool, ↓is_obj_str, ↓is_obj_list, ↓is_obj_tuple, ↓is_obj_dict, ↓is_obj_cls,
  opt_some, opt_ite, opt_ite2, rs_ok, List.getElem?_cons_zero, List.getElem?_cons_succ, List.set_cons_zero, List.set_cons_succ, lstIn_lst, objIn_obj, objOf_dat, objOf_loc, two?, three?, datOf, locIx, intOf, intL, lstD, tupD, blOf, wipeP,
  pAdd_int, pAdd_str, pSub, pMul, pMod, pDiv, pLt, pLe, pGt, pGe, pInt, pAbs, pMax, pMin, pDivmod, tru_bl, tru_int, tru_non, dats, Option.map_some, decide_eq_true_eq, atI0, atI1, atI2, ixN0, ixN1, pEqF_int, pEqT_int, pEqF_str, pEqT_str, p10_4, p10_5, p10_9, p10_10, p10_18, p10_19, p10_29, p10_30, List.length_cons, List.length_nil, true_and, and_true, Bool.not_true, Bool.not_false, if_true, if_false, Bool.false_eq_true, Bool.not_eq_true', decide_eq_false_iff_not, bne_iff_ne, ne_eq, Int.reduceEq, Int.reduceLT, Int.reduceLE, Int.reduceGT, Int.reduceNeg, not_false_eq_true, not_true_eq_false, decide_true, decide_false, eq_self, and_self, sizeLine_eq, Nat.reduceAdd, Nat.reduceLeDiff, Nat.reduceLT, Nat.reduceEqDiff, List.cons_append, List.nil_append, lst1_is, strD, dicD, dicOf_dat, keyOf_str, keyOf_int, kpairs, pKey, pIsN_non, pNotN_non, pIsN_dic, pNotN_dic, pInS_str, seqOf_lst, seqOf_tup, strsOf, strKeys, keyP, List.map_cons, List.map_nil, Option.bind_some, Nat.reduceBEq, ct0, ct1, Bool.true_eq_false, Int.natCast_one, Int.natCast_zero, Int.cast_ofNat_Int, ↓ix_p0, ↓ix_p1, dv, hdn]
  refine m_integer J fun z S1 hz J1 => ?_
  walk_at "dl"
  refine forL_inv (WI n p dn S1) ⟨⟨_, _, _, rfl, rfl⟩, ?_⟩ (fun x r ρ S2 ⟨⟨o4, o5, o6, e1, e2⟩, it⟩ => ?_) (fun ρ S2 ⟨⟨o4, o5, o6, e1, e2⟩, it⟩ => ?_)
  · intro x hx
    simp only [List.mem_cons, List.mem_nil_iff, or_false] at hx
    have b1 : Bd 31 1 := bd_small (by decide) (by decide) (Nat.le_refl _)
    rcases hx with rfl | rfl | rfl | rfl | rfl
    · exact ⟨_, rfl, bd.mono (by decide)⟩
    · exact ⟨_, rfl, (bd.add (b1.mono (by decide))).mono (by decide)⟩
    · exact ⟨_, rfl, (bd.add (b1.neg.mono (by decide))).mono (by decide)⟩
    · exact ⟨_, rfl, bd_small (by decide) (by decide) (by decide)⟩
    · exact ⟨_, rfl, hz.mono (by decide)⟩
  · subst e1
    subst e2
    obtain ⟨y, rfl, hy⟩ := it x List.mem_cons_self
    have by1 : Bq 10000 (y, 1) := ⟨hy.mono (by decide), bd_one (by decide)⟩
    have nr : nR (.int y) := trivial
    have e1 : ∀ S, mkM 0 M_Ratio_DinitD [.dat (.int y)] S = .ok (.dat (ratP (y, 1))) S := fun S => e_mk1 (hy.mono (by decide))
    have pq := pEq_pair false (p := p) (q := (y, 1))
    simp only [Bool.false_eq_true, if_false] at pq
    simp -dsimp only [↓r_var, ↓r_K, ↓r_aNil, ↓r_aCons, ↓r_op, ↓r_dat, ↓r_tup, ↓r_lst, ↓r_lstM, ↓r_call, ↓r_cm, ↓r_un, ↓r_negI, ↓r_if, ↓r_val, ↓r_and, ↓r_or, ↓r_not, ↓r_yes, ↓r_andV, ↓r_orV, ↓r_notV, ↓r_fld, ↓r_meth, ↓r_prop, ↓r_ix_lst, ↓r_ix_tup, ↓r_ix_loc, ↓r_len_lst, ↓r_len_tup, ↓r_fm1, ↓r_fm2, ↓r_all, ↓r_app, ↓r_ext, ↓o_seq, ↓o_nil, ↓o_ret, ↓o_set, ↓o_expr, ↓o_if, ↓o_bad, ↓o_par, ↓o_par3, ↓o_asg, ↓o_gNm, ↓o_gTp, ↓o_gsNil, ↓o_gsCons, ↓o_gSb, ↓o_retF, ↓o_fld, ↓o_for, ↓r_iSeq, ↓r_iTpl, ↓r_iRg, ↓r_lc, ↓o_frz, ↓r_iEnm, ↓r_reprB_bl, ↓r_reprB_lst, ↓r_chain, ↓r_iStrM, ↓r_iKeysD, ↓r_iItemsD, ↓r_gDGet, ↓r_gDIn, ↓r_pairs0, ↓r_pairs1, ↓r_disp, ↓r_dc, ↓dcL_nil, ↓r_sortD, ↓r_sortL, ↓r_dictD, ↓r_dictL, ↓r_listD, ↓r_listL, ↓r_listT, ↓r_lenDd, ↓r_len_str, ↓r_jn, ↓r_sl, ↓r_pNone, ↓r_pSome, ↓r_gSlS, ↓r_gSlL, ↓r_ix_str, ↓r_dget2, ↓is_non_int, ↓is_non_bool, ↓is_non_str, ↓is_non_list, ↓is_non_tuple, ↓is_non_dict, ↓is_non_cls, ↓is_bl_int, ↓is_bl_bool, ↓is_bl_str, ↓is_bl_list, ↓is_bl_tuple, ↓is_bl_dict, ↓is_bl_cls, ↓is_int_int, ↓is_int_bool, ↓is_int_str, ↓is_int_list, ↓is_int_tuple, ↓is_int_dict, ↓is_int_cls, ↓is_str_int, ↓is_str_bool, ↓is_str_str, ↓is_str_list, ↓is_str_tuple, ↓is_str_dict, ↓is_str_cls, ↓is_lst_int, ↓is_lst_bool, ↓is_lst_str, ↓is_lst_list, ↓is_lst_tuple, ↓is_lst_dict, ↓is_lst_cls, ↓is_tup_int, ↓is_tup_bool, ↓is_tup_str, ↓is_tup_list, ↓is_tup_tuple, ↓is_tup_dict, ↓is_tup_cls, ↓is_dic_int, ↓is_dic_bool, ↓is_dic_str, ↓is_dic_list, ↓is_dic_tuple, ↓is_dic_dict, ↓is_dic_cls, ↓is_obj_int, ↓is_obj_bool, ↓is_obj_str, ↓is_obj_list, ↓is_obj_tuple, ↓is_obj_dict, ↓is_obj_cls,
  opt_some, opt_ite, opt_ite2, rs_ok, List.getElem?_cons_zero, List.getElem?_cons_succ, List.set_cons_zero, List.set_cons_succ, lstIn_lst, objIn_obj, objOf_dat, objOf_loc, two?, three?, datOf, locIx, intOf, intL, lstD, tupD, blOf, wipeP,
  pAdd_int, pAdd_str, pSub, pMul, pMod, pDiv, pLt, pLe, pGt, pGe, pInt, pAbs, pMax, pMin, pDivmod, tru_bl, tru_int, tru_non, dats, Option.map_some, decide_eq_true_eq, atI0, atI1, atI2, ixN0, ixN1, pEqF_int, pEqT_int, pEqF_str, pEqT_str, p10_4, p10_5, p10_9, p10_10, p10_18, p10_19, p10_29, p10_30, List.length_cons, List.length_nil, true_and, and_true, Bool.not_true, Bool.not_false, if_true, if_false, Bool.false_eq_true, Bool.not_eq_true', decide_eq_false_iff_not, bne_iff_ne, ne_eq, Int.reduceEq, Int.reduceLT, Int.reduceLE, Int.reduceGT, Int.reduceNeg, not_false_eq_true, not_true_eq_false, decide_true, decide_false, eq_self, and_self, sizeLine_eq, Nat.reduceAdd, Nat.reduceLeDiff, Nat.reduceLT, Nat.reduceEqDiff, List.cons_append, List.nil_append, lst1_is, strD, dicD, dicOf_dat, keyOf_str, keyOf_int, kpairs, pKey, pIsN_non, pNotN_non, pIsN_dic, pNotN_dic, pInS_str, seqOf_lst, seqOf_tup, strsOf, strKeys, keyP, List.map_cons, List.map_nil, Option.bind_some, Nat.reduceBEq, ct0, ct1, Bool.true_eq_false, Int.natCast_one, Int.natCast_zero, Int.cast_ofNat_Int, ↓ix_p0, ↓ix_p1, mul_ok (hy.mono (show 102 ≤ 1000000 by decide)) bp'.2, objOf_rat, e_below (.int y) bp by1, e_below (.rat p) by1 bp, e1, below_int, int_below, ↓r_b2, eqO_rx nr, eqO_xr nr, neO_ri, eqO_rr, tp, pq]
    exact ⟨⟨_, _, _, rfl, rfl⟩, fun x hx => it x (List.mem_cons_of_mem _ hx)⟩
  · subst e1
    subst e2
    have b3 := hp.bq.mono (show 100 ≤ 13000 by decide)
    have l2 : P.lst [.int p.1, .int p.2] = P.lst [.int p.1, .int p.2] := rfl
    have lt : ∀ {S : Store} {Q E t}, RsP (listM [.dat (pairP p)] S) Q E t = Q (.dat (.lst [.int p.1, .int p.2])) S := fun {_ _ _ _} => r_listT
    simp -dsimp only [↓r_var, ↓r_K, ↓r_aNil, ↓r_aCons, ↓r_op, ↓r_dat, ↓r_tup, ↓r_lst, ↓r_lstM, ↓r_call, ↓r_cm, ↓r_un, ↓r_negI, ↓r_if, ↓r_val, ↓r_and, ↓r_or, ↓r_not, ↓r_yes, ↓r_andV, ↓r_orV, ↓r_notV, ↓r_fld, ↓r_meth, ↓r_prop, ↓r_ix_lst, ↓r_ix_tup, ↓r_ix_loc, ↓r_len_lst, ↓r_len_tup, ↓r_fm1, ↓r_fm2, ↓r_all, ↓r_app, ↓r_ext, ↓o_seq, ↓o_nil, ↓o_ret, ↓o_set, ↓o_expr, ↓o_if, ↓o_bad, ↓o_par, ↓o_par3, ↓o_asg, ↓o_gNm, ↓o_gTp, ↓o_gsNil, ↓o_gsCons, ↓o_gSb, ↓o_retF, ↓o_fld, ↓o_for, ↓r_iSeq, ↓r_iTpl, ↓r_iRg, ↓r_lc, ↓o_frz, ↓r_iEnm, ↓r_reprB_bl, ↓r_reprB_lst, ↓r_chain, ↓r_iStrM, ↓r_iKeysD, ↓r_iItemsD, ↓r_gDGet, ↓r_gDIn, ↓r_pairs0, ↓r_pairs1, ↓r_disp, ↓r_dc, ↓dcL_nil, ↓r_sortD, ↓r_sortL, ↓r_dictD, ↓r_dictL, ↓r_listD, ↓r_listL, ↓r_listT, ↓r_lenDd, ↓r_len_str, ↓r_jn, ↓r_sl, ↓r_pNone, ↓r_pSome, ↓r_gSlS, ↓r_gSlL, ↓r_ix_str, ↓r_dget2, ↓is_non_int, ↓is_non_bool, ↓is_non_str, ↓is_non_list, ↓is_non_tuple, ↓is_non_dict, ↓is_non_cls, ↓is_bl_int, ↓is_bl_bool, ↓is_bl_str, ↓is_bl_list, ↓is_bl_tuple, ↓is_bl_dict, ↓is_bl_cls, ↓is_int_int, ↓is_int_bool, ↓is_int_str, ↓is_int_list, ↓is_int_tuple, ↓is_int_dict, ↓is_int_cls, ↓is_str_int, ↓is_str_bool, ↓is_str_str, ↓is_str_list, ↓is_str_tuple, ↓is_str_dict, ↓is_str_cls, ↓is_lst_int, ↓is_lst_bool, ↓is_lst_str, ↓is_lst_list, ↓is_lst_tuple, ↓is_lst_dict, ↓is_lst_cls, ↓is_tup_int, ↓is_tup_bool, ↓is_tup_str, ↓is_tup_list, ↓is_tup_tuple, ↓is_tup_dict, ↓is_tup_cls, ↓is_dic_int, ↓is_dic_bool, ↓is_dic_str, ↓is_dic_list, ↓is_dic_tuple, ↓is_dic_dict, ↓is_dic_cls, ↓is_obj_int, ↓is_obj_bool, ↓is_obj_str, ↓is_obj_list, ↓is_obj_tuple, ↓is_obj_dict, ↓is_obj_cls,
  opt_some, opt_ite, opt_ite2, rs_ok, List.getElem?_cons_zero, List.getElem?_cons_succ, List.set_cons_zero, List.set_cons_succ, lstIn_lst, objIn_obj, objOf_dat, objOf_loc, two?, three?, datOf, locIx, intOf, intL, lstD, tupD, blOf, wipeP,
  pAdd_int, pAdd_str, pSub, pMul, pMod, pDiv, pLt, pLe, pGt, pGe, pInt, pAbs, pMax, pMin, pDivmod, tru_bl, tru_int, tru_non, dats, Option.map_some, decide_eq_true_eq, atI0, atI1, atI2, ixN0, ixN1, pEqF_int, pEqT_int, pEqF_str, pEqT_str, p10_4, p10_5, p10_9, p10_10, p10_18, p10_19, p10_29, p10_30, List.length_cons, List.length_nil, true_and, and_true, Bool.not_true, Bool.not_false, if_true, if_false, Bool.false_eq_true, Bool.not_eq_true', decide_eq_false_iff_not, bne_iff_ne, ne_eq, Int.reduceEq, Int.reduceLT, Int.reduceLE, Int.reduceGT, Int.reduceNeg, not_false_eq_true, not_true_eq_false, decide_true, decide_false, eq_self, and_self, sizeLine_eq, Nat.reduceAdd, Nat.reduceLeDiff, Nat.reduceLT, Nat.reduceEqDiff, List.cons_append, List.nil_append, lst1_is, strD, dicD, dicOf_dat, keyOf_str, keyOf_int, kpairs, pKey, pIsN_non, pNotN_non, pIsN_dic, pNotN_dic, pInS_str, seqOf_lst, seqOf_tup, strsOf, strKeys, keyP, List.map_cons, List.map_nil, Option.bind_some, Nat.reduceBEq, ct0, ct1, Bool.true_eq_false, Int.natCast_one, Int.natCast_zero, Int.cast_ofNat_Int, s_rat b3, r_rat b3, ↓lt, e_formR b3, e_ofA]
    refine lcL_map (fun S => S = S2) (fun _ y => y = .bl false) rfl (fun x S hx e => ?_) (fun ps S e hf => ?_)
    · subst e
      have nr : nR x := by
        simp only [List.mem_cons, List.mem_nil_iff, or_false] at hx
        rcases hx with rfl | rfl | rfl | rfl | rfl | rfl | rfl | rfl | rfl | rfl | rfl | rfl <;> first | trivial | exact rfl
      simp -dsimp only [↓r_var, ↓r_K, ↓r_aNil, ↓r_aCons, ↓r_op, ↓r_dat, ↓r_tup, ↓r_lst, ↓r_lstM, ↓r_call, ↓r_cm, ↓r_un, ↓r_negI, ↓r_if, ↓r_val, ↓r_and, ↓r_or, ↓r_not, ↓r_yes, ↓r_andV, ↓r_orV, ↓r_notV, ↓r_fld, ↓r_meth, ↓r_prop, ↓r_ix_lst, ↓r_ix_tup, ↓r_ix_loc, ↓r_len_lst, ↓r_len_tup, ↓r_fm1, ↓r_fm2, ↓r_all, ↓r_app, ↓r_ext, ↓o_seq, ↓o_nil, ↓o_ret, ↓o_set, ↓o_expr, ↓o_if, ↓o_bad, ↓o_par, ↓o_par3, ↓o_asg, ↓o_gNm, ↓o_gTp, ↓o_gsNil, ↓o_gsCons, ↓o_gSb, ↓o_retF, ↓o_fld, ↓o_for, ↓r_iSeq, ↓r_iTpl, ↓r_iRg, ↓r_lc, ↓o_frz, ↓r_iEnm, ↓r_reprB_bl, ↓r_reprB_lst, ↓r_chain, ↓r_iStrM, ↓r_iKeysD, ↓r_iItemsD, ↓r_gDGet, ↓r_gDIn, ↓r_pairs0, ↓r_pairs1, ↓r_disp, ↓r_dc, ↓dcL_nil, ↓r_sortD, ↓r_sortL, ↓r_dictD, ↓r_dictL, ↓r_listD, ↓r_listL, ↓r_listT, ↓r_lenDd, ↓r_len_str, ↓r_jn, ↓r_sl, ↓r_pNone, ↓r_pSome, ↓r_gSlS, ↓r_gSlL, ↓r_ix_str, ↓r_dget2, ↓is_non_int, ↓is_non_bool, ↓is_non_str, ↓is_non_list, ↓is_non_tuple, ↓is_non_dict, ↓is_non_cls, ↓is_bl_int, ↓is_bl_bool, ↓is_bl_str, ↓is_bl_list, ↓is_bl_tuple, ↓is_bl_dict, ↓is_bl_cls, ↓is_int_int, ↓is_int_bool, ↓is_int_str, ↓is_int_list, ↓is_int_tuple, ↓is_int_dict, ↓is_int_cls, ↓is_str_int, ↓is_str_bool, ↓is_str_str, ↓is_str_list, ↓is_str_tuple, ↓is_str_dict, ↓is_str_cls, ↓is_lst_int, ↓is_lst_bool, ↓is_lst_str, ↓is_lst_list, ↓is_lst_tuple, ↓is_lst_dict, ↓is_lst_cls, ↓is_tup_int, ↓is_tup_bool, ↓is_tup_str, ↓is_tup_list, ↓is_tup_tuple, ↓is_tup_dict, ↓is_tup_cls, ↓is_dic_int, ↓is_dic_bool, ↓is_dic_str, ↓is_dic_list, ↓is_dic_tuple, ↓is_dic_dict, ↓is_dic_cls, ↓is_obj_int, ↓is_obj_bool, ↓is_obj_str, ↓is_obj_list, ↓is_obj_tuple, ↓is_obj_dict, ↓is_obj_cls,
  opt_some, opt_ite, opt_ite2, rs_ok, List.getElem?_cons_zero, List.getElem?_cons_succ, List.set_cons_zero, List.set_cons_succ, lstIn_lst, objIn_obj, objOf_dat, objOf_loc, two?, three?, datOf, locIx, intOf, intL, lstD, tupD, blOf, wipeP,
  pAdd_int, pAdd_str, pSub, pMul, pMod, pDiv, pLt, pLe, pGt, pGe, pInt, pAbs, pMax, pMin, pDivmod, tru_bl, tru_int, tru_non, dats, Option.map_some, decide_eq_true_eq, atI0, atI1, atI2, ixN0, ixN1, pEqF_int, pEqT_int, pEqF_str, pEqT_str, p10_4, p10_5, p10_9, p10_10, p10_18, p10_19, p10_29, p10_30, List.length_cons, List.length_nil, true_and, and_true, Bool.not_true, Bool.not_false, if_true, if_false, Bool.false_eq_true, Bool.not_eq_true', decide_eq_false_iff_not, bne_iff_ne, ne_eq, Int.reduceEq, Int.reduceLT, Int.reduceLE, Int.reduceGT, Int.reduceNeg, not_false_eq_true, not_true_eq_false, decide_true, decide_false, eq_self, and_self, sizeLine_eq, Nat.reduceAdd, Nat.reduceLeDiff, Nat.reduceLT, Nat.reduceEqDiff, List.cons_append, List.nil_append, lst1_is, strD, dicD, dicOf_dat, keyOf_str, keyOf_int, kpairs, pKey, pIsN_non, pNotN_non, pIsN_dic, pNotN_dic, pInS_str, seqOf_lst, seqOf_tup, strsOf, strKeys, keyP, List.map_cons, List.map_nil, Option.bind_some, Nat.reduceBEq, ct0, ct1, Bool.true_eq_false, Int.natCast_one, Int.natCast_zero, Int.cast_ofNat_Int, eqO_rx nr, eqO_xr nr]
    · obtain ⟨bs, e1, e2⟩ := bls_false (fun _ _ h => h) hf
      subst e
      simp -dsimp only [↓r_var, ↓r_K, ↓r_aNil, ↓r_aCons, ↓r_op, ↓r_dat, ↓r_tup, ↓r_lst, ↓r_lstM, ↓r_call, ↓r_cm, ↓r_un, ↓r_negI, ↓r_if, ↓r_val, ↓r_and, ↓r_or, ↓r_not, ↓r_yes, ↓r_andV, ↓r_orV, ↓r_notV, ↓r_fld, ↓r_meth, ↓r_prop, ↓r_ix_lst, ↓r_ix_tup, ↓r_ix_loc, ↓r_len_lst, ↓r_len_tup, ↓r_fm1, ↓r_fm2, ↓r_all, ↓r_app, ↓r_ext, ↓o_seq, ↓o_nil, ↓o_ret, ↓o_set, ↓o_expr, ↓o_if, ↓o_bad, ↓o_par, ↓o_par3, ↓o_asg, ↓o_gNm, ↓o_gTp, ↓o_gsNil, ↓o_gsCons, ↓o_gSb, ↓o_retF, ↓o_fld, ↓o_for, ↓r_iSeq, ↓r_iTpl, ↓r_iRg, ↓r_lc, ↓o_frz, ↓r_iEnm, ↓r_reprB_bl, ↓r_reprB_lst, ↓r_chain, ↓r_iStrM, ↓r_iKeysD, ↓r_iItemsD, ↓r_gDGet, ↓r_gDIn, ↓r_pairs0, ↓r_pairs1, ↓r_disp, ↓r_dc, ↓dcL_nil, ↓r_sortD, ↓r_sortL, ↓r_dictD, ↓r_dictL, ↓r_listD, ↓r_listL, ↓r_listT, ↓r_lenDd, ↓r_len_str, ↓r_jn, ↓r_sl, ↓r_pNone, ↓r_pSome, ↓r_gSlS, ↓r_gSlL, ↓r_ix_str, ↓r_dget2, ↓is_non_int, ↓is_non_bool, ↓is_non_str, ↓is_non_list, ↓is_non_tuple, ↓is_non_dict, ↓is_non_cls, ↓is_bl_int, ↓is_bl_bool, ↓is_bl_str, ↓is_bl_list, ↓is_bl_tuple, ↓is_bl_dict, ↓is_bl_cls, ↓is_int_int, ↓is_int_bool, ↓is_int_str, ↓is_int_list, ↓is_int_tuple, ↓is_int_dict, ↓is_int_cls, ↓is_str_int, ↓is_str_bool, ↓is_str_str, ↓is_str_list, ↓is_str_tuple, ↓is_str_dict, ↓is_str_cls, ↓is_lst_int, ↓is_lst_bool, ↓is_lst_str, ↓is_lst_list, ↓is_lst_tuple, ↓is_lst_dict, ↓is_lst_cls, ↓is_tup_int, ↓is_tup_bool, ↓is_tup_str, ↓is_tup_list, ↓is_tup_tuple, ↓is_tup_dict, ↓is_tup_cls, ↓is_dic_int, ↓is_dic_bool, ↓is_dic_str, ↓is_dic_list, ↓is_dic_tuple, ↓is_dic_dict, ↓is_dic_cls, ↓is_obj_int, ↓is_obj_bool, ↓is_obj_str, ↓is_obj_list, ↓is_obj_tuple, ↓is_obj_dict, ↓is_obj_cls,
  opt_some, opt_ite, opt_ite2, rs_ok, List.getElem?_cons_zero, List.getElem?_cons_succ, List.set_cons_zero, List.set_cons_succ, lstIn_lst, objIn_obj, objOf_dat, objOf_loc, two?, three?, datOf, locIx, intOf, intL, lstD, tupD, blOf, wipeP,
  pAdd_int, pAdd_str, pSub, pMul, pMod, pDiv, pLt, pLe, pGt, pGe, pInt, pAbs, pMax, pMin, pDivmod, tru_bl, tru_int, tru_non, dats, Option.map_some, decide_eq_true_eq, atI0, atI1, atI2, ixN0, ixN1, pEqF_int, pEqT_int, pEqF_str, pEqT_str, p10_4, p10_5, p10_9, p10_10, p10_18, p10_19, p10_29, p10_30, List.length_cons, List.length_nil, true_and, and_true, Bool.not_true, Bool.not_false, if_true, if_false, Bool.false_eq_true, Bool.not_eq_true', decide_eq_false_iff_not, bne_iff_ne, ne_eq, Int.reduceEq, Int.reduceLT, Int.reduceLE, Int.reduceGT, Int.reduceNeg, not_false_eq_true, not_true_eq_false, decide_true, decide_false, eq_self, and_self, sizeLine_eq, Nat.reduceAdd, Nat.reduceLeDiff, Nat.reduceLT, Nat.reduceEqDiff, List.cons_append, List.nil_append, lst1_is, strD, dicD, dicOf_dat, keyOf_str, keyOf_int, kpairs, pKey, pIsN_non, pNotN_non, pIsN_dic, pNotN_dic, pInS_str, seqOf_lst, seqOf_tup, strsOf, strKeys, keyP, List.map_cons, List.map_nil, Option.bind_some, Nat.reduceBEq, ct0, ct1, Bool.true_eq_false, Int.natCast_one, Int.natCast_zero, Int.cast_ofNat_Int, e1, e2]
      exact h _ J1
end K12
set_option Elab.async false
set_option linter.all false
set_option maxRecDepth 100000
set_option maxHeartbeats 2000000
namespace K12
open PySem L2 DL QR
local macro_rules | `(tactic| walk_at "dl") => `(tactic| try simp -dsimp only [↓r_var, ↓r_K, ↓r_aNil, ↓r_aCons, ↓r_op, ↓r_dat, ↓r_tup, ↓r_lst, ↓r_lstM, ↓r_call, ↓r_cm, ↓r_un, ↓r_negI, ↓r_if, ↓r_val, ↓r_and, ↓r_or, ↓r_not, ↓r_yes, ↓r_andV, ↓r_orV, ↓r_notV, ↓r_fld, ↓r_meth, ↓r_prop, ↓r_ix_lst, ↓r_ix_tup, ↓r_ix_loc, ↓r_len_lst, ↓r_len_tup, ↓r_fm1, ↓r_fm2, ↓r_all, ↓r_app, ↓r_ext, ↓o_seq, ↓o_nil, ↓o_ret, ↓o_set, ↓o_expr, ↓o_if, ↓o_bad, ↓o_par, ↓o_par3, ↓o_asg, ↓o_gNm, ↓o_gTp, ↓o_gsNil, ↓o_gsCons, ↓o_gSb, ↓o_retF, ↓o_fld, ↓o_for, ↓r_iSeq, ↓r_iTpl, ↓r_iRg, ↓r_lc, ↓o_frz, ↓r_iEnm, ↓r_reprB_bl, ↓r_reprB_lst, ↓r_chain, ↓r_iStrM, ↓r_iKeysD, ↓r_iItemsD, ↓r_gDGet, ↓r_gDIn, ↓r_pairs0, ↓r_pairs1, ↓r_disp, ↓r_dc, ↓dcL_nil, ↓r_sortD, ↓r_sortL, ↓r_dictD, ↓r_dictL, ↓r_listD, ↓r_listL, ↓r_listT, ↓r_lenDd, ↓r_len_str, ↓r_jn, ↓r_sl, ↓r_pNone, ↓r_pSome, ↓r_gSlS, ↓r_gSlL, ↓r_ix_str, ↓r_dget2, ↓is_non_int, ↓is_non_bool, ↓is_non_str, ↓is_non_list, ↓is_non_tuple, ↓is_non_dict, ↓is_non_cls, ↓is_bl_int, ↓is_bl_bool, ↓is_bl_str, ↓is_bl_list, ↓is_bl_tuple, ↓is_bl_dict, ↓is_bl_cls, ↓is_int_int, ↓is_int_bool, ↓is_int_str, ↓is_int_list, ↓is_int_tuple, ↓is_int_dict, ↓is_int_cls, ↓is_str_int, ↓is_str_bool, ↓is_str_str, ↓is_str_list, ↓is_str_tuple, ↓is_str_dict, ↓is_str_cls, ↓is_lst_int, ↓is_lst_bool, ↓is_lst_str, ↓is_lst_list, ↓is_lst_tuple, ↓is_lst_dict, ↓is_lst_cls, ↓is_tup_int, ↓is_tup_bool, ↓is_tup_str, ↓is_tup_list, ↓is_tup_tuple, ↓is_tup_dict, ↓is_tup_cls, ↓is_dic_int, ↓is_dic_bool, ↓is_dic_str, ↓is_dic_list, ↓is_dic_tuple, ↓is_dic_dict, ↓is_dic_cls, ↓is_obj_int, ↓is_obj_bool, ↓is_obj_str, ↓is_obj_list, ↓is_obj_tuple, ↓is_obj_dict, ↓is_obj_cls,
  opt_some, opt_ite, opt_ite2, rs_ok, List.getElem?_cons_zero, List.getElem?_cons_succ, List.set_cons_zero, List.set_cons_succ, lstIn_lst, objIn_obj, objOf_dat, objOf_loc, two?, three?, datOf, locIx, intOf, intL, lstD, tupD, blOf, wipeP,
  pAdd_int, pAdd_str, pSub, pMul, pMod, pDiv, pLt, pLe, pGt, pGe, pInt, pAbs, pMax, pMin, pDivmod, tru_bl, tru_int, tru_non, dats, Option.map_some, decide_eq_true_eq, atI0, atI1, atI2, ixN0, ixN1, pEqF_int, pEqT_int, pEqF_str, pEqT_str, p10_4, p10_5, p10_9, p10_10, p10_18, p10_19, p10_29, p10_30, List.length_cons, List.length_nil, true_and, and_true, Bool.not_true, Bool.not_false, if_true, if_false, Bool.false_eq_true, Bool.not_eq_true', decide_eq_false_iff_not, bne_iff_ne, ne_eq, Int.reduceEq, Int.reduceLT, Int.reduceLE, Int.reduceGT, Int.reduceNeg, not_false_eq_true, not_true_eq_false, decide_true, decide_false, eq_self, and_self, sizeLine_eq, Nat.reduceAdd, Nat.reduceLeDiff, Nat.reduceLT, Nat.reduceEqDiff, List.cons_append, List.nil_append, lst1_is, strD, dicD, dicOf_dat, keyOf_str, keyOf_int, kpairs, pKey, pIsN_non, pNotN_non, pIsN_dic, pNotN_dic, pInS_str, seqOf_lst, seqOf_tup, strsOf, strKeys, keyP, List.map_cons, List.map_nil, Option.bind_some, Nat.reduceBEq, ct0, ct1, Bool.true_eq_false, Int.natCast_one, Int.natCast_zero, Int.cast_ofNat_Int])
theorem slot1 {a : Option Val} {v : Val} {r : Slots} : slotOf (a :: some v :: r) 1 = some v := (rfl)
theorem lstAt_loc {S : Store} {m : Nat} {xs : List P} (h : S[m]? = some (.lst xs)) : lstAt S (.loc m) = some (m, xs) := by
  simp only [lstAt, h]
theorem lst_last {ps : List (Int × Int)} {q : Int × Int} : atI ((ps ++ [q]).map pairP) (-1) = some (pairP q) := by
  rw [List.map_append]
  exact atI_last
theorem bd100 {x : Int} (h : -1000000000000000000000000000000 < x) (h' : x < 1000000000000000000000000000000) : Bd 100 x := by
  unfold Bd
  have : (1000000000000000000000000000000 : Nat) < 2 ^ 100 := by decide +kernel
  omega
theorem g73 : G 100 (nrm 7 3) := (G.nrm (n := 97) (by decide) (bd_small (by decide) (by decide) (by decide)) (bd_small (by decide) (by decide) (by decide))).mono (by decide)
structure LA (n m : Nat) (r : List P) (ρ : Slots) (S : Store) : Prop where
  ex : ∃ o2 o3 o4 o5 o6 o7 o8 o9 o10 ps q, ρ = [some (.loc n), some (.loc m), o2, o3, o4, o5, o6, o7, o8, o9, o10] ∧ S[m]? = some (.lst ((ps ++ [q]).map pairP)) ∧ (∀ p ∈ ps ++ [q], G 100 p) ∧ ps.length + r.length = 5
  jar : Jar n S
  ne : m ≠ n
  it : ∀ x ∈ r, ∃ i : Nat, i < 5 ∧ x = .int (i : Int)
def en (i : Nat) (x : P) : P := .tup [.int (i : Nat), x]
structure LB (n : Nat) (pl : List (Int × Int)) (r : List P) (ρ : Slots) (S : Store) : Prop where
  ex : ∃ o2 o3 o5 o6 o7 o8 o9 o10 k, ρ = [some (.loc n), some (.dat (.lst (pl.map pairP))), o2, o3, some (.dat (.lst (pl.map ratP))), o5, o6, o7, o8, o9, o10] ∧ r = ((pl.map ratP).mapIdx en).drop k
  jar : Jar n S
theorem en_at {pl : List (Int × Int)} {k : Nat} {x : P} {r : List P} (h : x :: r = ((pl.map ratP).mapIdx en).drop k) : ∃ hk : k < pl.length, x = .tup [.int (k : Int), ratP pl[k]] ∧ r = ((pl.map ratP).mapIdx en).drop (k + 1) := by
  have hl : ((pl.map ratP).mapIdx en).length = pl.length := by simp
  have hk : k < ((pl.map ratP).mapIdx en).length := by
    rcases Nat.lt_or_ge k ((pl.map ratP).mapIdx en).length with h' | h'
    · exact h'
    · rw [List.drop_of_length_le h'] at h
      cases h
  rw [List.drop_eq_getElem_cons hk] at h
  injection h with h1 h2
  refine ⟨hl ▸ hk, ?_, h2⟩
  rw [h1]
  simp [en]
theorem at_r {pl : List (Int × Int)} {k : Nat} (h : k < pl.length) : atI (pl.map ratP) (k : Int) = some (ratP pl[k]) := by
  rw [atI_nat (by simpa using h)]
  simp
theorem at_p {pl : List (Int × Int)} {k : Nat} (h : k < pl.length) : atI (pl.map pairP) (k : Int) = some (pairP pl[k]) := by
  rw [atI_nat (by simpa using h)]
  simp
def nth (pl : List (Int × Int)) (j : Nat) : Int × Int := pl.getD j (0, 1)
theorem nth_at {pl : List (Int × Int)} {j : Nat} (h : j < pl.length) : pl[j] = nth pl j := by
  simp [nth, h]
def cnt (pl : List (Int × Int)) (p : Int × Int) : Nat := ((List.range pl.length).filter fun j => bel (nth pl j) p).length
theorem rng_map (n : Nat) : rngP 0 n = (List.range n).map fun i : Nat => P.int (i : Int) := by
  unfold rngP
  refine List.map_congr_left fun i _ => ?_
  rw [Int.zero_add]
theorem tn (n : Nat) : ((n : Nat) : Int).toNat = n := Int.toNat_natCast n
theorem r_count1 {pl : List (Int × Int)} (hG : ∀ p ∈ pl, G 100 p) {p : Int × Int} (hp : G 100 p) {a b o2 o3 o5 o7 o8 o9 o10 : Option Val} {S : Store} {QP : List P → Store → Prop} {E t} (hq : ∀ js : List P, js.length = cnt pl p → QP js S) :
    RsP (lcL (gNm 10) (tVal (eMeth 0 M_Ratio_is_below (eOp gIx (eVar 4) (eVar 10)) (aCons (eVar 6) aNil))) (eVar 10) [a, b, o2, o3, some (.dat (.lst (pl.map ratP))), o5, some (.dat (ratP p)), o7, o8, o9, o10] (rngP 0 pl.length) S) QP E t := by
  rw [rng_map]
  refine lcL_fil _ (fun j : Nat => P.int (j : Int)) (fun j => bel (nth pl j) p) _ (fun j hj => ?_) (hq _ (by rw [List.length_map]; rfl))
  have hj' := List.mem_range.mp hj
  have g := hG _ (List.getElem_mem hj')
  rw [nth_at hj'] at g
  have e := at_r hj'
  rw [nth_at hj'] at e
  simp -dsimp only [↓r_var, ↓r_K, ↓r_aNil, ↓r_aCons, ↓r_op, ↓r_dat, ↓r_tup, ↓r_lst, ↓r_lstM, ↓r_call, ↓r_cm, ↓r_un, ↓r_negI, ↓r_if, ↓r_val, ↓r_and, ↓r_or, ↓r_not, ↓r_yes, ↓r_andV, ↓r_orV, ↓r_notV, ↓r_fld, ↓r_meth, ↓r_prop, ↓r_ix_lst, ↓r_ix_tup, ↓r_ix_loc, ↓r_len_lst, ↓r_len_tup, ↓r_fm1, ↓r_fm2, ↓r_all, ↓r_app, ↓r_ext, ↓o_seq, ↓o_nil, ↓o_ret, ↓o_set, ↓o_expr, ↓o_if, ↓o_bad, ↓o_par, ↓o_par3, ↓o_asg, ↓o_gNm, ↓o_gTp, ↓o_gsNil, ↓o_gsCons, ↓o_gSb, ↓o_retF, ↓o_fld, ↓o_for, ↓r_iSeq, ↓r_iTpl, ↓r_iRg, ↓r_lc, ↓o_frz, ↓r_iEnm, ↓r_reprB_bl, ↓r_reprB_lst, ↓r_chain, ↓r_iStrM, ↓r_iKeysD, ↓r_iItemsD, ↓r_gDGet, ↓r_gDIn, ↓r_pairs0, ↓r_pairs1, ↓r_disp, ↓r_dc, ↓dcL_nil, ↓r_sortD, ↓r_sortL, ↓r_dictD, ↓r_dictL, ↓r_listD, ↓r_listL, ↓r_listT, ↓r_lenDd, ↓r_len_str, ↓r_jn, ↓r_sl, ↓r_pNone, ↓r_pSome, ↓r_gSlS, ↓r_gSlL, ↓r_ix_str, ↓r_dget2, ↓is_non_int, ↓is_non_bool, ↓is_non_str, ↓is_non_list, ↓is_non_tuple, ↓is_non_dict, ↓is_non_cls, ↓is_bl_int, ↓is_bl_bool, ↓is_bl_str, ↓is_bl_list, ↓is_bl_tuple, ↓is_bl_dict, ↓is_bl_cls, ↓is_int_int, ↓is_int_bool, ↓is_int_str, ↓is_int_list, ↓is_int_tuple, ↓is_int_dict, ↓is_int_cls, ↓is_str_int, ↓is_str_bool, ↓is_str_str, ↓is_str_list, ↓is_str_tuple, ↓is_str_dict, ↓is_str_cls, ↓is_lst_int, ↓is_lst_bool, ↓is_lst_str, ↓is_lst_list, ↓is_lst_tuple, ↓is_lst_dict, ↓is_lst_cls, ↓is_tup_int, ↓is_tup_bool, ↓is_tup_str, ↓is_tup_list, ↓is_tup_tuple, ↓is_tup_dict, ↓is_tup_cls, ↓is_dic_int, ↓is_dic_bool, ↓is_dic_str, ↓is_dic_list, ↓is_dic_tuple, ↓is_dic_dict, ↓is_dic_cls, ↓is_obj_int, ↓is_obj_bool, ↓is_obj_str, ↓is_obj_list, ↓is_obj_tuple, ↓is_obj_dict, ↓is_obj_cls,
  opt_some, opt_ite, opt_ite2, rs_ok, List.getElem?_cons_zero, List.getElem?_cons_succ, List.set_cons_zero, List.set_cons_succ, lstIn_lst, objIn_obj, objOf_dat, objOf_loc, two?, three?, datOf, locIx, intOf, intL, lstD, tupD, blOf, wipeP,
  pAdd_int, pAdd_str, pSub, pMul, pMod, pDiv, pLt, pLe, pGt, pGe, pInt, pAbs, pMax, pMin, pDivmod, tru_bl, tru_int, tru_non, dats, Option.map_some, decide_eq_true_eq, atI0, atI1, atI2, ixN0, ixN1, pEqF_int, pEqT_int, pEqF_str, pEqT_str, p10_4, p10_5, p10_9, p10_10, p10_18, p10_19, p10_29, p10_30, List.length_cons, List.length_nil, true_and, and_true, Bool.not_true, Bool.not_false, if_true, if_false, Bool.false_eq_true, Bool.not_eq_true', decide_eq_false_iff_not, bne_iff_ne, ne_eq, Int.reduceEq, Int.reduceLT, Int.reduceLE, Int.reduceGT, Int.reduceNeg, not_false_eq_true, not_true_eq_false, decide_true, decide_false, eq_self, and_self, sizeLine_eq, Nat.reduceAdd, Nat.reduceLeDiff, Nat.reduceLT, Nat.reduceEqDiff, List.cons_append, List.nil_append, lst1_is, strD, dicD, dicOf_dat, keyOf_str, keyOf_int, kpairs, pKey, pIsN_non, pNotN_non, pIsN_dic, pNotN_dic, pInS_str, seqOf_lst, seqOf_tup, strsOf, strKeys, keyP, List.map_cons, List.map_nil, Option.bind_some, Nat.reduceBEq, ct0, ct1, Bool.true_eq_false, Int.natCast_one, Int.natCast_zero, Int.cast_ofNat_Int, e, objOf_rat, e_below (.rat p) (g.bq.mono (show 100 ≤ 10000 by decide)) (hp.bq.mono (show 100 ≤ 10000 by decide))]
  exact fun _ => trivial
theorem r_count2 {pl : List (Int × Int)} (hG : ∀ p ∈ pl, G 100 p) {p : Int × Int} (hp : G 100 p) {a o2 o3 o4 o5 o6 o7 o8 o10 : Option Val} {S : Store} {QP : List P → Store → Prop} {E t} (hq : ∀ js : List P, js.length = cnt pl p → QP js S) :
    RsP (lcL (gNm 10) (tVal (eOp (datOp pLt) (eOp (datOp pMul) (eOp gIx (eOp gIx (eVar 1) (eVar 10)) (eK (.int 0))) (eOp gIx (eVar 9) (eK (.int 1)))) (eOp (datOp pMul) (eOp gIx (eVar 9) (eK (.int 0))) (eOp gIx (eOp gIx (eVar 1) (eVar 10)) (eK (.int 1)))))) (eVar 10) [a, some (.dat (.lst (pl.map pairP))), o2, o3, o4, o5, o6, o7, o8, some (.dat (pairP p)), o10] (rngP 0 pl.length) S) QP E t := by
  rw [rng_map]
  refine lcL_fil _ (fun j : Nat => P.int (j : Int)) (fun j => bel (nth pl j) p) _ (fun j hj => ?_) (hq _ (by rw [List.length_map]; rfl))
  have hj' := List.mem_range.mp hj
  have g := hG _ (List.getElem_mem hj')
  rw [nth_at hj'] at g
  have e := at_p hj'
  rw [nth_at hj'] at e
  have bg := g.bq.mono (show 100 ≤ 1000000 by decide)
  have bp := hp.bq.mono (show 100 ≤ 1000000 by decide)
  simp -dsimp only [↓r_var, ↓r_K, ↓r_aNil, ↓r_aCons, ↓r_op, ↓r_dat, ↓r_tup, ↓r_lst, ↓r_lstM, ↓r_call, ↓r_cm, ↓r_un, ↓r_negI, ↓r_if, ↓r_val, ↓r_and, ↓r_or, ↓r_not, ↓r_yes, ↓r_andV, ↓r_orV, ↓r_notV, ↓r_fld, ↓r_meth, ↓r_prop, ↓r_ix_lst, ↓r_ix_tup, ↓r_ix_loc, ↓r_len_lst, ↓r_len_tup, ↓r_fm1, ↓r_fm2, ↓r_all, ↓r_app, ↓r_ext, ↓o_seq, ↓o_nil, ↓o_ret, ↓o_set, ↓o_expr, ↓o_if, ↓o_bad, ↓o_par, ↓o_par3, ↓o_asg, ↓o_gNm, ↓o_gTp, ↓o_gsNil, ↓o_gsCons, ↓o_gSb, ↓o_retF, ↓o_fld, ↓o_for, ↓r_iSeq, ↓r_iTpl, ↓r_iRg, ↓r_lc, ↓o_frz, ↓r_iEnm, ↓r_reprB_bl, ↓r_reprB_lst, ↓r_chain, ↓r_iStrM, ↓r_iKeysD, ↓r_iItemsD, ↓r_gDGet, ↓r_gDIn, ↓r_pairs0, ↓r_pairs1, ↓r_disp, ↓r_dc, ↓dcL_nil, ↓r_sortD, ↓r_sortL, ↓r_dictD, ↓r_dictL, ↓r_listD, ↓r_listL, ↓r_listT, ↓r_lenDd, ↓r_len_str, ↓r_jn, ↓r_sl, ↓r_pNone, ↓r_pSome, ↓r_gSlS, ↓r_gSlL, ↓r_ix_str, ↓r_dget2, ↓is_non_int, ↓is_non_bool, ↓is_non_str, ↓is_non_list, ↓is_non_tuple, ↓is_non_dict, ↓is_non_cls, ↓is_bl_int, ↓is_bl_bool, ↓is_bl_str, ↓is_bl_list, ↓is_bl_tuple, ↓is_bl_dict, ↓is_bl_cls, ↓is_int_int, ↓is_int_bool, ↓is_int_str, ↓is_int_list, ↓is_int_tuple, ↓is_int_dict, ↓is_int_cls, ↓is_str_int, ↓is_str_bool, ↓is_str_str, ↓is_str_list, ↓is_str_tuple, ↓is_str_dict, ↓is_str_cls, ↓is_lst_int, ↓is_lst_bool, ↓is_lst_str, ↓is_lst_list, ↓is_lst_tuple, ↓is_lst_dict, ↓is_lst_cls, ↓is_tup_int, ↓is_tup_bool, ↓is_tup_str, ↓is_tup_list, ↓is_tup_tuple, ↓is_tup_dict, ↓is_tup_cls, ↓is_dic_int, ↓is_dic_bool, ↓is_dic_str, ↓is_dic_list, ↓is_dic_tuple, ↓is_dic_dict, ↓is_dic_cls, ↓is_obj_int, ↓is_obj_bool, ↓is_obj_str, ↓is_obj_list, ↓is_obj_tuple, ↓is_obj_dict, ↓is_obj_cls,
  opt_some, opt_ite, opt_ite2, rs_ok, List.getElem?_cons_zero, List.getElem?_cons_succ, List.set_cons_zero, List.set_cons_succ, lstIn_lst, objIn_obj, objOf_dat, objOf_loc, two?, three?, datOf, locIx, intOf, intL, lstD, tupD, blOf, wipeP,
  pAdd_int, pAdd_str, pSub, pMul, pMod, pDiv, pLt, pLe, pGt, pGe, pInt, pAbs, pMax, pMin, pDivmod, tru_bl, tru_int, tru_non, dats, Option.map_some, decide_eq_true_eq, atI0, atI1, atI2, ixN0, ixN1, pEqF_int, pEqT_int, pEqF_str, pEqT_str, p10_4, p10_5, p10_9, p10_10, p10_18, p10_19, p10_29, p10_30, List.length_cons, List.length_nil, true_and, and_true, Bool.not_true, Bool.not_false, if_true, if_false, Bool.false_eq_true, Bool.not_eq_true', decide_eq_false_iff_not, bne_iff_ne, ne_eq, Int.reduceEq, Int.reduceLT, Int.reduceLE, Int.reduceGT, Int.reduceNeg, not_false_eq_true, not_true_eq_false, decide_true, decide_false, eq_self, and_self, sizeLine_eq, Nat.reduceAdd, Nat.reduceLeDiff, Nat.reduceLT, Nat.reduceEqDiff, List.cons_append, List.nil_append, lst1_is, strD, dicD, dicOf_dat, keyOf_str, keyOf_int, kpairs, pKey, pIsN_non, pNotN_non, pIsN_dic, pNotN_dic, pInS_str, seqOf_lst, seqOf_tup, strsOf, strKeys, keyP, List.map_cons, List.map_nil, Option.bind_some, Nat.reduceBEq, ct0, ct1, Bool.true_eq_false, Int.natCast_one, Int.natCast_zero, Int.cast_ofNat_Int, e, ↓ix_p0, ↓ix_p1, mul_ok bg.1 bp.2, mul_ok bp.1 bg.2]
  exact ⟨rfl, fun _ => trivial⟩
theorem m_right {n : Nat} {S : Store} {Q E t} (J : Jar n S) (h : ∀ S', Q (.dat (.bl true)) S') : RsP (M_law_right [.loc n] S) Q E t := by
  rw [run_law_right]
  unfold b_law_right
  have e73 : ∀ S, M_law_lowest [.dat (.int 7), .dat (.int 3)] S = .ok (.dat (pairP (nrm 7 3))) S := fun S => e_law_lowest (by decide) (bd_small (by decide) (by decide) (by decide)) (bd_small (by decide) (by decide) (by decide))
  simp -dsimp only [↓r_var, ↓r_K, ↓r_aNil, ↓r_aCons, ↓r_op, ↓r_dat, ↓r_tup, ↓r_lst, ↓r_lstM, ↓r_call, ↓r_cm, ↓r_un, ↓r_negI, ↓r_if, ↓r_val, ↓r_and, ↓r_or, ↓r_not, ↓r_yes, ↓r_andV, ↓r_orV, ↓r_notV, ↓r_fld, ↓r_meth, ↓r_prop, ↓r_ix_lst, ↓r_ix_tup, ↓r_ix_loc, ↓r_len_lst, ↓r_len_tup, ↓r_fm1, ↓r_fm2, ↓r_all, ↓r_app, ↓r_ext, ↓o_seq, ↓o_nil, ↓o_ret, ↓o_set, ↓o_expr, ↓o_if, ↓o_bad, ↓o_par, ↓o_par3, ↓o_asg, ↓o_gNm, ↓o_gTp, ↓o_gsNil, ↓o_gsCons, ↓o_gSb, ↓o_retF, ↓o_fld, ↓o_for, ↓r_iSeq, ↓r_iTpl, ↓r_iRg, ↓r_lc, ↓o_frz, ↓r_iEnm, ↓r_reprB_bl, ↓r_reprB_lst, ↓r_chain, ↓r_iStrM, ↓r_iKeysD, ↓r_iItemsD, ↓r_gDGet, ↓r_gDIn, ↓r_pairs0, ↓r_pairs1, ↓r_disp, ↓r_dc, ↓dcL_nil, ↓r_sortD, ↓r_sortL, ↓r_dictD, ↓r_dictL, ↓r_listD, ↓r_listL, ↓r_listT, ↓r_lenDd, ↓r_len_str, ↓r_jn, ↓r_sl, ↓r_pNone, ↓r_pSome, ↓r_gSlS, ↓r_gSlL, ↓r_ix_str, ↓r_dget2, ↓is_non_int, ↓is_non_bool, ↓is_non_str, ↓is_non_list, ↓is_non_tuple, ↓is_non_dict, ↓is_non_cls, ↓is_bl_int, ↓is_bl_bool, ↓is_bl_str, ↓is_bl_list, ↓is_bl_tuple, ↓is_bl_dict, ↓is_bl_cls, ↓is_int_int, ↓is_int_bool, ↓is_int_str, ↓is_int_list, ↓is_int_tuple, ↓is_int_dict, ↓is_int_cls, ↓is_str_int, ↓is_str_bool, ↓is_str_str, ↓is_str_list, ↓is_str_tuple, ↓is_str_dict, ↓is_str_cls, ↓is_lst_int, ↓is_lst_bool, ↓is_lst_str, ↓is_lst_list, ↓is_lst_tuple, ↓is_lst_dict, ↓is_lst_cls, ↓is_tup_int, ↓is_tup_bool, ↓is_tup_str, ↓is_tup_list, ↓is_tup_tuple, ↓is_tup_dict, ↓is_tup_cls, ↓is_dic_int, ↓is_dic_bool, ↓is_dic_str, ↓is_dic_list, ↓is_dic_tuple, ↓is_dic_dict, ↓is_dic_cls, ↓is_obj_int, ↓is_obj_bool, ↓is_obj_str, ↓is_obj_list, ↓is_obj_tuple, ↓is_obj_dict, ↓is_obj_cls,
  opt_some, opt_ite, opt_ite2, rs_ok, List.getElem?_cons_zero, List.getElem?_cons_succ, List.set_cons_zero, List.set_cons_succ, lstIn_lst, objIn_obj, objOf_dat, objOf_loc, two?, three?, datOf, locIx, intOf, intL, lstD, tupD, blOf, wipeP,
  pAdd_int, pAdd_str, pSub, pMul, pMod, pDiv, pLt, pLe, pGt, pGe, pInt, pAbs, pMax, pMin, pDivmod, tru_bl, tru_int, tru_non, dats, Option.map_some, decide_eq_true_eq, atI0, atI1, atI2, ixN0, ixN1, pEqF_int, pEqT_int, pEqF_str, pEqT_str, p10_4, p10_5, p10_9, p10_10, p10_18, p10_19, p10_29, p10_30, List.length_cons, List.length_nil, true_and, and_true, Bool.not_true, Bool.not_false, if_true, if_false, Bool.false_eq_true, Bool.not_eq_true', decide_eq_false_iff_not, bne_iff_ne, ne_eq, Int.reduceEq, Int.reduceLT, Int.reduceLE, Int.reduceGT, Int.reduceNeg, not_false_eq_true, not_true_eq_false, decide_true, decide_false, eq_self, and_self, sizeLine_eq, Nat.reduceAdd, Nat.reduceLeDiff, Nat.reduceLT, Nat.reduceEqDiff, List.cons_append, List.nil_append, lst1_is, strD, dicD, dicOf_dat, keyOf_str, keyOf_int, kpairs, pKey, pIsN_non, pNotN_non, pIsN_dic, pNotN_dic, pInS_str, seqOf_lst, seqOf_tup, strsOf, strKeys, keyP, List.map_cons, List.map_nil, Option.bind_some, Nat.reduceBEq, ct0, ct1, Bool.true_eq_false, Int.natCast_one, Int.natCast_zero, Int.cast_ofNat_Int, e73]
  refine ⟨by decide, ?_⟩
  refine forL_inv (LA n S.length) ⟨⟨_, _, _, _, _, _, _, _, _, [], nrm 7 3, rfl, push_at, by simpa using g73, by rw [rng_len]; rfl⟩, J.push, Ne.symm (Nat.ne_of_lt J.lt), fun x hx => ?_⟩ (fun x r ρ S2 ⟨⟨o2, o3, o4, o5, o6, o7, o8, o9, o10, ps, q, e1, hS, hG, hl⟩, J2, ne, it⟩ => ?_) (fun ρ S2 ⟨⟨o2, o3, o4, o5, o6, o7, o8, o9, o10, ps, q, e1, hS, hG, hl⟩, J2, ne, it⟩ => ?_)
  · exact rng_mem hx
  · subst e1
    obtain ⟨i, hi, rfl⟩ := it x List.mem_cons_self
    have hq := hG q (by simp)
    have it' : ∀ x ∈ r, ∃ i : Nat, i < 5 ∧ x = .int (i : Int) := fun x hx => it x (List.mem_cons_of_mem _ hx)
    simp -dsimp only [↓r_var, ↓r_K, ↓r_aNil, ↓r_aCons, ↓r_op, ↓r_dat, ↓r_tup, ↓r_lst, ↓r_lstM, ↓r_call, ↓r_cm, ↓r_un, ↓r_negI, ↓r_if, ↓r_val, ↓r_and, ↓r_or, ↓r_not, ↓r_yes, ↓r_andV, ↓r_orV, ↓r_notV, ↓r_fld, ↓r_meth, ↓r_prop, ↓r_ix_lst, ↓r_ix_tup, ↓r_ix_loc, ↓r_len_lst, ↓r_len_tup, ↓r_fm1, ↓r_fm2, ↓r_all, ↓r_app, ↓r_ext, ↓o_seq, ↓o_nil, ↓o_ret, ↓o_set, ↓o_expr, ↓o_if, ↓o_bad, ↓o_par, ↓o_par3, ↓o_asg, ↓o_gNm, ↓o_gTp, ↓o_gsNil, ↓o_gsCons, ↓o_gSb, ↓o_retF, ↓o_fld, ↓o_for, ↓r_iSeq, ↓r_iTpl, ↓r_iRg, ↓r_lc, ↓o_frz, ↓r_iEnm, ↓r_reprB_bl, ↓r_reprB_lst, ↓r_chain, ↓r_iStrM, ↓r_iKeysD, ↓r_iItemsD, ↓r_gDGet, ↓r_gDIn, ↓r_pairs0, ↓r_pairs1, ↓r_disp, ↓r_dc, ↓dcL_nil, ↓r_sortD, ↓r_sortL, ↓r_dictD, ↓r_dictL, ↓r_listD, ↓r_listL, ↓r_listT, ↓r_lenDd, ↓r_len_str, ↓r_jn, ↓r_sl, ↓r_pNone, ↓r_pSome, ↓r_gSlS, ↓r_gSlL, ↓r_ix_str, ↓r_dget2, ↓is_non_int, ↓is_non_bool, ↓is_non_str, ↓is_non_list, ↓is_non_tuple, ↓is_non_dict, ↓is_non_cls, ↓is_bl_int, ↓is_bl_bool, ↓is_bl_str, ↓is_bl_list, ↓is_bl_tuple, ↓is_bl_dict, ↓is_bl_cls, ↓is_int_int, ↓is_int_bool, ↓is_int_str, ↓is_int_list, ↓is_int_tuple, ↓is_int_dict, ↓is_int_cls, ↓is_str_int, ↓is_str_bool, ↓is_str_str, ↓is_str_list, ↓is_str_tuple, ↓is_str_dict, ↓is_str_cls, ↓is_lst_int, ↓is_lst_bool, ↓is_lst_str, ↓is_lst_list, ↓is_lst_tuple, ↓is_lst_dict, ↓is_lst_cls, ↓is_tup_int, ↓is_tup_bool, ↓is_tup_str, ↓is_tup_list, ↓is_tup_tuple, ↓is_tup_dict, ↓is_tup_cls, ↓is_dic_int, ↓is_dic_bool, ↓is_dic_str, ↓is_dic_list, ↓is_dic_tuple, ↓is_dic_dict, ↓is_dic_cls, ↓is_obj_int, ↓is_obj_bool, ↓is_obj_str, ↓is_obj_list, ↓is_obj_tuple, ↓is_obj_dict, ↓is_obj_cls,
  opt_some, opt_ite, opt_ite2, rs_ok, List.getElem?_cons_zero, List.getElem?_cons_succ, List.set_cons_zero, List.set_cons_succ, lstIn_lst, objIn_obj, objOf_dat, objOf_loc, two?, three?, datOf, locIx, intOf, intL, lstD, tupD, blOf, wipeP,
  pAdd_int, pAdd_str, pSub, pMul, pMod, pDiv, pLt, pLe, pGt, pGe, pInt, pAbs, pMax, pMin, pDivmod, tru_bl, tru_int, tru_non, dats, Option.map_some, decide_eq_true_eq, atI0, atI1, atI2, ixN0, ixN1, pEqF_int, pEqT_int, pEqF_str, pEqT_str, p10_4, p10_5, p10_9, p10_10, p10_18, p10_19, p10_29, p10_30, List.length_cons, List.length_nil, true_and, and_true, Bool.not_true, Bool.not_false, if_true, if_false, Bool.false_eq_true, Bool.not_eq_true', decide_eq_false_iff_not, bne_iff_ne, ne_eq, Int.reduceEq, Int.reduceLT, Int.reduceLE, Int.reduceGT, Int.reduceNeg, not_false_eq_true, not_true_eq_false, decide_true, decide_false, eq_self, and_self, sizeLine_eq, Nat.reduceAdd, Nat.reduceLeDiff, Nat.reduceLT, Nat.reduceEqDiff, List.cons_append, List.nil_append, lst1_is, strD, dicD, dicOf_dat, keyOf_str, keyOf_int, kpairs, pKey, pIsN_non, pNotN_non, pIsN_dic, pNotN_dic, pInS_str, seqOf_lst, seqOf_tup, strsOf, strKeys, keyP, List.map_cons, List.map_nil, Option.bind_some, Nat.reduceBEq, ct0, ct1, Bool.true_eq_false, Int.natCast_one, Int.natCast_zero, Int.cast_ofNat_Int, hS, lst_last]
    refine m_near J2.f hq fun q' S3 hq' J3 => ?_
    have hS3 : S3[S.length]? = some (.lst ((ps ++ [q]).map pairP)) := by rw [J3.off _ ne]; exact hS
    have hsz : ((ps ++ [q]).map pairP).length < 16777216 := by simp at hl ⊢; omega
    have fin : ∀ z, G 100 z → LA n S.length r [some (.loc n), some (.loc S.length), some (.dat (.int (i : Int))), some (.dat (pairP q')), o4, o5, o6, o7, o8, o9, o10] (S3.set S.length (.lst ((ps ++ [q]).map pairP ++ [pairP z]))) := by
      intro z hz
      refine ⟨⟨_, _, _, _, _, _, _, _, _, ps ++ [q], z, rfl, ?_, ?_, ?_⟩, J3.jar.other ne, ne, it'⟩
      · rw [List.getElem?_set_self (List.getElem?_eq_some_iff.mp hS3).1]
        simp
      · intro p hp
        rcases List.mem_append.mp hp with hp | hp
        · exact hG p hp
        · simp at hp
          rw [hp]
          exact hz
      · simp at hl ⊢
        omega
    simp -dsimp only [↓r_var, ↓r_K, ↓r_aNil, ↓r_aCons, ↓r_op, ↓r_dat, ↓r_tup, ↓r_lst, ↓r_lstM, ↓r_call, ↓r_cm, ↓r_un, ↓r_negI, ↓r_if, ↓r_val, ↓r_and, ↓r_or, ↓r_not, ↓r_yes, ↓r_andV, ↓r_orV, ↓r_notV, ↓r_fld, ↓r_meth, ↓r_prop, ↓r_ix_lst, ↓r_ix_tup, ↓r_ix_loc, ↓r_len_lst, ↓r_len_tup, ↓r_fm1, ↓r_fm2, ↓r_all, ↓r_app, ↓r_ext, ↓o_seq, ↓o_nil, ↓o_ret, ↓o_set, ↓o_expr, ↓o_if, ↓o_bad, ↓o_par, ↓o_par3, ↓o_asg, ↓o_gNm, ↓o_gTp, ↓o_gsNil, ↓o_gsCons, ↓o_gSb, ↓o_retF, ↓o_fld, ↓o_for, ↓r_iSeq, ↓r_iTpl, ↓r_iRg, ↓r_lc, ↓o_frz, ↓r_iEnm, ↓r_reprB_bl, ↓r_reprB_lst, ↓r_chain, ↓r_iStrM, ↓r_iKeysD, ↓r_iItemsD, ↓r_gDGet, ↓r_gDIn, ↓r_pairs0, ↓r_pairs1, ↓r_disp, ↓r_dc, ↓dcL_nil, ↓r_sortD, ↓r_sortL, ↓r_dictD, ↓r_dictL, ↓r_listD, ↓r_listL, ↓r_listT, ↓r_lenDd, ↓r_len_str, ↓r_jn, ↓r_sl, ↓r_pNone, ↓r_pSome, ↓r_gSlS, ↓r_gSlL, ↓r_ix_str, ↓r_dget2, ↓is_non_int, ↓is_non_bool, ↓is_non_str, ↓is_non_list, ↓is_non_tuple, ↓is_non_dict, ↓is_non_cls, ↓is_bl_int, ↓is_bl_bool, ↓is_bl_str, ↓is_bl_list, ↓is_bl_tuple, ↓is_bl_dict, ↓is_bl_cls, ↓is_int_int, ↓is_int_bool, ↓is_int_str, ↓is_int_list, ↓is_int_tuple, ↓is_int_dict, ↓is_int_cls, ↓is_str_int, ↓is_str_bool, ↓is_str_str, ↓is_str_list, ↓is_str_tuple, ↓is_str_dict, ↓is_str_cls, ↓is_lst_int, ↓is_lst_bool, ↓is_lst_str, ↓is_lst_list, ↓is_lst_tuple, ↓is_lst_dict, ↓is_lst_cls, ↓is_tup_int, ↓is_tup_bool, ↓is_tup_str, ↓is_tup_list, ↓is_tup_tuple, ↓is_tup_dict, ↓is_tup_cls, ↓is_dic_int, ↓is_dic_bool, ↓is_dic_str, ↓is_dic_list, ↓is_dic_tuple, ↓is_dic_dict, ↓is_dic_cls, ↓is_obj_int, ↓is_obj_bool, ↓is_obj_str, ↓is_obj_list, ↓is_obj_tuple, ↓is_obj_dict, ↓is_obj_cls,
  opt_some, opt_ite, opt_ite2, rs_ok, List.getElem?_cons_zero, List.getElem?_cons_succ, List.set_cons_zero, List.set_cons_succ, lstIn_lst, objIn_obj, objOf_dat, objOf_loc, two?, three?, datOf, locIx, intOf, intL, lstD, tupD, blOf, wipeP,
  pAdd_int, pAdd_str, pSub, pMul, pMod, pDiv, pLt, pLe, pGt, pGe, pInt, pAbs, pMax, pMin, pDivmod, tru_bl, tru_int, tru_non, dats, Option.map_some, decide_eq_true_eq, atI0, atI1, atI2, ixN0, ixN1, pEqF_int, pEqT_int, pEqF_str, pEqT_str, p10_4, p10_5, p10_9, p10_10, p10_18, p10_19, p10_29, p10_30, List.length_cons, List.length_nil, true_and, and_true, Bool.not_true, Bool.not_false, if_true, if_false, Bool.false_eq_true, Bool.not_eq_true', decide_eq_false_iff_not, bne_iff_ne, ne_eq, Int.reduceEq, Int.reduceLT, Int.reduceLE, Int.reduceGT, Int.reduceNeg, not_false_eq_true, not_true_eq_false, decide_true, decide_false, eq_self, and_self, sizeLine_eq, Nat.reduceAdd, Nat.reduceLeDiff, Nat.reduceLT, Nat.reduceEqDiff, List.cons_append, List.nil_append, lst1_is, strD, dicD, dicOf_dat, keyOf_str, keyOf_int, kpairs, pKey, pIsN_non, pNotN_non, pIsN_dic, pNotN_dic, pInS_str, seqOf_lst, seqOf_tup, strsOf, strKeys, keyP, List.map_cons, List.map_nil, Option.bind_some, Nat.reduceBEq, ct0, ct1, Bool.true_eq_false, Int.natCast_one, Int.natCast_zero, Int.cast_ofNat_Int, hS3, hsz, ↓ix_p0, ↓ix_p1, tp]
    have hpos := hq'.nf.pos
    repeat' split
    all_goals first
      | exact fin q' ⟨hq'.nf, bd100 (by omega) (by omega), bd100 (by omega) (by omega)⟩
      | exact fin (i, 1) (.int (bd_small (by omega) (by omega) (by decide)) (by decide))
  · subst e1
    have hlen : (ps ++ [q]).length = 6 := by simp at hl ⊢; omega
    generalize hpl : ps ++ [q] = pl at hS hG hlen
    have J3 : Jar n (S2.set S.length .dead) := J2.other ne
    have hsz : pl.length ≤ 16777216 := by omega
    simp -dsimp only [↓r_var, ↓r_K, ↓r_aNil, ↓r_aCons, ↓r_op, ↓r_dat, ↓r_tup, ↓r_lst, ↓r_lstM, ↓r_call, ↓r_cm, ↓r_un, ↓r_negI, ↓r_if, ↓r_val, ↓r_and, ↓r_or, ↓r_not, ↓r_yes, ↓r_andV, ↓r_orV, ↓r_notV, ↓r_fld, ↓r_meth, ↓r_prop, ↓r_ix_lst, ↓r_ix_tup, ↓r_ix_loc, ↓r_len_lst, ↓r_len_tup, ↓r_fm1, ↓r_fm2, ↓r_all, ↓r_app, ↓r_ext, ↓o_seq, ↓o_nil, ↓o_ret, ↓o_set, ↓o_expr, ↓o_if, ↓o_bad, ↓o_par, ↓o_par3, ↓o_asg, ↓o_gNm, ↓o_gTp, ↓o_gsNil, ↓o_gsCons, ↓o_gSb, ↓o_retF, ↓o_fld, ↓o_for, ↓r_iSeq, ↓r_iTpl, ↓r_iRg, ↓r_lc, ↓o_frz, ↓r_iEnm, ↓r_reprB_bl, ↓r_reprB_lst, ↓r_chain, ↓r_iStrM, ↓r_iKeysD, ↓r_iItemsD, ↓r_gDGet, ↓r_gDIn, ↓r_pairs0, ↓r_pairs1, ↓r_disp, ↓r_dc, ↓dcL_nil, ↓r_sortD, ↓r_sortL, ↓r_dictD, ↓r_dictL, ↓r_listD, ↓r_listL, ↓r_listT, ↓r_lenDd, ↓r_len_str, ↓r_jn, ↓r_sl, ↓r_pNone, ↓r_pSome, ↓r_gSlS, ↓r_gSlL, ↓r_ix_str, ↓r_dget2, ↓is_non_int, ↓is_non_bool, ↓is_non_str, ↓is_non_list, ↓is_non_tuple, ↓is_non_dict, ↓is_non_cls, ↓is_bl_int, ↓is_bl_bool, ↓is_bl_str, ↓is_bl_list, ↓is_bl_tuple, ↓is_bl_dict, ↓is_bl_cls, ↓is_int_int, ↓is_int_bool, ↓is_int_str, ↓is_int_list, ↓is_int_tuple, ↓is_int_dict, ↓is_int_cls, ↓is_str_int, ↓is_str_bool, ↓is_str_str, ↓is_str_list, ↓is_str_tuple, ↓is_str_dict, ↓is_str_cls, ↓is_lst_int, ↓is_lst_bool, ↓is_lst_str, ↓is_lst_list, ↓is_lst_tuple, ↓is_lst_dict, ↓is_lst_cls, ↓is_tup_int, ↓is_tup_bool, ↓is_tup_str, ↓is_tup_list, ↓is_tup_tuple, ↓is_tup_dict, ↓is_tup_cls, ↓is_dic_int, ↓is_dic_bool, ↓is_dic_str, ↓is_dic_list, ↓is_dic_tuple, ↓is_dic_dict, ↓is_dic_cls, ↓is_obj_int, ↓is_obj_bool, ↓is_obj_str, ↓is_obj_list, ↓is_obj_tuple, ↓is_obj_dict, ↓is_obj_cls,
  opt_some, opt_ite, opt_ite2, rs_ok, List.getElem?_cons_zero, List.getElem?_cons_succ, List.set_cons_zero, List.set_cons_succ, lstIn_lst, objIn_obj, objOf_dat, objOf_loc, two?, three?, datOf, locIx, intOf, intL, lstD, tupD, blOf, wipeP,
  pAdd_int, pAdd_str, pSub, pMul, pMod, pDiv, pLt, pLe, pGt, pGe, pInt, pAbs, pMax, pMin, pDivmod, tru_bl, tru_int, tru_non, dats, Option.map_some, decide_eq_true_eq, atI0, atI1, atI2, ixN0, ixN1, pEqF_int, pEqT_int, pEqF_str, pEqT_str, p10_4, p10_5, p10_9, p10_10, p10_18, p10_19, p10_29, p10_30, List.length_cons, List.length_nil, true_and, and_true, Bool.not_true, Bool.not_false, if_true, if_false, Bool.false_eq_true, Bool.not_eq_true', decide_eq_false_iff_not, bne_iff_ne, ne_eq, Int.reduceEq, Int.reduceLT, Int.reduceLE, Int.reduceGT, Int.reduceNeg, not_false_eq_true, not_true_eq_false, decide_true, decide_false, eq_self, and_self, sizeLine_eq, Nat.reduceAdd, Nat.reduceLeDiff, Nat.reduceLT, Nat.reduceEqDiff, List.cons_append, List.nil_append, lst1_is, strD, dicD, dicOf_dat, keyOf_str, keyOf_int, kpairs, pKey, pIsN_non, pNotN_non, pIsN_dic, pNotN_dic, pInS_str, seqOf_lst, seqOf_tup, strsOf, strKeys, keyP, List.map_cons, List.map_nil, Option.bind_some, Nat.reduceBEq, ct0, ct1, Bool.true_eq_false, Int.natCast_one, Int.natCast_zero, Int.cast_ofNat_Int, slot1, lstAt_loc hS, List.length_map, hsz]
    refine lcL_J (Jar n) pairP ratP pl J3 (fun p hp S J => ?_) (fun S4 J4 => ?_)
    · walk_at "dl"
      refine m_made J.f (hG p hp) fun S' J' => ?_
      walk_at "dl"
      exact J'.jar
    · walk_at "dl"
      refine forL_inv (LB n pl) ⟨⟨_, _, _, _, _, _, _, _, 0, rfl, rfl⟩, J4⟩ (fun x r ρ S5 ⟨⟨o2, o3, o5, o6, o7, o8, o9, o10, k, e1, e2⟩, J5⟩ => ?_) (fun ρ S5 ⟨⟨o2, o3, o5, o6, o7, o8, o9, o10, k, e1, e2⟩, J5⟩ => ?_)
      · obtain ⟨hk, rfl, e3⟩ := en_at e2
        subst e1
        have hp := hG _ (List.getElem_mem hk)
        have c1 : cutP (pl.map ratP) none (some (k : Int)) = (pl.take k).map ratP := by
          rw [cut_take (by rw [List.length_map]; omega), List.map_take]
        have c2 : cutP (pl.map pairP) none (some (k : Int)) = (pl.take k).map pairP := by
          rw [cut_take (by rw [List.length_map]; omega), List.map_take]
        simp -dsimp only [↓r_var, ↓r_K, ↓r_aNil, ↓r_aCons, ↓r_op, ↓r_dat, ↓r_tup, ↓r_lst, ↓r_lstM, ↓r_call, ↓r_cm, ↓r_un, ↓r_negI, ↓r_if, ↓r_val, ↓r_and, ↓r_or, ↓r_not, ↓r_yes, ↓r_andV, ↓r_orV, ↓r_notV, ↓r_fld, ↓r_meth, ↓r_prop, ↓r_ix_lst, ↓r_ix_tup, ↓r_ix_loc, ↓r_len_lst, ↓r_len_tup, ↓r_fm1, ↓r_fm2, ↓r_all, ↓r_app, ↓r_ext, ↓o_seq, ↓o_nil, ↓o_ret, ↓o_set, ↓o_expr, ↓o_if, ↓o_bad, ↓o_par, ↓o_par3, ↓o_asg, ↓o_gNm, ↓o_gTp, ↓o_gsNil, ↓o_gsCons, ↓o_gSb, ↓o_retF, ↓o_fld, ↓o_for, ↓r_iSeq, ↓r_iTpl, ↓r_iRg, ↓r_lc, ↓o_frz, ↓r_iEnm, ↓r_reprB_bl, ↓r_reprB_lst, ↓r_chain, ↓r_iStrM, ↓r_iKeysD, ↓r_iItemsD, ↓r_gDGet, ↓r_gDIn, ↓r_pairs0, ↓r_pairs1, ↓r_disp, ↓r_dc, ↓dcL_nil, ↓r_sortD, ↓r_sortL, ↓r_dictD, ↓r_dictL, ↓r_listD, ↓r_listL, ↓r_listT, ↓r_lenDd, ↓r_len_str, ↓r_jn, ↓r_sl, ↓r_pNone, ↓r_pSome, ↓r_gSlS, ↓r_gSlL, ↓r_ix_str, ↓r_dget2, ↓is_non_int, ↓is_non_bool, ↓is_non_str, ↓is_non_list, ↓is_non_tuple, ↓is_non_dict, ↓is_non_cls, ↓is_bl_int, ↓is_bl_bool, ↓is_bl_str, ↓is_bl_list, ↓is_bl_tuple, ↓is_bl_dict, ↓is_bl_cls, ↓is_int_int, ↓is_int_bool, ↓is_int_str, ↓is_int_list, ↓is_int_tuple, ↓is_int_dict, ↓is_int_cls, ↓is_str_int, ↓is_str_bool, ↓is_str_str, ↓is_str_list, ↓is_str_tuple, ↓is_str_dict, ↓is_str_cls, ↓is_lst_int, ↓is_lst_bool, ↓is_lst_str, ↓is_lst_list, ↓is_lst_tuple, ↓is_lst_dict, ↓is_lst_cls, ↓is_tup_int, ↓is_tup_bool, ↓is_tup_str, ↓is_tup_list, ↓is_tup_tuple, ↓is_tup_dict, ↓is_tup_cls, ↓is_dic_int, ↓is_dic_bool, ↓is_dic_str, ↓is_dic_list, ↓is_dic_tuple, ↓is_dic_dict, ↓is_dic_cls, ↓is_obj_int, ↓is_obj_bool, ↓is_obj_str, ↓is_obj_list, ↓is_obj_tuple, ↓is_obj_dict, ↓is_obj_cls,
  opt_some, opt_ite, opt_ite2, rs_ok, List.getElem?_cons_zero, List.getElem?_cons_succ, List.set_cons_zero, List.set_cons_succ, lstIn_lst, objIn_obj, objOf_dat, objOf_loc, two?, three?, datOf, locIx, intOf, intL, lstD, tupD, blOf, wipeP,
  pAdd_int, pAdd_str, pSub, pMul, pMod, pDiv, pLt, pLe, pGt, pGe, pInt, pAbs, pMax, pMin, pDivmod, tru_bl, tru_int, tru_non, dats, Option.map_some, decide_eq_true_eq, atI0, atI1, atI2, ixN0, ixN1, pEqF_int, pEqT_int, pEqF_str, pEqT_str, p10_4, p10_5, p10_9, p10_10, p10_18, p10_19, p10_29, p10_30, List.length_cons, List.length_nil, true_and, and_true, Bool.not_true, Bool.not_false, if_true, if_false, Bool.false_eq_true, Bool.not_eq_true', decide_eq_false_iff_not, bne_iff_ne, ne_eq, Int.reduceEq, Int.reduceLT, Int.reduceLE, Int.reduceGT, Int.reduceNeg, not_false_eq_true, not_true_eq_false, decide_true, decide_false, eq_self, and_self, sizeLine_eq, Nat.reduceAdd, Nat.reduceLeDiff, Nat.reduceLT, Nat.reduceEqDiff, List.cons_append, List.nil_append, lst1_is, strD, dicD, dicOf_dat, keyOf_str, keyOf_int, kpairs, pKey, pIsN_non, pNotN_non, pIsN_dic, pNotN_dic, pInS_str, seqOf_lst, seqOf_tup, strsOf, strKeys, keyP, List.map_cons, List.map_nil, Option.bind_some, Nat.reduceBEq, ct0, ct1, Bool.true_eq_false, Int.natCast_one, Int.natCast_zero, Int.cast_ofNat_Int, at_p hk]
        refine m_whole J5.f hp fun S6 J6 => ?_
        simp -dsimp only [↓r_var, ↓r_K, ↓r_aNil, ↓r_aCons, ↓r_op, ↓r_dat, ↓r_tup, ↓r_lst, ↓r_lstM, ↓r_call, ↓r_cm, ↓r_un, ↓r_negI, ↓r_if, ↓r_val, ↓r_and, ↓r_or, ↓r_not, ↓r_yes, ↓r_andV, ↓r_orV, ↓r_notV, ↓r_fld, ↓r_meth, ↓r_prop, ↓r_ix_lst, ↓r_ix_tup, ↓r_ix_loc, ↓r_len_lst, ↓r_len_tup, ↓r_fm1, ↓r_fm2, ↓r_all, ↓r_app, ↓r_ext, ↓o_seq, ↓o_nil, ↓o_ret, ↓o_set, ↓o_expr, ↓o_if, ↓o_bad, ↓o_par, ↓o_par3, ↓o_asg, ↓o_gNm, ↓o_gTp, ↓o_gsNil, ↓o_gsCons, ↓o_gSb, ↓o_retF, ↓o_fld, ↓o_for, ↓r_iSeq, ↓r_iTpl, ↓r_iRg, ↓r_lc, ↓o_frz, ↓r_iEnm, ↓r_reprB_bl, ↓r_reprB_lst, ↓r_chain, ↓r_iStrM, ↓r_iKeysD, ↓r_iItemsD, ↓r_gDGet, ↓r_gDIn, ↓r_pairs0, ↓r_pairs1, ↓r_disp, ↓r_dc, ↓dcL_nil, ↓r_sortD, ↓r_sortL, ↓r_dictD, ↓r_dictL, ↓r_listD, ↓r_listL, ↓r_listT, ↓r_lenDd, ↓r_len_str, ↓r_jn, ↓r_sl, ↓r_pNone, ↓r_pSome, ↓r_gSlS, ↓r_gSlL, ↓r_ix_str, ↓r_dget2, ↓is_non_int, ↓is_non_bool, ↓is_non_str, ↓is_non_list, ↓is_non_tuple, ↓is_non_dict, ↓is_non_cls, ↓is_bl_int, ↓is_bl_bool, ↓is_bl_str, ↓is_bl_list, ↓is_bl_tuple, ↓is_bl_dict, ↓is_bl_cls, ↓is_int_int, ↓is_int_bool, ↓is_int_str, ↓is_int_list, ↓is_int_tuple, ↓is_int_dict, ↓is_int_cls, ↓is_str_int, ↓is_str_bool, ↓is_str_str, ↓is_str_list, ↓is_str_tuple, ↓is_str_dict, ↓is_str_cls, ↓is_lst_int, ↓is_lst_bool, ↓is_lst_str, ↓is_lst_list, ↓is_lst_tuple, ↓is_lst_dict, ↓is_lst_cls, ↓is_tup_int, ↓is_tup_bool, ↓is_tup_str, ↓is_tup_list, ↓is_tup_tuple, ↓is_tup_dict, ↓is_tup_cls, ↓is_dic_int, ↓is_dic_bool, ↓is_dic_str, ↓is_dic_list, ↓is_dic_tuple, ↓is_dic_dict, ↓is_dic_cls, ↓is_obj_int, ↓is_obj_bool, ↓is_obj_str, ↓is_obj_list, ↓is_obj_tuple, ↓is_obj_dict, ↓is_obj_cls,
  opt_some, opt_ite, opt_ite2, rs_ok, List.getElem?_cons_zero, List.getElem?_cons_succ, List.set_cons_zero, List.set_cons_succ, lstIn_lst, objIn_obj, objOf_dat, objOf_loc, two?, three?, datOf, locIx, intOf, intL, lstD, tupD, blOf, wipeP,
  pAdd_int, pAdd_str, pSub, pMul, pMod, pDiv, pLt, pLe, pGt, pGe, pInt, pAbs, pMax, pMin, pDivmod, tru_bl, tru_int, tru_non, dats, Option.map_some, decide_eq_true_eq, atI0, atI1, atI2, ixN0, ixN1, pEqF_int, pEqT_int, pEqF_str, pEqT_str, p10_4, p10_5, p10_9, p10_10, p10_18, p10_19, p10_29, p10_30, List.length_cons, List.length_nil, true_and, and_true, Bool.not_true, Bool.not_false, if_true, if_false, Bool.false_eq_true, Bool.not_eq_true', decide_eq_false_iff_not, bne_iff_ne, ne_eq, Int.reduceEq, Int.reduceLT, Int.reduceLE, Int.reduceGT, Int.reduceNeg, not_false_eq_true, not_true_eq_false, decide_true, decide_false, eq_self, and_self, sizeLine_eq, Nat.reduceAdd, Nat.reduceLeDiff, Nat.reduceLT, Nat.reduceEqDiff, List.cons_append, List.nil_append, lst1_is, strD, dicD, dicOf_dat, keyOf_str, keyOf_int, kpairs, pKey, pIsN_non, pNotN_non, pIsN_dic, pNotN_dic, pInS_str, seqOf_lst, seqOf_tup, strsOf, strKeys, keyP, List.map_cons, List.map_nil, Option.bind_some, Nat.reduceBEq, ct0, ct1, Bool.true_eq_false, Int.natCast_one, Int.natCast_zero, Int.cast_ofNat_Int, at_p hk, c1, c2, inO_rats, pInD_pairs, List.length_map, tn, rng_len, hsz]
        refine ⟨by omega, ?_⟩
        rw [rng_map]
        refine lcL_of _ (fun _ => .bl true) _ (fun j hj => ?_) ?_
        · have hj' := List.mem_range.mp hj
          simp -dsimp only [↓r_var, ↓r_K, ↓r_aNil, ↓r_aCons, ↓r_op, ↓r_dat, ↓r_tup, ↓r_lst, ↓r_lstM, ↓r_call, ↓r_cm, ↓r_un, ↓r_negI, ↓r_if, ↓r_val, ↓r_and, ↓r_or, ↓r_not, ↓r_yes, ↓r_andV, ↓r_orV, ↓r_notV, ↓r_fld, ↓r_meth, ↓r_prop, ↓r_ix_lst, ↓r_ix_tup, ↓r_ix_loc, ↓r_len_lst, ↓r_len_tup, ↓r_fm1, ↓r_fm2, ↓r_all, ↓r_app, ↓r_ext, ↓o_seq, ↓o_nil, ↓o_ret, ↓o_set, ↓o_expr, ↓o_if, ↓o_bad, ↓o_par, ↓o_par3, ↓o_asg, ↓o_gNm, ↓o_gTp, ↓o_gsNil, ↓o_gsCons, ↓o_gSb, ↓o_retF, ↓o_fld, ↓o_for, ↓r_iSeq, ↓r_iTpl, ↓r_iRg, ↓r_lc, ↓o_frz, ↓r_iEnm, ↓r_reprB_bl, ↓r_reprB_lst, ↓r_chain, ↓r_iStrM, ↓r_iKeysD, ↓r_iItemsD, ↓r_gDGet, ↓r_gDIn, ↓r_pairs0, ↓r_pairs1, ↓r_disp, ↓r_dc, ↓dcL_nil, ↓r_sortD, ↓r_sortL, ↓r_dictD, ↓r_dictL, ↓r_listD, ↓r_listL, ↓r_listT, ↓r_lenDd, ↓r_len_str, ↓r_jn, ↓r_sl, ↓r_pNone, ↓r_pSome, ↓r_gSlS, ↓r_gSlL, ↓r_ix_str, ↓r_dget2, ↓is_non_int, ↓is_non_bool, ↓is_non_str, ↓is_non_list, ↓is_non_tuple, ↓is_non_dict, ↓is_non_cls, ↓is_bl_int, ↓is_bl_bool, ↓is_bl_str, ↓is_bl_list, ↓is_bl_tuple, ↓is_bl_dict, ↓is_bl_cls, ↓is_int_int, ↓is_int_bool, ↓is_int_str, ↓is_int_list, ↓is_int_tuple, ↓is_int_dict, ↓is_int_cls, ↓is_str_int, ↓is_str_bool, ↓is_str_str, ↓is_str_list, ↓is_str_tuple, ↓is_str_dict, ↓is_str_cls, ↓is_lst_int, ↓is_lst_bool, ↓is_lst_str, ↓is_lst_list, ↓is_lst_tuple, ↓is_lst_dict, ↓is_lst_cls, ↓is_tup_int, ↓is_tup_bool, ↓is_tup_str, ↓is_tup_list, ↓is_tup_tuple, ↓is_tup_dict, ↓is_tup_cls, ↓is_dic_int, ↓is_dic_bool, ↓is_dic_str, ↓is_dic_list, ↓is_dic_tuple, ↓is_dic_dict, ↓is_dic_cls, ↓is_obj_int, ↓is_obj_bool, ↓is_obj_str, ↓is_obj_list, ↓is_obj_tuple, ↓is_obj_dict, ↓is_obj_cls,
  opt_some, opt_ite, opt_ite2, rs_ok, List.getElem?_cons_zero, List.getElem?_cons_succ, List.set_cons_zero, List.set_cons_succ, lstIn_lst, objIn_obj, objOf_dat, objOf_loc, two?, three?, datOf, locIx, intOf, intL, lstD, tupD, blOf, wipeP,
  pAdd_int, pAdd_str, pSub, pMul, pMod, pDiv, pLt, pLe, pGt, pGe, pInt, pAbs, pMax, pMin, pDivmod, tru_bl, tru_int, tru_non, dats, Option.map_some, decide_eq_true_eq, atI0, atI1, atI2, ixN0, ixN1, pEqF_int, pEqT_int, pEqF_str, pEqT_str, p10_4, p10_5, p10_9, p10_10, p10_18, p10_19, p10_29, p10_30, List.length_cons, List.length_nil, true_and, and_true, Bool.not_true, Bool.not_false, if_true, if_false, Bool.false_eq_true, Bool.not_eq_true', decide_eq_false_iff_not, bne_iff_ne, ne_eq, Int.reduceEq, Int.reduceLT, Int.reduceLE, Int.reduceGT, Int.reduceNeg, not_false_eq_true, not_true_eq_false, decide_true, decide_false, eq_self, and_self, sizeLine_eq, Nat.reduceAdd, Nat.reduceLeDiff, Nat.reduceLT, Nat.reduceEqDiff, List.cons_append, List.nil_append, lst1_is, strD, dicD, dicOf_dat, keyOf_str, keyOf_int, kpairs, pKey, pIsN_non, pNotN_non, pIsN_dic, pNotN_dic, pInS_str, seqOf_lst, seqOf_tup, strsOf, strKeys, keyP, List.map_cons, List.map_nil, Option.bind_some, Nat.reduceBEq, ct0, ct1, Bool.true_eq_false, Int.natCast_one, Int.natCast_zero, Int.cast_ofNat_Int, at_p hk, at_p hj', at_r hj', e_two hp (hG _ (List.getElem_mem hj'))]
        · simp -dsimp only [↓r_var, ↓r_K, ↓r_aNil, ↓r_aCons, ↓r_op, ↓r_dat, ↓r_tup, ↓r_lst, ↓r_lstM, ↓r_call, ↓r_cm, ↓r_un, ↓r_negI, ↓r_if, ↓r_val, ↓r_and, ↓r_or, ↓r_not, ↓r_yes, ↓r_andV, ↓r_orV, ↓r_notV, ↓r_fld, ↓r_meth, ↓r_prop, ↓r_ix_lst, ↓r_ix_tup, ↓r_ix_loc, ↓r_len_lst, ↓r_len_tup, ↓r_fm1, ↓r_fm2, ↓r_all, ↓r_app, ↓r_ext, ↓o_seq, ↓o_nil, ↓o_ret, ↓o_set, ↓o_expr, ↓o_if, ↓o_bad, ↓o_par, ↓o_par3, ↓o_asg, ↓o_gNm, ↓o_gTp, ↓o_gsNil, ↓o_gsCons, ↓o_gSb, ↓o_retF, ↓o_fld, ↓o_for, ↓r_iSeq, ↓r_iTpl, ↓r_iRg, ↓r_lc, ↓o_frz, ↓r_iEnm, ↓r_reprB_bl, ↓r_reprB_lst, ↓r_chain, ↓r_iStrM, ↓r_iKeysD, ↓r_iItemsD, ↓r_gDGet, ↓r_gDIn, ↓r_pairs0, ↓r_pairs1, ↓r_disp, ↓r_dc, ↓dcL_nil, ↓r_sortD, ↓r_sortL, ↓r_dictD, ↓r_dictL, ↓r_listD, ↓r_listL, ↓r_listT, ↓r_lenDd, ↓r_len_str, ↓r_jn, ↓r_sl, ↓r_pNone, ↓r_pSome, ↓r_gSlS, ↓r_gSlL, ↓r_ix_str, ↓r_dget2, ↓is_non_int, ↓is_non_bool, ↓is_non_str, ↓is_non_list, ↓is_non_tuple, ↓is_non_dict, ↓is_non_cls, ↓is_bl_int, ↓is_bl_bool, ↓is_bl_str, ↓is_bl_list, ↓is_bl_tuple, ↓is_bl_dict, ↓is_bl_cls, ↓is_int_int, ↓is_int_bool, ↓is_int_str, ↓is_int_list, ↓is_int_tuple, ↓is_int_dict, ↓is_int_cls, ↓is_str_int, ↓is_str_bool, ↓is_str_str, ↓is_str_list, ↓is_str_tuple, ↓is_str_dict, ↓is_str_cls, ↓is_lst_int, ↓is_lst_bool, ↓is_lst_str, ↓is_lst_list, ↓is_lst_tuple, ↓is_lst_dict, ↓is_lst_cls, ↓is_tup_int, ↓is_tup_bool, ↓is_tup_str, ↓is_tup_list, ↓is_tup_tuple, ↓is_tup_dict, ↓is_tup_cls, ↓is_dic_int, ↓is_dic_bool, ↓is_dic_str, ↓is_dic_list, ↓is_dic_tuple, ↓is_dic_dict, ↓is_dic_cls, ↓is_obj_int, ↓is_obj_bool, ↓is_obj_str, ↓is_obj_list, ↓is_obj_tuple, ↓is_obj_dict, ↓is_obj_cls,
  opt_some, opt_ite, opt_ite2, rs_ok, List.getElem?_cons_zero, List.getElem?_cons_succ, List.set_cons_zero, List.set_cons_succ, lstIn_lst, objIn_obj, objOf_dat, objOf_loc, two?, three?, datOf, locIx, intOf, intL, lstD, tupD, blOf, wipeP,
  pAdd_int, pAdd_str, pSub, pMul, pMod, pDiv, pLt, pLe, pGt, pGe, pInt, pAbs, pMax, pMin, pDivmod, tru_bl, tru_int, tru_non, dats, Option.map_some, decide_eq_true_eq, atI0, atI1, atI2, ixN0, ixN1, pEqF_int, pEqT_int, pEqF_str, pEqT_str, p10_4, p10_5, p10_9, p10_10, p10_18, p10_19, p10_29, p10_30, List.length_cons, List.length_nil, true_and, and_true, Bool.not_true, Bool.not_false, if_true, if_false, Bool.false_eq_true, Bool.not_eq_true', decide_eq_false_iff_not, bne_iff_ne, ne_eq, Int.reduceEq, Int.reduceLT, Int.reduceLE, Int.reduceGT, Int.reduceNeg, not_false_eq_true, not_true_eq_false, decide_true, decide_false, eq_self, and_self, sizeLine_eq, Nat.reduceAdd, Nat.reduceLeDiff, Nat.reduceLT, Nat.reduceEqDiff, List.cons_append, List.nil_append, lst1_is, strD, dicD, dicOf_dat, keyOf_str, keyOf_int, kpairs, pKey, pIsN_non, pNotN_non, pIsN_dic, pNotN_dic, pInS_str, seqOf_lst, seqOf_tup, strsOf, strKeys, keyP, List.map_cons, List.map_nil, Option.bind_some, Nat.reduceBEq, ct0, ct1, Bool.true_eq_false, Int.natCast_one, Int.natCast_zero, Int.cast_ofNat_Int, bls_rep, all_rep]
          exact ⟨⟨_, _, _, _, _, _, _, _, k + 1, rfl, e3⟩, J6.jar⟩
      · subst e1
        simp -dsimp only [↓r_var, ↓r_K, ↓r_aNil, ↓r_aCons, ↓r_op, ↓r_dat, ↓r_tup, ↓r_lst, ↓r_lstM, ↓r_call, ↓r_cm, ↓r_un, ↓r_negI, ↓r_if, ↓r_val, ↓r_and, ↓r_or, ↓r_not, ↓r_yes, ↓r_andV, ↓r_orV, ↓r_notV, ↓r_fld, ↓r_meth, ↓r_prop, ↓r_ix_lst, ↓r_ix_tup, ↓r_ix_loc, ↓r_len_lst, ↓r_len_tup, ↓r_fm1, ↓r_fm2, ↓r_all, ↓r_app, ↓r_ext, ↓o_seq, ↓o_nil, ↓o_ret, ↓o_set, ↓o_expr, ↓o_if, ↓o_bad, ↓o_par, ↓o_par3, ↓o_asg, ↓o_gNm, ↓o_gTp, ↓o_gsNil, ↓o_gsCons, ↓o_gSb, ↓o_retF, ↓o_fld, ↓o_for, ↓r_iSeq, ↓r_iTpl, ↓r_iRg, ↓r_lc, ↓o_frz, ↓r_iEnm, ↓r_reprB_bl, ↓r_reprB_lst, ↓r_chain, ↓r_iStrM, ↓r_iKeysD, ↓r_iItemsD, ↓r_gDGet, ↓r_gDIn, ↓r_pairs0, ↓r_pairs1, ↓r_disp, ↓r_dc, ↓dcL_nil, ↓r_sortD, ↓r_sortL, ↓r_dictD, ↓r_dictL, ↓r_listD, ↓r_listL, ↓r_listT, ↓r_lenDd, ↓r_len_str, ↓r_jn, ↓r_sl, ↓r_pNone, ↓r_pSome, ↓r_gSlS, ↓r_gSlL, ↓r_ix_str, ↓r_dget2, ↓is_non_int, ↓is_non_bool, ↓is_non_str, ↓is_non_list, ↓is_non_tuple, ↓is_non_dict, ↓is_non_cls, ↓is_bl_int, ↓is_bl_bool, ↓is_bl_str, ↓is_bl_list, ↓is_bl_tuple, ↓is_bl_dict, ↓is_bl_cls, ↓is_int_int, ↓is_int_bool, ↓is_int_str, ↓is_int_list, ↓is_int_tuple, ↓is_int_dict, ↓is_int_cls, ↓is_str_int, ↓is_str_bool, ↓is_str_str, ↓is_str_list, ↓is_str_tuple, ↓is_str_dict, ↓is_str_cls, ↓is_lst_int, ↓is_lst_bool, ↓is_lst_str, ↓is_lst_list, ↓is_lst_tuple, ↓is_lst_dict, ↓is_lst_cls, ↓is_tup_int, ↓is_tup_bool, ↓is_tup_str, ↓is_tup_list, ↓is_tup_tuple, ↓is_tup_dict, ↓is_tup_cls, ↓is_dic_int, ↓is_dic_bool, ↓is_dic_str, ↓is_dic_list, ↓is_dic_tuple, ↓is_dic_dict, ↓is_dic_cls, ↓is_obj_int, ↓is_obj_bool, ↓is_obj_str, ↓is_obj_list, ↓is_obj_tuple, ↓is_obj_dict, ↓is_obj_cls,
  opt_some, opt_ite, opt_ite2, rs_ok, List.getElem?_cons_zero, List.getElem?_cons_succ, List.set_cons_zero, List.set_cons_succ, lstIn_lst, objIn_obj, objOf_dat, objOf_loc, two?, three?, datOf, locIx, intOf, intL, lstD, tupD, blOf, wipeP,
  pAdd_int, pAdd_str, pSub, pMul, pMod, pDiv, pLt, pLe, pGt, pGe, pInt, pAbs, pMax, pMin, pDivmod, tru_bl, tru_int, tru_non, dats, Option.map_some, decide_eq_true_eq, atI0, atI1, atI2, ixN0, ixN1, pEqF_int, pEqT_int, pEqF_str, pEqT_str, p10_4, p10_5, p10_9, p10_10, p10_18, p10_19, p10_29, p10_30, List.length_cons, List.length_nil, true_and, and_true, Bool.not_true, Bool.not_false, if_true, if_false, Bool.false_eq_true, Bool.not_eq_true', decide_eq_false_iff_not, bne_iff_ne, ne_eq, Int.reduceEq, Int.reduceLT, Int.reduceLE, Int.reduceGT, Int.reduceNeg, not_false_eq_true, not_true_eq_false, decide_true, decide_false, eq_self, and_self, sizeLine_eq, Nat.reduceAdd, Nat.reduceLeDiff, Nat.reduceLT, Nat.reduceEqDiff, List.cons_append, List.nil_append, lst1_is, strD, dicD, dicOf_dat, keyOf_str, keyOf_int, kpairs, pKey, pIsN_non, pNotN_non, pIsN_dic, pNotN_dic, pInS_str, seqOf_lst, seqOf_tup, strsOf, strKeys, keyP, List.map_cons, List.map_nil, Option.bind_some, Nat.reduceBEq, ct0, ct1, Bool.true_eq_false, Int.natCast_one, Int.natCast_zero, Int.cast_ofNat_Int, List.length_map, hsz]
        refine lcL_of ratP (fun p => .int (cnt pl p)) pl (fun p hp => ?_) ?_
        · simp -dsimp only [↓r_var, ↓r_K, ↓r_aNil, ↓r_aCons, ↓r_op, ↓r_dat, ↓r_tup, ↓r_lst, ↓r_lstM, ↓r_call, ↓r_cm, ↓r_un, ↓r_negI, ↓r_if, ↓r_val, ↓r_and, ↓r_or, ↓r_not, ↓r_yes, ↓r_andV, ↓r_orV, ↓r_notV, ↓r_fld, ↓r_meth, ↓r_prop, ↓r_ix_lst, ↓r_ix_tup, ↓r_ix_loc, ↓r_len_lst, ↓r_len_tup, ↓r_fm1, ↓r_fm2, ↓r_all, ↓r_app, ↓r_ext, ↓o_seq, ↓o_nil, ↓o_ret, ↓o_set, ↓o_expr, ↓o_if, ↓o_bad, ↓o_par, ↓o_par3, ↓o_asg, ↓o_gNm, ↓o_gTp, ↓o_gsNil, ↓o_gsCons, ↓o_gSb, ↓o_retF, ↓o_fld, ↓o_for, ↓r_iSeq, ↓r_iTpl, ↓r_iRg, ↓r_lc, ↓o_frz, ↓r_iEnm, ↓r_reprB_bl, ↓r_reprB_lst, ↓r_chain, ↓r_iStrM, ↓r_iKeysD, ↓r_iItemsD, ↓r_gDGet, ↓r_gDIn, ↓r_pairs0, ↓r_pairs1, ↓r_disp, ↓r_dc, ↓dcL_nil, ↓r_sortD, ↓r_sortL, ↓r_dictD, ↓r_dictL, ↓r_listD, ↓r_listL, ↓r_listT, ↓r_lenDd, ↓r_len_str, ↓r_jn, ↓r_sl, ↓r_pNone, ↓r_pSome, ↓r_gSlS, ↓r_gSlL, ↓r_ix_str, ↓r_dget2, ↓is_non_int, ↓is_non_bool, ↓is_non_str, ↓is_non_list, ↓is_non_tuple, ↓is_non_dict, ↓is_non_cls, ↓is_bl_int, ↓is_bl_bool, ↓is_bl_str, ↓is_bl_list, ↓is_bl_tuple, ↓is_bl_dict, ↓is_bl_cls, ↓is_int_int, ↓is_int_bool, ↓is_int_str, ↓is_int_list, ↓is_int_tuple, ↓is_int_dict, ↓is_int_cls, ↓is_str_int, ↓is_str_bool, ↓is_str_str, ↓is_str_list, ↓is_str_tuple, ↓is_str_dict, ↓is_str_cls, ↓is_lst_int, ↓is_lst_bool, ↓is_lst_str, ↓is_lst_list, ↓is_lst_tuple, ↓is_lst_dict, ↓is_lst_cls, ↓is_tup_int, ↓is_tup_bool, ↓is_tup_str, ↓is_tup_list, ↓is_tup_tuple, ↓is_tup_dict, ↓is_tup_cls, ↓is_dic_int, ↓is_dic_bool, ↓is_dic_str, ↓is_dic_list, ↓is_dic_tuple, ↓is_dic_dict, ↓is_dic_cls, ↓is_obj_int, ↓is_obj_bool, ↓is_obj_str, ↓is_obj_list, ↓is_obj_tuple, ↓is_obj_dict, ↓is_obj_cls,
  opt_some, opt_ite, opt_ite2, rs_ok, List.getElem?_cons_zero, List.getElem?_cons_succ, List.set_cons_zero, List.set_cons_succ, lstIn_lst, objIn_obj, objOf_dat, objOf_loc, two?, three?, datOf, locIx, intOf, intL, lstD, tupD, blOf, wipeP,
  pAdd_int, pAdd_str, pSub, pMul, pMod, pDiv, pLt, pLe, pGt, pGe, pInt, pAbs, pMax, pMin, pDivmod, tru_bl, tru_int, tru_non, dats, Option.map_some, decide_eq_true_eq, atI0, atI1, atI2, ixN0, ixN1, pEqF_int, pEqT_int, pEqF_str, pEqT_str, p10_4, p10_5, p10_9, p10_10, p10_18, p10_19, p10_29, p10_30, List.length_cons, List.length_nil, true_and, and_true, Bool.not_true, Bool.not_false, if_true, if_false, Bool.false_eq_true, Bool.not_eq_true', decide_eq_false_iff_not, bne_iff_ne, ne_eq, Int.reduceEq, Int.reduceLT, Int.reduceLE, Int.reduceGT, Int.reduceNeg, not_false_eq_true, not_true_eq_false, decide_true, decide_false, eq_self, and_self, sizeLine_eq, Nat.reduceAdd, Nat.reduceLeDiff, Nat.reduceLT, Nat.reduceEqDiff, List.cons_append, List.nil_append, lst1_is, strD, dicD, dicOf_dat, keyOf_str, keyOf_int, kpairs, pKey, pIsN_non, pNotN_non, pIsN_dic, pNotN_dic, pInS_str, seqOf_lst, seqOf_tup, strsOf, strKeys, keyP, List.map_cons, List.map_nil, Option.bind_some, Nat.reduceBEq, ct0, ct1, Bool.true_eq_false, Int.natCast_one, Int.natCast_zero, Int.cast_ofNat_Int, List.length_map, tn, rng_len, hsz]
          refine ⟨by omega, ?_⟩
          refine r_count1 hG (hG p hp) fun js e => ?_
          simp -dsimp only [↓r_var, ↓r_K, ↓r_aNil, ↓r_aCons, ↓r_op, ↓r_dat, ↓r_tup, ↓r_lst, ↓r_lstM, ↓r_call, ↓r_cm, ↓r_un, ↓r_negI, ↓r_if, ↓r_val, ↓r_and, ↓r_or, ↓r_not, ↓r_yes, ↓r_andV, ↓r_orV, ↓r_notV, ↓r_fld, ↓r_meth, ↓r_prop, ↓r_ix_lst, ↓r_ix_tup, ↓r_ix_loc, ↓r_len_lst, ↓r_len_tup, ↓r_fm1, ↓r_fm2, ↓r_all, ↓r_app, ↓r_ext, ↓o_seq, ↓o_nil, ↓o_ret, ↓o_set, ↓o_expr, ↓o_if, ↓o_bad, ↓o_par, ↓o_par3, ↓o_asg, ↓o_gNm, ↓o_gTp, ↓o_gsNil, ↓o_gsCons, ↓o_gSb, ↓o_retF, ↓o_fld, ↓o_for, ↓r_iSeq, ↓r_iTpl, ↓r_iRg, ↓r_lc, ↓o_frz, ↓r_iEnm, ↓r_reprB_bl, ↓r_reprB_lst, ↓r_chain, ↓r_iStrM, ↓r_iKeysD, ↓r_iItemsD, ↓r_gDGet, ↓r_gDIn, ↓r_pairs0, ↓r_pairs1, ↓r_disp, ↓r_dc, ↓dcL_nil, ↓r_sortD, ↓r_sortL, ↓r_dictD, ↓r_dictL, ↓r_listD, ↓r_listL, ↓r_listT, ↓r_lenDd, ↓r_len_str, ↓r_jn, ↓r_sl, ↓r_pNone, ↓r_pSome, ↓r_gSlS, ↓r_gSlL, ↓r_ix_str, ↓r_dget2, ↓is_non_int, ↓is_non_bool, ↓is_non_str, ↓is_non_list, ↓is_non_tuple, ↓is_non_dict, ↓is_non_cls, ↓is_bl_int, ↓is_bl_bool, ↓is_bl_str, ↓is_bl_list, ↓is_bl_tuple, ↓is_bl_dict, ↓is_bl_cls, ↓is_int_int, ↓is_int_bool, ↓is_int_str, ↓is_int_list, ↓is_int_tuple, ↓is_int_dict, ↓is_int_cls, ↓is_str_int, ↓is_str_bool, ↓is_str_str, ↓is_str_list, ↓is_str_tuple, ↓is_str_dict, ↓is_str_cls, ↓is_lst_int, ↓is_lst_bool, ↓is_lst_str, ↓is_lst_list, ↓is_lst_tuple, ↓is_lst_dict, ↓is_lst_cls, ↓is_tup_int, ↓is_tup_bool, ↓is_tup_str, ↓is_tup_list, ↓is_tup_tuple, ↓is_tup_dict, ↓is_tup_cls, ↓is_dic_int, ↓is_dic_bool, ↓is_dic_str, ↓is_dic_list, ↓is_dic_tuple, ↓is_dic_dict, ↓is_dic_cls, ↓is_obj_int, ↓is_obj_bool, ↓is_obj_str, ↓is_obj_list, ↓is_obj_tuple, ↓is_obj_dict, ↓is_obj_cls,
  opt_some, opt_ite, opt_ite2, rs_ok, List.getElem?_cons_zero, List.getElem?_cons_succ, List.set_cons_zero, List.set_cons_succ, lstIn_lst, objIn_obj, objOf_dat, objOf_loc, two?, three?, datOf, locIx, intOf, intL, lstD, tupD, blOf, wipeP,
  pAdd_int, pAdd_str, pSub, pMul, pMod, pDiv, pLt, pLe, pGt, pGe, pInt, pAbs, pMax, pMin, pDivmod, tru_bl, tru_int, tru_non, dats, Option.map_some, decide_eq_true_eq, atI0, atI1, atI2, ixN0, ixN1, pEqF_int, pEqT_int, pEqF_str, pEqT_str, p10_4, p10_5, p10_9, p10_10, p10_18, p10_19, p10_29, p10_30, List.length_cons, List.length_nil, true_and, and_true, Bool.not_true, Bool.not_false, if_true, if_false, Bool.false_eq_true, Bool.not_eq_true', decide_eq_false_iff_not, bne_iff_ne, ne_eq, Int.reduceEq, Int.reduceLT, Int.reduceLE, Int.reduceGT, Int.reduceNeg, not_false_eq_true, not_true_eq_false, decide_true, decide_false, eq_self, and_self, sizeLine_eq, Nat.reduceAdd, Nat.reduceLeDiff, Nat.reduceLT, Nat.reduceEqDiff, List.cons_append, List.nil_append, lst1_is, strD, dicD, dicOf_dat, keyOf_str, keyOf_int, kpairs, pKey, pIsN_non, pNotN_non, pIsN_dic, pNotN_dic, pInS_str, seqOf_lst, seqOf_tup, strsOf, strKeys, keyP, List.map_cons, List.map_nil, Option.bind_some, Nat.reduceBEq, ct0, ct1, Bool.true_eq_false, Int.natCast_one, Int.natCast_zero, Int.cast_ofNat_Int, e]
        · simp -dsimp only [↓r_var, ↓r_K, ↓r_aNil, ↓r_aCons, ↓r_op, ↓r_dat, ↓r_tup, ↓r_lst, ↓r_lstM, ↓r_call, ↓r_cm, ↓r_un, ↓r_negI, ↓r_if, ↓r_val, ↓r_and, ↓r_or, ↓r_not, ↓r_yes, ↓r_andV, ↓r_orV, ↓r_notV, ↓r_fld, ↓r_meth, ↓r_prop, ↓r_ix_lst, ↓r_ix_tup, ↓r_ix_loc, ↓r_len_lst, ↓r_len_tup, ↓r_fm1, ↓r_fm2, ↓r_all, ↓r_app, ↓r_ext, ↓o_seq, ↓o_nil, ↓o_ret, ↓o_set, ↓o_expr, ↓o_if, ↓o_bad, ↓o_par, ↓o_par3, ↓o_asg, ↓o_gNm, ↓o_gTp, ↓o_gsNil, ↓o_gsCons, ↓o_gSb, ↓o_retF, ↓o_fld, ↓o_for, ↓r_iSeq, ↓r_iTpl, ↓r_iRg, ↓r_lc, ↓o_frz, ↓r_iEnm, ↓r_reprB_bl, ↓r_reprB_lst, ↓r_chain, ↓r_iStrM, ↓r_iKeysD, ↓r_iItemsD, ↓r_gDGet, ↓r_gDIn, ↓r_pairs0, ↓r_pairs1, ↓r_disp, ↓r_dc, ↓dcL_nil, ↓r_sortD, ↓r_sortL, ↓r_dictD, ↓r_dictL, ↓r_listD, ↓r_listL, ↓r_listT, ↓r_lenDd, ↓r_len_str, ↓r_jn, ↓r_sl, ↓r_pNone, ↓r_pSome, ↓r_gSlS, ↓r_gSlL, ↓r_ix_str, ↓r_dget2, ↓is_non_int, ↓is_non_bool, ↓is_non_str, ↓is_non_list, ↓is_non_tuple, ↓is_non_dict, ↓is_non_cls, ↓is_bl_int, ↓is_bl_bool, ↓is_bl_str, ↓is_bl_list, ↓is_bl_tuple, ↓is_bl_dict, ↓is_bl_cls, ↓is_int_int, ↓is_int_bool, ↓is_int_str, ↓is_int_list, ↓is_int_tuple, ↓is_int_dict, ↓is_int_cls, ↓is_str_int, ↓is_str_bool, ↓is_str_str, ↓is_str_list, ↓is_str_tuple, ↓is_str_dict, ↓is_str_cls, ↓is_lst_int, ↓is_lst_bool, ↓is_lst_str, ↓is_lst_list, ↓is_lst_tuple, ↓is_lst_dict, ↓is_lst_cls, ↓is_tup_int, ↓is_tup_bool, ↓is_tup_str, ↓is_tup_list, ↓is_tup_tuple, ↓is_tup_dict, ↓is_tup_cls, ↓is_dic_int, ↓is_dic_bool, ↓is_dic_str, ↓is_dic_list, ↓is_dic_tuple, ↓is_dic_dict, ↓is_dic_cls, ↓is_obj_int, ↓is_obj_bool, ↓is_obj_str, ↓is_obj_list, ↓is_obj_tuple, ↓is_obj_dict, ↓is_obj_cls,
  opt_some, opt_ite, opt_ite2, rs_ok, List.getElem?_cons_zero, List.getElem?_cons_succ, List.set_cons_zero, List.set_cons_succ, lstIn_lst, objIn_obj, objOf_dat, objOf_loc, two?, three?, datOf, locIx, intOf, intL, lstD, tupD, blOf, wipeP,
  pAdd_int, pAdd_str, pSub, pMul, pMod, pDiv, pLt, pLe, pGt, pGe, pInt, pAbs, pMax, pMin, pDivmod, tru_bl, tru_int, tru_non, dats, Option.map_some, decide_eq_true_eq, atI0, atI1, atI2, ixN0, ixN1, pEqF_int, pEqT_int, pEqF_str, pEqT_str, p10_4, p10_5, p10_9, p10_10, p10_18, p10_19, p10_29, p10_30, List.length_cons, List.length_nil, true_and, and_true, Bool.not_true, Bool.not_false, if_true, if_false, Bool.false_eq_true, Bool.not_eq_true', decide_eq_false_iff_not, bne_iff_ne, ne_eq, Int.reduceEq, Int.reduceLT, Int.reduceLE, Int.reduceGT, Int.reduceNeg, not_false_eq_true, not_true_eq_false, decide_true, decide_false, eq_self, and_self, sizeLine_eq, Nat.reduceAdd, Nat.reduceLeDiff, Nat.reduceLT, Nat.reduceEqDiff, List.cons_append, List.nil_append, lst1_is, strD, dicD, dicOf_dat, keyOf_str, keyOf_int, kpairs, pKey, pIsN_non, pNotN_non, pIsN_dic, pNotN_dic, pInS_str, seqOf_lst, seqOf_tup, strsOf, strKeys, keyP, List.map_cons, List.map_nil, Option.bind_some, Nat.reduceBEq, ct0, ct1, Bool.true_eq_false, Int.natCast_one, Int.natCast_zero, Int.cast_ofNat_Int, List.length_map, hsz]
          refine lcL_of pairP (fun p => .int (cnt pl p)) pl (fun p hp => ?_) ?_
          · simp -dsimp only [↓r_var, ↓r_K, ↓r_aNil, ↓r_aCons, ↓r_op, ↓r_dat, ↓r_tup, ↓r_lst, ↓r_lstM, ↓r_call, ↓r_cm, ↓r_un, ↓r_negI, ↓r_if, ↓r_val, ↓r_and, ↓r_or, ↓r_not, ↓r_yes, ↓r_andV, ↓r_orV, ↓r_notV, ↓r_fld, ↓r_meth, ↓r_prop, ↓r_ix_lst, ↓r_ix_tup, ↓r_ix_loc, ↓r_len_lst, ↓r_len_tup, ↓r_fm1, ↓r_fm2, ↓r_all, ↓r_app, ↓r_ext, ↓o_seq, ↓o_nil, ↓o_ret, ↓o_set, ↓o_expr, ↓o_if, ↓o_bad, ↓o_par, ↓o_par3, ↓o_asg, ↓o_gNm, ↓o_gTp, ↓o_gsNil, ↓o_gsCons, ↓o_gSb, ↓o_retF, ↓o_fld, ↓o_for, ↓r_iSeq, ↓r_iTpl, ↓r_iRg, ↓r_lc, ↓o_frz, ↓r_iEnm, ↓r_reprB_bl, ↓r_reprB_lst, ↓r_chain, ↓r_iStrM, ↓r_iKeysD, ↓r_iItemsD, ↓r_gDGet, ↓r_gDIn, ↓r_pairs0, ↓r_pairs1, ↓r_disp, ↓r_dc, ↓dcL_nil, ↓r_sortD, ↓r_sortL, ↓r_dictD, ↓r_dictL, ↓r_listD, ↓r_listL, ↓r_listT, ↓r_lenDd, ↓r_len_str, ↓r_jn, ↓r_sl, ↓r_pNone, ↓r_pSome, ↓r_gSlS, ↓r_gSlL, ↓r_ix_str, ↓r_dget2, ↓is_non_int, ↓is_non_bool, ↓is_non_str, ↓is_non_list, ↓is_non_tuple, ↓is_non_dict, ↓is_non_cls, ↓is_bl_int, ↓is_bl_bool, ↓is_bl_str, ↓is_bl_list, ↓is_bl_tuple, ↓is_bl_dict, ↓is_bl_cls, ↓is_int_int, ↓is_int_bool, ↓is_int_str, ↓is_int_list, ↓is_int_tuple, ↓is_int_dict, ↓is_int_cls, ↓is_str_int, ↓is_str_bool, ↓is_str_str, ↓is_str_list, ↓is_str_tuple, ↓is_str_dict, ↓is_str_cls, ↓is_lst_int, ↓is_lst_bool, ↓is_lst_str, ↓is_lst_list, ↓is_lst_tuple, ↓is_lst_dict, ↓is_lst_cls, ↓is_tup_int, ↓is_tup_bool, ↓is_tup_str, ↓is_tup_list, ↓is_tup_tuple, ↓is_tup_dict, ↓is_tup_cls, ↓is_dic_int, ↓is_dic_bool, ↓is_dic_str, ↓is_dic_list, ↓is_dic_tuple, ↓is_dic_dict, ↓is_dic_cls, ↓is_obj_int, ↓is_obj_bool, ↓is_obj_str, ↓is_obj_list, ↓is_obj_tuple, ↓is_obj_dict, ↓is_obj_cls,
  opt_some, opt_ite, opt_ite2, rs_ok, List.getElem?_cons_zero, List.getElem?_cons_succ, List.set_cons_zero, List.set_cons_succ, lstIn_lst, objIn_obj, objOf_dat, objOf_loc, two?, three?, datOf, locIx, intOf, intL, lstD, tupD, blOf, wipeP,
  pAdd_int, pAdd_str, pSub, pMul, pMod, pDiv, pLt, pLe, pGt, pGe, pInt, pAbs, pMax, pMin, pDivmod, tru_bl, tru_int, tru_non, dats, Option.map_some, decide_eq_true_eq, atI0, atI1, atI2, ixN0, ixN1, pEqF_int, pEqT_int, pEqF_str, pEqT_str, p10_4, p10_5, p10_9, p10_10, p10_18, p10_19, p10_29, p10_30, List.length_cons, List.length_nil, true_and, and_true, Bool.not_true, Bool.not_false, if_true, if_false, Bool.false_eq_true, Bool.not_eq_true', decide_eq_false_iff_not, bne_iff_ne, ne_eq, Int.reduceEq, Int.reduceLT, Int.reduceLE, Int.reduceGT, Int.reduceNeg, not_false_eq_true, not_true_eq_false, decide_true, decide_false, eq_self, and_self, sizeLine_eq, Nat.reduceAdd, Nat.reduceLeDiff, Nat.reduceLT, Nat.reduceEqDiff, List.cons_append, List.nil_append, lst1_is, strD, dicD, dicOf_dat, keyOf_str, keyOf_int, kpairs, pKey, pIsN_non, pNotN_non, pIsN_dic, pNotN_dic, pInS_str, seqOf_lst, seqOf_tup, strsOf, strKeys, keyP, List.map_cons, List.map_nil, Option.bind_some, Nat.reduceBEq, ct0, ct1, Bool.true_eq_false, Int.natCast_one, Int.natCast_zero, Int.cast_ofNat_Int, List.length_map, tn, rng_len, hsz]
            refine ⟨by omega, ?_⟩
            refine r_count2 hG (hG p hp) fun js e => ?_
            simp -dsimp only [↓r_var, ↓r_K, ↓r_aNil, ↓r_aCons, ↓r_op, ↓r_dat, ↓r_tup, ↓r_lst, ↓r_lstM, ↓r_call, ↓r_cm, ↓r_un, ↓r_negI, ↓r_if, ↓r_val, ↓r_and, ↓r_or, ↓r_not, ↓r_yes, ↓r_andV, ↓r_orV, ↓r_notV, ↓r_fld, ↓r_meth, ↓r_prop, ↓r_ix_lst, ↓r_ix_tup, ↓r_ix_loc, ↓r_len_lst, ↓r_len_tup, ↓r_fm1, ↓r_fm2, ↓r_all, ↓r_app, ↓r_ext, ↓o_seq, ↓o_nil, ↓o_ret, ↓o_set, ↓o_expr, ↓o_if, ↓o_bad, ↓o_par, ↓o_par3, ↓o_asg, ↓o_gNm, ↓o_gTp, ↓o_gsNil, ↓o_gsCons, ↓o_gSb, ↓o_retF, ↓o_fld, ↓o_for, ↓r_iSeq, ↓r_iTpl, ↓r_iRg, ↓r_lc, ↓o_frz, ↓r_iEnm, ↓r_reprB_bl, ↓r_reprB_lst, ↓r_chain, ↓r_iStrM, ↓r_iKeysD, ↓r_iItemsD, ↓r_gDGet, ↓r_gDIn, ↓r_pairs0, ↓r_pairs1, ↓r_disp, ↓r_dc, ↓dcL_nil, ↓r_sortD, ↓r_sortL, ↓r_dictD, ↓r_dictL, ↓r_listD, ↓r_listL, ↓r_listT, ↓r_lenDd, ↓r_len_str, ↓r_jn, ↓r_sl, ↓r_pNone, ↓r_pSome, ↓r_gSlS, ↓r_gSlL, ↓r_ix_str, ↓r_dget2, ↓is_non_int, ↓is_non_bool, ↓is_non_str, ↓is_non_list, ↓is_non_tuple, ↓is_non_dict, ↓is_non_cls, ↓is_bl_int, ↓is_bl_bool, ↓is_bl_str, ↓is_bl_list, ↓is_bl_tuple, ↓is_bl_dict, ↓is_bl_cls, ↓is_int_int, ↓is_int_bool, ↓is_int_str, ↓is_int_list, ↓is_int_tuple, ↓is_int_dict, ↓is_int_cls, ↓is_str_int, ↓is_str_bool, ↓is_str_str, ↓is_str_list, ↓is_str_tuple, ↓is_str_dict, ↓is_str_cls, ↓is_lst_int, ↓is_lst_bool, ↓is_lst_str, ↓is_lst_list, ↓is_lst_tuple, ↓is_lst_dict, ↓is_lst_cls, ↓is_tup_int, ↓is_tup_bool, ↓is_tup_str, ↓is_tup_list, ↓is_tup_tuple, ↓is_tup_dict, ↓is_tup_cls, ↓is_dic_int, ↓is_dic_bool, ↓is_dic_str, ↓is_dic_list, ↓is_dic_tuple, ↓is_dic_dict, ↓is_dic_cls, ↓is_obj_int, ↓is_obj_bool, ↓is_obj_str, ↓is_obj_list, ↓is_obj_tuple, ↓is_obj_dict, ↓is_obj_cls,
  opt_some, opt_ite, opt_ite2, rs_ok, List.getElem?_cons_zero, List.getElem?_cons_succ, List.set_cons_zero, List.set_cons_succ, lstIn_lst, objIn_obj, objOf_dat, objOf_loc, two?, three?, datOf, locIx, intOf, intL, lstD, tupD, blOf, wipeP,
  pAdd_int, pAdd_str, pSub, pMul, pMod, pDiv, pLt, pLe, pGt, pGe, pInt, pAbs, pMax, pMin, pDivmod, tru_bl, tru_int, tru_non, dats, Option.map_some, decide_eq_true_eq, atI0, atI1, atI2, ixN0, ixN1, pEqF_int, pEqT_int, pEqF_str, pEqT_str, p10_4, p10_5, p10_9, p10_10, p10_18, p10_19, p10_29, p10_30, List.length_cons, List.length_nil, true_and, and_true, Bool.not_true, Bool.not_false, if_true, if_false, Bool.false_eq_true, Bool.not_eq_true', decide_eq_false_iff_not, bne_iff_ne, ne_eq, Int.reduceEq, Int.reduceLT, Int.reduceLE, Int.reduceGT, Int.reduceNeg, not_false_eq_true, not_true_eq_false, decide_true, decide_false, eq_self, and_self, sizeLine_eq, Nat.reduceAdd, Nat.reduceLeDiff, Nat.reduceLT, Nat.reduceEqDiff, List.cons_append, List.nil_append, lst1_is, strD, dicD, dicOf_dat, keyOf_str, keyOf_int, kpairs, pKey, pIsN_non, pNotN_non, pIsN_dic, pNotN_dic, pInS_str, seqOf_lst, seqOf_tup, strsOf, strKeys, keyP, List.map_cons, List.map_nil, Option.bind_some, Nat.reduceBEq, ct0, ct1, Bool.true_eq_false, Int.natCast_one, Int.natCast_zero, Int.cast_ofNat_Int, e]
          · have e := pEq_ints false (xs := pl.map fun p => (cnt pl p : Int)) (ys := pl.map fun p => (cnt pl p : Int))
            rw [List.map_map] at e
            simp only [Bool.false_eq_true, if_false, decide_true] at e
            have e' : pEq false (.lst (pl.map fun p => P.int (cnt pl p : Int))) (.lst (pl.map fun p => P.int (cnt pl p : Int))) = some (.bl true) := e
            simp -dsimp only [↓r_var, ↓r_K, ↓r_aNil, ↓r_aCons, ↓r_op, ↓r_dat, ↓r_tup, ↓r_lst, ↓r_lstM, ↓r_call, ↓r_cm, ↓r_un, ↓r_negI, ↓r_if, ↓r_val, ↓r_and, ↓r_or, ↓r_not, ↓r_yes, ↓r_andV, ↓r_orV, ↓r_notV, ↓r_fld, ↓r_meth, ↓r_prop, ↓r_ix_lst, ↓r_ix_tup, ↓r_ix_loc, ↓r_len_lst, ↓r_len_tup, ↓r_fm1, ↓r_fm2, ↓r_all, ↓r_app, ↓r_ext, ↓o_seq, ↓o_nil, ↓o_ret, ↓o_set, ↓o_expr, ↓o_if, ↓o_bad, ↓o_par, ↓o_par3, ↓o_asg, ↓o_gNm, ↓o_gTp, ↓o_gsNil, ↓o_gsCons, ↓o_gSb, ↓o_retF, ↓o_fld, ↓o_for, ↓r_iSeq, ↓r_iTpl, ↓r_iRg, ↓r_lc, ↓o_frz, ↓r_iEnm, ↓r_reprB_bl, ↓r_reprB_lst, ↓r_chain, ↓r_iStrM, ↓r_iKeysD, ↓r_iItemsD, ↓r_gDGet, ↓r_gDIn, ↓r_pairs0, ↓r_pairs1, ↓r_disp, ↓r_dc, ↓dcL_nil, ↓r_sortD, ↓r_sortL, ↓r_dictD, ↓r_dictL, ↓r_listD, ↓r_listL, ↓r_listT, ↓r_lenDd, ↓r_len_str, ↓r_jn, ↓r_sl, ↓r_pNone, ↓r_pSome, ↓r_gSlS, ↓r_gSlL, ↓r_ix_str, ↓r_dget2, ↓is_non_int, ↓is_non_bool, ↓is_non_str, ↓is_non_list, ↓is_non_tuple, ↓is_non_dict, ↓is_non_cls, ↓is_bl_int, ↓is_bl_bool, ↓is_bl_str, ↓is_bl_list, ↓is_bl_tuple, ↓is_bl_dict, ↓is_bl_cls, ↓is_int_int, ↓is_int_bool, ↓is_int_str, ↓is_int_list, ↓is_int_tuple, ↓is_int_dict, ↓is_int_cls, ↓is_str_int, ↓is_str_bool, ↓is_str_str, ↓is_str_list, ↓is_str_tuple, ↓is_str_dict, ↓is_str_cls, ↓is_lst_int, ↓is_lst_bool, ↓is_lst_str, ↓is_lst_list, ↓is_lst_tuple, ↓is_lst_dict, ↓is_lst_cls, ↓is_tup_int, ↓is_tup_bool, ↓is_tup_str, ↓is_tup_list, ↓is_tup_tuple, ↓is_tup_dict, ↓is_tup_cls, ↓is_dic_int, ↓is_dic_bool, ↓is_dic_str, ↓is_dic_list, ↓is_dic_tuple, ↓is_dic_dict, ↓is_dic_cls, ↓is_obj_int, ↓is_obj_bool, ↓is_obj_str, ↓is_obj_list, ↓is_obj_tuple, ↓is_obj_dict, ↓is_obj_cls,
  opt_some, opt_ite, opt_ite2, rs_ok, List.getElem?_cons_zero, List.getElem?_cons_succ, List.set_cons_zero, List.set_cons_succ, lstIn_lst, objIn_obj, objOf_dat, objOf_loc, two?, three?, datOf, locIx, intOf, intL, lstD, tupD, blOf, wipeP,
  pAdd_int, pAdd_str, pSub, pMul, pMod, pDiv, pLt, pLe, pGt, pGe, pInt, pAbs, pMax, pMin, pDivmod, tru_bl, tru_int, tru_non, dats, Option.map_some, decide_eq_true_eq, atI0, atI1, atI2, ixN0, ixN1, pEqF_int, pEqT_int, pEqF_str, pEqT_str, p10_4, p10_5, p10_9, p10_10, p10_18, p10_19, p10_29, p10_30, List.length_cons, List.length_nil, true_and, and_true, Bool.not_true, Bool.not_false, if_true, if_false, Bool.false_eq_true, Bool.not_eq_true', decide_eq_false_iff_not, bne_iff_ne, ne_eq, Int.reduceEq, Int.reduceLT, Int.reduceLE, Int.reduceGT, Int.reduceNeg, not_false_eq_true, not_true_eq_false, decide_true, decide_false, eq_self, and_self, sizeLine_eq, Nat.reduceAdd, Nat.reduceLeDiff, Nat.reduceLT, Nat.reduceEqDiff, List.cons_append, List.nil_append, lst1_is, strD, dicD, dicOf_dat, keyOf_str, keyOf_int, kpairs, pKey, pIsN_non, pNotN_non, pIsN_dic, pNotN_dic, pInS_str, seqOf_lst, seqOf_tup, strsOf, strKeys, keyP, List.map_cons, List.map_nil, Option.bind_some, Nat.reduceBEq, ct0, ct1, Bool.true_eq_false, Int.natCast_one, Int.natCast_zero, Int.cast_ofNat_Int, e']
            exact h _
theorem law_true (ns : List Int) (hl : ns.length ≤ 63) : ∃ S, M_law [.dat (.lst (ns.map P.int))] [] = .ok (.dat (.bl true)) S := by
  have key : RsP (M_law [.dat (.lst (ns.map P.int))] []) (fun v _ => v = .dat (.bl true)) (fun _ _ _ => False) .mk := by
    rw [run_law]
    unfold b_law
    simp -dsimp only [↓r_var, ↓r_K, ↓r_aNil, ↓r_aCons, ↓r_op, ↓r_dat, ↓r_tup, ↓r_lst, ↓r_lstM, ↓r_call, ↓r_cm, ↓r_un, ↓r_negI, ↓r_if, ↓r_val, ↓r_and, ↓r_or, ↓r_not, ↓r_yes, ↓r_andV, ↓r_orV, ↓r_notV, ↓r_fld, ↓r_meth, ↓r_prop, ↓r_ix_lst, ↓r_ix_tup, ↓r_ix_loc, ↓r_len_lst, ↓r_len_tup, ↓r_fm1, ↓r_fm2, ↓r_all, ↓r_app, ↓r_ext, ↓o_seq, ↓o_nil, ↓o_ret, ↓o_set, ↓o_expr, ↓o_if, ↓o_bad, ↓o_par, ↓o_par3, ↓o_asg, ↓o_gNm, ↓o_gTp, ↓o_gsNil, ↓o_gsCons, ↓o_gSb, ↓o_retF, ↓o_fld, ↓o_for, ↓r_iSeq, ↓r_iTpl, ↓r_iRg, ↓r_lc, ↓o_frz, ↓r_iEnm, ↓r_reprB_bl, ↓r_reprB_lst, ↓r_chain, ↓r_iStrM, ↓r_iKeysD, ↓r_iItemsD, ↓r_gDGet, ↓r_gDIn, ↓r_pairs0, ↓r_pairs1, ↓r_disp, ↓r_dc, ↓dcL_nil, ↓r_sortD, ↓r_sortL, ↓r_dictD, ↓r_dictL, ↓r_listD, ↓r_listL, ↓r_listT, ↓r_lenDd, ↓r_len_str, ↓r_jn, ↓r_sl, ↓r_pNone, ↓r_pSome, ↓r_gSlS, ↓r_gSlL, ↓r_ix_str, ↓r_dget2, ↓is_non_int, ↓is_non_bool, ↓is_non_str, ↓is_non_list, ↓is_non_tuple, ↓is_non_dict, ↓is_non_cls, ↓is_bl_int, ↓is_bl_bool, ↓is_bl_str, ↓is_bl_list, ↓is_bl_tuple, ↓is_bl_dict, ↓is_bl_cls, ↓is_int_int, ↓is_int_bool, ↓is_int_str, ↓is_int_list, ↓is_int_tuple, ↓is_int_dict, ↓is_int_cls, ↓is_str_int, ↓is_str_bool, ↓is_str_str, ↓is_str_list, ↓is_str_tuple, ↓is_str_dict, ↓is_str_cls, ↓is_lst_int, ↓is_lst_bool, ↓is_lst_str, ↓is_lst_list, ↓is_lst_tuple, ↓is_lst_dict, ↓is_lst_cls, ↓is_tup_int, ↓is_tup_bool, ↓is_tup_str, ↓is_tup_list, ↓is_tup_tuple, ↓is_tup_dict, ↓is_tup_cls, ↓is_dic_int, ↓is_dic_bool, ↓is_dic_str, ↓is_dic_list, ↓is_dic_tuple, ↓is_dic_dict, ↓is_dic_cls, ↓is_obj_int, ↓is_obj_bool, ↓is_obj_str, ↓is_obj_list, ↓is_obj_tuple, ↓is_obj_dict, ↓is_obj_cls,
  opt_some, opt_ite, opt_ite2, rs_ok, List.getElem?_cons_zero, List.getElem?_cons_succ, List.set_cons_zero, List.set_cons_succ, lstIn_lst, objIn_obj, objOf_dat, objOf_loc, two?, three?, datOf, locIx, intOf, intL, lstD, tupD, blOf, wipeP,
  pAdd_int, pAdd_str, pSub, pMul, pMod, pDiv, pLt, pLe, pGt, pGe, pInt, pAbs, pMax, pMin, pDivmod, tru_bl, tru_int, tru_non, dats, Option.map_some, decide_eq_true_eq, atI0, atI1, atI2, ixN0, ixN1, pEqF_int, pEqT_int, pEqF_str, pEqT_str, p10_4, p10_5, p10_9, p10_10, p10_18, p10_19, p10_29, p10_30, List.length_cons, List.length_nil, true_and, and_true, Bool.not_true, Bool.not_false, if_true, if_false, Bool.false_eq_true, Bool.not_eq_true', decide_eq_false_iff_not, bne_iff_ne, ne_eq, Int.reduceEq, Int.reduceLT, Int.reduceLE, Int.reduceGT, Int.reduceNeg, not_false_eq_true, not_true_eq_false, decide_true, decide_false, eq_self, and_self, sizeLine_eq, Nat.reduceAdd, Nat.reduceLeDiff, Nat.reduceLT, Nat.reduceEqDiff, List.cons_append, List.nil_append, lst1_is, strD, dicD, dicOf_dat, keyOf_str, keyOf_int, kpairs, pKey, pIsN_non, pNotN_non, pIsN_dic, pNotN_dic, pInS_str, seqOf_lst, seqOf_tup, strsOf, strKeys, keyP, List.map_cons, List.map_nil, Option.bind_some, Nat.reduceBEq, ct0, ct1, Bool.true_eq_false, Int.natCast_one, Int.natCast_zero, Int.cast_ofNat_Int, List.length_map]
    generalize hm : (if (if 4 < (ns.length : Int) then 4 else (ns.length : Int)) > 1 then if 4 < (ns.length : Int) then 4 else (ns.length : Int) else 1) = m
    have m0 : 1 ≤ m := by rw [← hm]; split <;> omega
    have m4 : m ≤ 4 := by rw [← hm]; split <;> split <;> omega
    refine ⟨⟨by omega, by omega⟩, by rw [rng_len]; omega, ?_⟩
    refine lcL_map (fun _ => True) (fun _ p => p = .bl true) trivial (fun x S hx _ => ?_) (fun ps S _ hf => ?_)
    · obtain ⟨i, hi, rfl⟩ := rng_mem hx
      walk_at "dl"
      refine m_jar (by omega) fun S' J => ?_
      walk_at "dl"
      refine m_right J fun S'' => ?_
      walk_at "dl"
    · obtain ⟨bs, e1, e2⟩ := bls_true (fun _ _ h => h) hf
      simp -dsimp only [↓r_var, ↓r_K, ↓r_aNil, ↓r_aCons, ↓r_op, ↓r_dat, ↓r_tup, ↓r_lst, ↓r_lstM, ↓r_call, ↓r_cm, ↓r_un, ↓r_negI, ↓r_if, ↓r_val, ↓r_and, ↓r_or, ↓r_not, ↓r_yes, ↓r_andV, ↓r_orV, ↓r_notV, ↓r_fld, ↓r_meth, ↓r_prop, ↓r_ix_lst, ↓r_ix_tup, ↓r_ix_loc, ↓r_len_lst, ↓r_len_tup, ↓r_fm1, ↓r_fm2, ↓r_all, ↓r_app, ↓r_ext, ↓o_seq, ↓o_nil, ↓o_ret, ↓o_set, ↓o_expr, ↓o_if, ↓o_bad, ↓o_par, ↓o_par3, ↓o_asg, ↓o_gNm, ↓o_gTp, ↓o_gsNil, ↓o_gsCons, ↓o_gSb, ↓o_retF, ↓o_fld, ↓o_for, ↓r_iSeq, ↓r_iTpl, ↓r_iRg, ↓r_lc, ↓o_frz, ↓r_iEnm, ↓r_reprB_bl, ↓r_reprB_lst, ↓r_chain, ↓r_iStrM, ↓r_iKeysD, ↓r_iItemsD, ↓r_gDGet, ↓r_gDIn, ↓r_pairs0, ↓r_pairs1, ↓r_disp, ↓r_dc, ↓dcL_nil, ↓r_sortD, ↓r_sortL, ↓r_dictD, ↓r_dictL, ↓r_listD, ↓r_listL, ↓r_listT, ↓r_lenDd, ↓r_len_str, ↓r_jn, ↓r_sl, ↓r_pNone, ↓r_pSome, ↓r_gSlS, ↓r_gSlL, ↓r_ix_str, ↓r_dget2, ↓is_non_int, ↓is_non_bool, ↓is_non_str, ↓is_non_list, ↓is_non_tuple, ↓is_non_dict, ↓is_non_cls, ↓is_bl_int, ↓is_bl_bool, ↓is_bl_str, ↓is_bl_list, ↓is_bl_tuple, ↓is_bl_dict, ↓is_bl_cls, ↓is_int_int, ↓is_int_bool, ↓is_int_str, ↓is_int_list, ↓is_int_tuple, ↓is_int_dict, ↓is_int_cls, ↓is_str_int, ↓is_str_bool, ↓is_str_str, ↓is_str_list, ↓is_str_tuple, ↓is_str_dict, ↓is_str_cls, ↓is_lst_int, ↓is_lst_bool, ↓is_lst_str, ↓is_lst_list, ↓is_lst_tuple, ↓is_lst_dict, ↓is_lst_cls, ↓is_tup_int, ↓is_tup_bool, ↓is_tup_str, ↓is_tup_list, ↓is_tup_tuple, ↓is_tup_dict, ↓is_tup_cls, ↓is_dic_int, ↓is_dic_bool, ↓is_dic_str, ↓is_dic_list, ↓is_dic_tuple, ↓is_dic_dict, ↓is_dic_cls, ↓is_obj_int, ↓is_obj_bool, ↓is_obj_str, ↓is_obj_list, ↓is_obj_tuple, ↓is_obj_dict, ↓is_obj_cls,
  opt_some, opt_ite, opt_ite2, rs_ok, List.getElem?_cons_zero, List.getElem?_cons_succ, List.set_cons_zero, List.set_cons_succ, lstIn_lst, objIn_obj, objOf_dat, objOf_loc, two?, three?, datOf, locIx, intOf, intL, lstD, tupD, blOf, wipeP,
  pAdd_int, pAdd_str, pSub, pMul, pMod, pDiv, pLt, pLe, pGt, pGe, pInt, pAbs, pMax, pMin, pDivmod, tru_bl, tru_int, tru_non, dats, Option.map_some, decide_eq_true_eq, atI0, atI1, atI2, ixN0, ixN1, pEqF_int, pEqT_int, pEqF_str, pEqT_str, p10_4, p10_5, p10_9, p10_10, p10_18, p10_19, p10_29, p10_30, List.length_cons, List.length_nil, true_and, and_true, Bool.not_true, Bool.not_false, if_true, if_false, Bool.false_eq_true, Bool.not_eq_true', decide_eq_false_iff_not, bne_iff_ne, ne_eq, Int.reduceEq, Int.reduceLT, Int.reduceLE, Int.reduceGT, Int.reduceNeg, not_false_eq_true, not_true_eq_false, decide_true, decide_false, eq_self, and_self, sizeLine_eq, Nat.reduceAdd, Nat.reduceLeDiff, Nat.reduceLT, Nat.reduceEqDiff, List.cons_append, List.nil_append, lst1_is, strD, dicD, dicOf_dat, keyOf_str, keyOf_int, kpairs, pKey, pIsN_non, pNotN_non, pIsN_dic, pNotN_dic, pInS_str, seqOf_lst, seqOf_tup, strsOf, strKeys, keyP, List.map_cons, List.map_nil, Option.bind_some, Nat.reduceBEq, ct0, ct1, Bool.true_eq_false, Int.natCast_one, Int.natCast_zero, Int.cast_ofNat_Int, e1, e2]
  obtain ⟨a, S, e, rfl⟩ := key.ex
  exact ⟨S, e⟩
end K12
set_option Elab.async false
set_option linter.all false
set_option maxRecDepth 100000
set_option maxHeartbeats 4000000
namespace K12
open PySem PySem.Spec PyProof.Rows L2 ClX DL
theorem all_mk {l : PySem.W.OpenLaw} {w : World} {K : PySem.W.Frag} {h : Heap} {mg : Str → Option Value} {fa : Addr}
    {C_Ratio C_Form f_law_common f_law_lowest f_law_dip f_law_choice f_law_integer f_law_parts f_law_sum f_law_near f_is_integer f_common_divisor f_Ratio_DinitD d_Ratio_DinitD f_law_made f_Ratio_DreprD f_is_number f_want_number f_as_ratio f_Ratio_is_below f_Ratio_DeqD f_Form_DeqD f_Ratio_DstrD f_is_name f_is_chart f_Ratio_sign p_Ratio_sign f_without_zeros f_Form_DinitD d_Form_DinitD f_Form_of p_Form_of f_law_whole_right f_law_two_right f_law_right f_law_jar f_law : Addr} {od_law_common an_law_common od_law_lowest an_law_lowest od_law_dip an_law_dip od_law_choice an_law_choice od_law_integer an_law_integer od_law_parts an_law_parts od_law_sum an_law_sum od_law_near an_law_near od_is_integer an_is_integer od_common_divisor an_common_divisor od_Ratio_DinitD an_Ratio_DinitD od_law_made an_law_made od_Ratio_DreprD an_Ratio_DreprD od_is_number an_is_number od_want_number an_want_number od_as_ratio an_as_ratio od_Ratio_is_below an_Ratio_is_below od_Ratio_DeqD an_Ratio_DeqD od_Form_DeqD an_Form_DeqD od_Ratio_DstrD an_Ratio_DstrD od_is_name an_is_name od_is_chart an_is_chart od_Ratio_sign an_Ratio_sign od_without_zeros an_without_zeros od_Form_DinitD an_Form_DinitD od_Form_of an_Form_of od_law_whole_right an_law_whole_right od_law_two_right an_law_two_right od_law_right an_law_right od_law_jar an_law_jar od_law an_law ode_Ratio_DinitD ode_Form_DinitD : Option Addr} {sl_law_common sl_law_lowest sl_law_dip sl_law_choice sl_law_integer sl_law_parts sl_law_sum sl_law_near sl_is_integer sl_common_divisor sl_Ratio_DinitD sl_law_made sl_Ratio_DreprD sl_is_number sl_want_number sl_as_ratio sl_Ratio_is_below sl_Ratio_DeqD sl_Form_DeqD sl_Ratio_DstrD sl_is_name sl_is_chart sl_Ratio_sign sl_without_zeros sl_Form_DinitD sl_Form_of sl_law_whole_right sl_law_two_right sl_law_right sl_law_jar sl_law sld_Ratio_DinitD sld_Form_DinitD : Array (Option Value)}
    {oc_law_common kV_law_common dc_law_common pm_law_common cd_law_common ct_law_common oc_law_lowest kV_law_lowest dc_law_lowest pm_law_lowest cd_law_lowest ct_law_lowest oc_law_dip kV_law_dip dc_law_dip pm_law_dip cd_law_dip ct_law_dip oc_law_choice kV_law_choice dc_law_choice pm_law_choice cd_law_choice ct_law_choice oc_law_integer kV_law_integer dc_law_integer pm_law_integer cd_law_integer ct_law_integer oc_law_parts kV_law_parts dc_law_parts pm_law_parts cd_law_parts ct_law_parts oc_law_sum kV_law_sum dc_law_sum pm_law_sum cd_law_sum ct_law_sum oc_law_near kV_law_near dc_law_near pm_law_near cd_law_near ct_law_near oc_is_integer kV_is_integer dc_is_integer pm_is_integer cd_is_integer ct_is_integer oc_common_divisor kV_common_divisor dc_common_divisor pm_common_divisor cd_common_divisor ct_common_divisor oc_Ratio_DinitD kV_Ratio_DinitD dc_Ratio_DinitD pm_Ratio_DinitD cd_Ratio_DinitD ct_Ratio_DinitD oc_law_made kV_law_made dc_law_made pm_law_made cd_law_made ct_law_made oc_Ratio_DreprD kV_Ratio_DreprD dc_Ratio_DreprD pm_Ratio_DreprD cd_Ratio_DreprD ct_Ratio_DreprD oc_is_number kV_is_number dc_is_number pm_is_number cd_is_number ct_is_number oc_want_number kV_want_number dc_want_number pm_want_number cd_want_number ct_want_number oc_as_ratio kV_as_ratio dc_as_ratio pm_as_ratio cd_as_ratio ct_as_ratio oc_Ratio_is_below kV_Ratio_is_below dc_Ratio_is_below pm_Ratio_is_below cd_Ratio_is_below ct_Ratio_is_below oc_Ratio_DeqD kV_Ratio_DeqD dc_Ratio_DeqD pm_Ratio_DeqD cd_Ratio_DeqD ct_Ratio_DeqD oc_Form_DeqD kV_Form_DeqD dc_Form_DeqD pm_Form_DeqD cd_Form_DeqD ct_Form_DeqD oc_Ratio_DstrD kV_Ratio_DstrD dc_Ratio_DstrD pm_Ratio_DstrD cd_Ratio_DstrD ct_Ratio_DstrD oc_is_name kV_is_name dc_is_name pm_is_name cd_is_name ct_is_name oc_is_chart kV_is_chart dc_is_chart pm_is_chart cd_is_chart ct_is_chart oc_Ratio_sign kV_Ratio_sign dc_Ratio_sign pm_Ratio_sign cd_Ratio_sign ct_Ratio_sign oc_without_zeros kV_without_zeros dc_without_zeros pm_without_zeros cd_without_zeros ct_without_zeros oc_Form_DinitD kV_Form_DinitD dc_Form_DinitD pm_Form_DinitD cd_Form_DinitD ct_Form_DinitD oc_Form_of kV_Form_of dc_Form_of pm_Form_of cd_Form_of ct_Form_of oc_law_whole_right kV_law_whole_right dc_law_whole_right pm_law_whole_right cd_law_whole_right ct_law_whole_right oc_law_two_right kV_law_two_right dc_law_two_right pm_law_two_right cd_law_two_right ct_law_two_right oc_law_right kV_law_right dc_law_right pm_law_right cd_law_right ct_law_right oc_law_jar kV_law_jar dc_law_jar pm_law_jar cd_law_jar ct_law_jar oc_law kV_law dc_law pm_law cd_law ct_law : Value} {r_Ratio_sign r_Form_of : List Value} {tg_LETTERS tg_MOST_LETTERS tk_Ratio_DinitD_0 tk_Form_DinitD_1 : Tok} {nn_Ratio_DinitD nn_Form_DinitD : Nat}
    (X : K.In h) (G : h.Ns mainGlobals mg) (hfa : mg "law" = some (.ref fa))
    (aC_Ratio : PySem.W.nsIn K mainGlobals "Ratio" = some (some (.ref C_Ratio)))
    (aC_Form : PySem.W.nsIn K mainGlobals "Form" = some (some (.ref C_Form)))
    (pg_Ratio : PySem.W.plainGet K C_Ratio Str.empty = true)
    (hd_Ratio : PySem.W.hasDictIn K C_Ratio = true)
    (po_Ratio : PySem.W.plainOver K C_Ratio = true)
    (sa_Ratio : PySem.W.findIn K (.ref C_Ratio) "__setattr__" = some (some (.builtin "object.__setattr__")))
    (mk_Ratio : PySem.W.makesIn K C_Ratio = true)
    (kc_Ratio : PySem.W.keepIn K (.ref C_Ratio) = true)
    (xa_Ratio : PySem.W.findIn K (.ref C_Ratio) "__class__" = some (some (.builtin "object.__class__")))
    (xm_Ratio : PySem.W.mroIn K C_Ratio (.type "object") = some true)
    (t1_Ratio : PySem.W.kitOne K (.ref C_Ratio) (.type "int") = some false)
    (t2_Ratio : PySem.W.kitOne K (.ref C_Ratio) (.type "bool") = some false)
    (t3_Ratio : PySem.W.kitOne K (.ref C_Ratio) (.type "str") = some false)
    (t4_Ratio : PySem.W.kitOne K (.ref C_Ratio) (.type "list") = some false)
    (t5_Ratio : PySem.W.kitOne K (.ref C_Ratio) (.type "tuple") = some false)
    (t6_Ratio : PySem.W.kitOne K (.ref C_Ratio) (.type "dict") = some false)
    (o1_Ratio : PySem.W.kitOne K (.type "NoneType") (.ref C_Ratio) = some false)
    (o2_Ratio : PySem.W.kitOne K (.type "bool") (.ref C_Ratio) = some false)
    (o3_Ratio : PySem.W.kitOne K (.type "int") (.ref C_Ratio) = some false)
    (o4_Ratio : PySem.W.kitOne K (.type "str") (.ref C_Ratio) = some false)
    (o5_Ratio : PySem.W.kitOne K (.type "list") (.ref C_Ratio) = some false)
    (o6_Ratio : PySem.W.kitOne K (.type "tuple") (.ref C_Ratio) = some false)
    (o7_Ratio : PySem.W.kitOne K (.type "dict") (.ref C_Ratio) = some false)
    (w_Ratio_Form : PySem.W.kitOne K (.ref C_Ratio) (.ref C_Form) = some false)
    (pg_Form : PySem.W.plainGet K C_Form Str.empty = true)
    (hd_Form : PySem.W.hasDictIn K C_Form = true)
    (po_Form : PySem.W.plainOver K C_Form = true)
    (sa_Form : PySem.W.findIn K (.ref C_Form) "__setattr__" = some (some (.builtin "object.__setattr__")))
    (mk_Form : PySem.W.makesIn K C_Form = true)
    (kc_Form : PySem.W.keepIn K (.ref C_Form) = true)
    (xa_Form : PySem.W.findIn K (.ref C_Form) "__class__" = some (some (.builtin "object.__class__")))
    (xm_Form : PySem.W.mroIn K C_Form (.type "object") = some true)
    (t1_Form : PySem.W.kitOne K (.ref C_Form) (.type "int") = some false)
    (t2_Form : PySem.W.kitOne K (.ref C_Form) (.type "bool") = some false)
    (t3_Form : PySem.W.kitOne K (.ref C_Form) (.type "str") = some false)
    (t4_Form : PySem.W.kitOne K (.ref C_Form) (.type "list") = some false)
    (t5_Form : PySem.W.kitOne K (.ref C_Form) (.type "tuple") = some false)
    (t6_Form : PySem.W.kitOne K (.ref C_Form) (.type "dict") = some false)
    (o1_Form : PySem.W.kitOne K (.type "NoneType") (.ref C_Form) = some false)
    (o2_Form : PySem.W.kitOne K (.type "bool") (.ref C_Form) = some false)
    (o3_Form : PySem.W.kitOne K (.type "int") (.ref C_Form) = some false)
    (o4_Form : PySem.W.kitOne K (.type "str") (.ref C_Form) = some false)
    (o5_Form : PySem.W.kitOne K (.type "list") (.ref C_Form) = some false)
    (o6_Form : PySem.W.kitOne K (.type "tuple") (.ref C_Form) = some false)
    (o7_Form : PySem.W.kitOne K (.type "dict") (.ref C_Form) = some false)
    (w_Form_Ratio : PySem.W.kitOne K (.ref C_Form) (.ref C_Ratio) = some false)
    (rd_Form : PySem.W.readsIn K C_Form (.type "type") = true)
    (ga_Form : PySem.W.specialIn K (.ref C_Form) "__getattribute__" = some (some (.builtin "type.__getattribute__")))
    (qs1_Ratio : PySem.W.subIn K (.ref C_Ratio) (.type "NoneType") = some false)
    (qs2_Ratio : PySem.W.subIn K (.ref C_Ratio) (.type "bool") = some false)
    (qs3_Ratio : PySem.W.subIn K (.ref C_Ratio) (.type "int") = some false)
    (qs4_Ratio : PySem.W.subIn K (.ref C_Ratio) (.type "str") = some false)
    (qs5_Ratio : PySem.W.subIn K (.ref C_Ratio) (.type "list") = some false)
    (qs6_Ratio : PySem.W.subIn K (.ref C_Ratio) (.type "tuple") = some false)
    (qs7_Ratio : PySem.W.subIn K (.ref C_Ratio) (.type "dict") = some false)
    (qc_Ratio_Form : PySem.W.subIn K (.ref C_Ratio) (.ref C_Form) = some false)
    (qs1_Form : PySem.W.subIn K (.ref C_Form) (.type "NoneType") = some false)
    (qs2_Form : PySem.W.subIn K (.ref C_Form) (.type "bool") = some false)
    (qs3_Form : PySem.W.subIn K (.ref C_Form) (.type "int") = some false)
    (qs4_Form : PySem.W.subIn K (.ref C_Form) (.type "str") = some false)
    (qs5_Form : PySem.W.subIn K (.ref C_Form) (.type "list") = some false)
    (qs6_Form : PySem.W.subIn K (.ref C_Form) (.type "tuple") = some false)
    (qs7_Form : PySem.W.subIn K (.ref C_Form) (.type "dict") = some false)
    (qc_Form_Ratio : PySem.W.subIn K (.ref C_Form) (.ref C_Ratio) = some false)
    (qn_Ratio : PySem.W.findIn K (.ref C_Ratio) "__ne__" = some (some (.builtin "object.__ne__")))
    (qo_Ratio : PySem.W.mroIn K C_Ratio (.type "object") = some true)
    (qn_Form : PySem.W.findIn K (.ref C_Form) "__ne__" = some (some (.builtin "object.__ne__")))
    (qo_Form : PySem.W.mroIn K C_Form (.type "object") = some true)
    (xn : PySem.W.specialIn K (.builtin "object.__class__") "__get__" = some (some (.builtin "getset_descriptor.__get__")))
    (xt : PySem.W.takesIn K (.builtin "object.__class__") = some true)
    (dgn : PySem.W.nsIn K cStatics "sys.int_max_str_digits" = some none)
    (nf_own_bottom : PySem.W.findIn K (.ref C_Ratio) "own_bottom" = some none)
    (nf_own_top : PySem.W.findIn K (.ref C_Ratio) "own_top" = some none)
    (nf_own_number : PySem.W.findIn K (.ref C_Form) "own_number" = some none)
    (nf_own_weights : PySem.W.findIn K (.ref C_Form) "own_weights" = some none)
    (zz_abs : PySem.W.nsIn K mainGlobals "abs" = some none)
    (zz_all : PySem.W.nsIn K mainGlobals "all" = some none)
    (zz_any : PySem.W.nsIn K mainGlobals "any" = some none)
    (zz_bool : PySem.W.nsIn K mainGlobals "bool" = some none)
    (zz_dict : PySem.W.nsIn K mainGlobals "dict" = some none)
    (zz_divmod : PySem.W.nsIn K mainGlobals "divmod" = some none)
    (zz_enumerate : PySem.W.nsIn K mainGlobals "enumerate" = some none)
    (zz_int : PySem.W.nsIn K mainGlobals "int" = some none)
    (zz_isinstance : PySem.W.nsIn K mainGlobals "isinstance" = some none)
    (zz_len : PySem.W.nsIn K mainGlobals "len" = some none)
    (zz_list : PySem.W.nsIn K mainGlobals "list" = some none)
    (zz_max : PySem.W.nsIn K mainGlobals "max" = some none)
    (zz_min : PySem.W.nsIn K mainGlobals "min" = some none)
    (zz_range : PySem.W.nsIn K mainGlobals "range" = some none)
    (zz_repr : PySem.W.nsIn K mainGlobals "repr" = some none)
    (zz_sorted : PySem.W.nsIn K mainGlobals "sorted" = some none)
    (zz_str : PySem.W.nsIn K mainGlobals "str" = some none)
    (gc_LETTERS : PySem.W.nsIn K mainGlobals "LETTERS" = some (some (.str "abcdefghijklmnopqrstuvwxyz" tg_LETTERS)))
    (gc_MOST_LETTERS : PySem.W.nsIn K mainGlobals "MOST_LETTERS" = some (some (.int 8 tg_MOST_LETTERS)))
    (a_law_common : PySem.W.nsIn K mainGlobals "_law_common" = some (some (.ref f_law_common)))
    (l_law_common : K.lookup f_law_common = some ⟨oc_law_common, od_law_common, .func (PySem.W.fnOf "_law_common" "_law_common" (defArgs st_law_common) (defBody st_law_common) (defScope st_law_common) .none kV_law_common dc_law_common pm_law_common an_law_common cd_law_common ct_law_common), sl_law_common⟩)
    (c_law_common : PySem.W.codeIn K cd_law_common "_law_common" = true)
    (k_law_common : PySem.W.keepIn K (.ref f_law_common) = true)
    (a_law_lowest : PySem.W.nsIn K mainGlobals "_law_lowest" = some (some (.ref f_law_lowest)))
    (l_law_lowest : K.lookup f_law_lowest = some ⟨oc_law_lowest, od_law_lowest, .func (PySem.W.fnOf "_law_lowest" "_law_lowest" (defArgs st_law_lowest) (defBody st_law_lowest) (defScope st_law_lowest) .none kV_law_lowest dc_law_lowest pm_law_lowest an_law_lowest cd_law_lowest ct_law_lowest), sl_law_lowest⟩)
    (c_law_lowest : PySem.W.codeIn K cd_law_lowest "_law_lowest" = true)
    (k_law_lowest : PySem.W.keepIn K (.ref f_law_lowest) = true)
    (a_law_dip : PySem.W.nsIn K mainGlobals "_law_dip" = some (some (.ref f_law_dip)))
    (l_law_dip : K.lookup f_law_dip = some ⟨oc_law_dip, od_law_dip, .func (PySem.W.fnOf "_law_dip" "_law_dip" (defArgs st_law_dip) (defBody st_law_dip) (defScope st_law_dip) .none kV_law_dip dc_law_dip pm_law_dip an_law_dip cd_law_dip ct_law_dip), sl_law_dip⟩)
    (c_law_dip : PySem.W.codeIn K cd_law_dip "_law_dip" = true)
    (k_law_dip : PySem.W.keepIn K (.ref f_law_dip) = true)
    (a_law_choice : PySem.W.nsIn K mainGlobals "_law_choice" = some (some (.ref f_law_choice)))
    (l_law_choice : K.lookup f_law_choice = some ⟨oc_law_choice, od_law_choice, .func (PySem.W.fnOf "_law_choice" "_law_choice" (defArgs st_law_choice) (defBody st_law_choice) (defScope st_law_choice) .none kV_law_choice dc_law_choice pm_law_choice an_law_choice cd_law_choice ct_law_choice), sl_law_choice⟩)
    (c_law_choice : PySem.W.codeIn K cd_law_choice "_law_choice" = true)
    (k_law_choice : PySem.W.keepIn K (.ref f_law_choice) = true)
    (a_law_integer : PySem.W.nsIn K mainGlobals "_law_integer" = some (some (.ref f_law_integer)))
    (l_law_integer : K.lookup f_law_integer = some ⟨oc_law_integer, od_law_integer, .func (PySem.W.fnOf "_law_integer" "_law_integer" (defArgs st_law_integer) (defBody st_law_integer) (defScope st_law_integer) .none kV_law_integer dc_law_integer pm_law_integer an_law_integer cd_law_integer ct_law_integer), sl_law_integer⟩)
    (c_law_integer : PySem.W.codeIn K cd_law_integer "_law_integer" = true)
    (k_law_integer : PySem.W.keepIn K (.ref f_law_integer) = true)
    (a_law_parts : PySem.W.nsIn K mainGlobals "_law_parts" = some (some (.ref f_law_parts)))
    (l_law_parts : K.lookup f_law_parts = some ⟨oc_law_parts, od_law_parts, .func (PySem.W.fnOf "_law_parts" "_law_parts" (defArgs st_law_parts) (defBody st_law_parts) (defScope st_law_parts) .none kV_law_parts dc_law_parts pm_law_parts an_law_parts cd_law_parts ct_law_parts), sl_law_parts⟩)
    (c_law_parts : PySem.W.codeIn K cd_law_parts "_law_parts" = true)
    (k_law_parts : PySem.W.keepIn K (.ref f_law_parts) = true)
    (a_law_sum : PySem.W.nsIn K mainGlobals "_law_sum" = some (some (.ref f_law_sum)))
    (l_law_sum : K.lookup f_law_sum = some ⟨oc_law_sum, od_law_sum, .func (PySem.W.fnOf "_law_sum" "_law_sum" (defArgs st_law_sum) (defBody st_law_sum) (defScope st_law_sum) .none kV_law_sum dc_law_sum pm_law_sum an_law_sum cd_law_sum ct_law_sum), sl_law_sum⟩)
    (c_law_sum : PySem.W.codeIn K cd_law_sum "_law_sum" = true)
    (k_law_sum : PySem.W.keepIn K (.ref f_law_sum) = true)
    (a_law_near : PySem.W.nsIn K mainGlobals "_law_near" = some (some (.ref f_law_near)))
    (l_law_near : K.lookup f_law_near = some ⟨oc_law_near, od_law_near, .func (PySem.W.fnOf "_law_near" "_law_near" (defArgs st_law_near) (defBody st_law_near) (defScope st_law_near) .none kV_law_near dc_law_near pm_law_near an_law_near cd_law_near ct_law_near), sl_law_near⟩)
    (c_law_near : PySem.W.codeIn K cd_law_near "_law_near" = true)
    (k_law_near : PySem.W.keepIn K (.ref f_law_near) = true)
    (a_is_integer : PySem.W.nsIn K mainGlobals "is_integer" = some (some (.ref f_is_integer)))
    (l_is_integer : K.lookup f_is_integer = some ⟨oc_is_integer, od_is_integer, .func (PySem.W.fnOf "is_integer" "is_integer" (defArgs st_is_integer) (defBody st_is_integer) (defScope st_is_integer) .none kV_is_integer dc_is_integer pm_is_integer an_is_integer cd_is_integer ct_is_integer), sl_is_integer⟩)
    (c_is_integer : PySem.W.codeIn K cd_is_integer "is_integer" = true)
    (k_is_integer : PySem.W.keepIn K (.ref f_is_integer) = true)
    (a_common_divisor : PySem.W.nsIn K mainGlobals "common_divisor" = some (some (.ref f_common_divisor)))
    (l_common_divisor : K.lookup f_common_divisor = some ⟨oc_common_divisor, od_common_divisor, .func (PySem.W.fnOf "common_divisor" "common_divisor" (defArgs st_common_divisor) (defBody st_common_divisor) (defScope st_common_divisor) .none kV_common_divisor dc_common_divisor pm_common_divisor an_common_divisor cd_common_divisor ct_common_divisor), sl_common_divisor⟩)
    (c_common_divisor : PySem.W.codeIn K cd_common_divisor "common_divisor" = true)
    (k_common_divisor : PySem.W.keepIn K (.ref f_common_divisor) = true)
    (a_Ratio_DinitD : PySem.W.findIn K (.ref C_Ratio) "__init__" = some (some (.ref f_Ratio_DinitD)))
    (i_Ratio_DinitD : PySem.W.isFn K (.ref f_Ratio_DinitD) = true)
    (l_Ratio_DinitD : K.lookup f_Ratio_DinitD = some ⟨oc_Ratio_DinitD, od_Ratio_DinitD, .func (PySem.W.fnOf "__init__" "Ratio.__init__" (defArgs st_Ratio_DinitD) (defBody st_Ratio_DinitD) (defScope st_Ratio_DinitD) (.ref d_Ratio_DinitD) kV_Ratio_DinitD dc_Ratio_DinitD pm_Ratio_DinitD an_Ratio_DinitD cd_Ratio_DinitD ct_Ratio_DinitD), sl_Ratio_DinitD⟩)
    (c_Ratio_DinitD : PySem.W.codeIn K cd_Ratio_DinitD "Ratio.__init__" = true)
    (k_Ratio_DinitD : PySem.W.keepIn K (.ref f_Ratio_DinitD) = true)
    (dl_Ratio_DinitD : K.lookup d_Ratio_DinitD = some ⟨.type "tuple", ode_Ratio_DinitD, .seq #[.int 1 tk_Ratio_DinitD_0] nn_Ratio_DinitD, sld_Ratio_DinitD⟩)
    (a_law_made : PySem.W.nsIn K mainGlobals "_law_made" = some (some (.ref f_law_made)))
    (l_law_made : K.lookup f_law_made = some ⟨oc_law_made, od_law_made, .func (PySem.W.fnOf "_law_made" "_law_made" (defArgs st_law_made) (defBody st_law_made) (defScope st_law_made) .none kV_law_made dc_law_made pm_law_made an_law_made cd_law_made ct_law_made), sl_law_made⟩)
    (c_law_made : PySem.W.codeIn K cd_law_made "_law_made" = true)
    (k_law_made : PySem.W.keepIn K (.ref f_law_made) = true)
    (a_Ratio_DreprD : PySem.W.findIn K (.ref C_Ratio) "__repr__" = some (some (.ref f_Ratio_DreprD)))
    (i_Ratio_DreprD : PySem.W.isFn K (.ref f_Ratio_DreprD) = true)
    (l_Ratio_DreprD : K.lookup f_Ratio_DreprD = some ⟨oc_Ratio_DreprD, od_Ratio_DreprD, .func (PySem.W.fnOf "__repr__" "Ratio.__repr__" (defArgs st_Ratio_DreprD) (defBody st_Ratio_DreprD) (defScope st_Ratio_DreprD) .none kV_Ratio_DreprD dc_Ratio_DreprD pm_Ratio_DreprD an_Ratio_DreprD cd_Ratio_DreprD ct_Ratio_DreprD), sl_Ratio_DreprD⟩)
    (c_Ratio_DreprD : PySem.W.codeIn K cd_Ratio_DreprD "Ratio.__repr__" = true)
    (k_Ratio_DreprD : PySem.W.keepIn K (.ref f_Ratio_DreprD) = true)
    (a_is_number : PySem.W.nsIn K mainGlobals "is_number" = some (some (.ref f_is_number)))
    (l_is_number : K.lookup f_is_number = some ⟨oc_is_number, od_is_number, .func (PySem.W.fnOf "is_number" "is_number" (defArgs st_is_number) (defBody st_is_number) (defScope st_is_number) .none kV_is_number dc_is_number pm_is_number an_is_number cd_is_number ct_is_number), sl_is_number⟩)
    (c_is_number : PySem.W.codeIn K cd_is_number "is_number" = true)
    (k_is_number : PySem.W.keepIn K (.ref f_is_number) = true)
    (a_want_number : PySem.W.nsIn K mainGlobals "want_number" = some (some (.ref f_want_number)))
    (l_want_number : K.lookup f_want_number = some ⟨oc_want_number, od_want_number, .func (PySem.W.fnOf "want_number" "want_number" (defArgs st_want_number) (defBody st_want_number) (defScope st_want_number) .none kV_want_number dc_want_number pm_want_number an_want_number cd_want_number ct_want_number), sl_want_number⟩)
    (c_want_number : PySem.W.codeIn K cd_want_number "want_number" = true)
    (k_want_number : PySem.W.keepIn K (.ref f_want_number) = true)
    (a_as_ratio : PySem.W.nsIn K mainGlobals "as_ratio" = some (some (.ref f_as_ratio)))
    (l_as_ratio : K.lookup f_as_ratio = some ⟨oc_as_ratio, od_as_ratio, .func (PySem.W.fnOf "as_ratio" "as_ratio" (defArgs st_as_ratio) (defBody st_as_ratio) (defScope st_as_ratio) .none kV_as_ratio dc_as_ratio pm_as_ratio an_as_ratio cd_as_ratio ct_as_ratio), sl_as_ratio⟩)
    (c_as_ratio : PySem.W.codeIn K cd_as_ratio "as_ratio" = true)
    (k_as_ratio : PySem.W.keepIn K (.ref f_as_ratio) = true)
    (a_Ratio_is_below : PySem.W.findIn K (.ref C_Ratio) "is_below" = some (some (.ref f_Ratio_is_below)))
    (i_Ratio_is_below : PySem.W.isFn K (.ref f_Ratio_is_below) = true)
    (l_Ratio_is_below : K.lookup f_Ratio_is_below = some ⟨oc_Ratio_is_below, od_Ratio_is_below, .func (PySem.W.fnOf "is_below" "Ratio.is_below" (defArgs st_Ratio_is_below) (defBody st_Ratio_is_below) (defScope st_Ratio_is_below) .none kV_Ratio_is_below dc_Ratio_is_below pm_Ratio_is_below an_Ratio_is_below cd_Ratio_is_below ct_Ratio_is_below), sl_Ratio_is_below⟩)
    (c_Ratio_is_below : PySem.W.codeIn K cd_Ratio_is_below "Ratio.is_below" = true)
    (k_Ratio_is_below : PySem.W.keepIn K (.ref f_Ratio_is_below) = true)
    (a_Ratio_DeqD : PySem.W.findIn K (.ref C_Ratio) "__eq__" = some (some (.ref f_Ratio_DeqD)))
    (i_Ratio_DeqD : PySem.W.isFn K (.ref f_Ratio_DeqD) = true)
    (l_Ratio_DeqD : K.lookup f_Ratio_DeqD = some ⟨oc_Ratio_DeqD, od_Ratio_DeqD, .func (PySem.W.fnOf "__eq__" "Ratio.__eq__" (defArgs st_Ratio_DeqD) (defBody st_Ratio_DeqD) (defScope st_Ratio_DeqD) .none kV_Ratio_DeqD dc_Ratio_DeqD pm_Ratio_DeqD an_Ratio_DeqD cd_Ratio_DeqD ct_Ratio_DeqD), sl_Ratio_DeqD⟩)
    (c_Ratio_DeqD : PySem.W.codeIn K cd_Ratio_DeqD "Ratio.__eq__" = true)
    (k_Ratio_DeqD : PySem.W.keepIn K (.ref f_Ratio_DeqD) = true)
    (a_Form_DeqD : PySem.W.findIn K (.ref C_Form) "__eq__" = some (some (.ref f_Form_DeqD)))
    (i_Form_DeqD : PySem.W.isFn K (.ref f_Form_DeqD) = true)
    (l_Form_DeqD : K.lookup f_Form_DeqD = some ⟨oc_Form_DeqD, od_Form_DeqD, .func (PySem.W.fnOf "__eq__" "Form.__eq__" (defArgs st_Form_DeqD) (defBody st_Form_DeqD) (defScope st_Form_DeqD) .none kV_Form_DeqD dc_Form_DeqD pm_Form_DeqD an_Form_DeqD cd_Form_DeqD ct_Form_DeqD), sl_Form_DeqD⟩)
    (c_Form_DeqD : PySem.W.codeIn K cd_Form_DeqD "Form.__eq__" = true)
    (k_Form_DeqD : PySem.W.keepIn K (.ref f_Form_DeqD) = true)
    (a_Ratio_DstrD : PySem.W.findIn K (.ref C_Ratio) "__str__" = some (some (.ref f_Ratio_DstrD)))
    (i_Ratio_DstrD : PySem.W.isFn K (.ref f_Ratio_DstrD) = true)
    (l_Ratio_DstrD : K.lookup f_Ratio_DstrD = some ⟨oc_Ratio_DstrD, od_Ratio_DstrD, .func (PySem.W.fnOf "__str__" "Ratio.__str__" (defArgs st_Ratio_DstrD) (defBody st_Ratio_DstrD) (defScope st_Ratio_DstrD) .none kV_Ratio_DstrD dc_Ratio_DstrD pm_Ratio_DstrD an_Ratio_DstrD cd_Ratio_DstrD ct_Ratio_DstrD), sl_Ratio_DstrD⟩)
    (c_Ratio_DstrD : PySem.W.codeIn K cd_Ratio_DstrD "Ratio.__str__" = true)
    (k_Ratio_DstrD : PySem.W.keepIn K (.ref f_Ratio_DstrD) = true)
    (a_is_name : PySem.W.nsIn K mainGlobals "is_name" = some (some (.ref f_is_name)))
    (l_is_name : K.lookup f_is_name = some ⟨oc_is_name, od_is_name, .func (PySem.W.fnOf "is_name" "is_name" (defArgs st_is_name) (defBody st_is_name) (defScope st_is_name) .none kV_is_name dc_is_name pm_is_name an_is_name cd_is_name ct_is_name), sl_is_name⟩)
    (c_is_name : PySem.W.codeIn K cd_is_name "is_name" = true)
    (k_is_name : PySem.W.keepIn K (.ref f_is_name) = true)
    (a_is_chart : PySem.W.nsIn K mainGlobals "is_chart" = some (some (.ref f_is_chart)))
    (l_is_chart : K.lookup f_is_chart = some ⟨oc_is_chart, od_is_chart, .func (PySem.W.fnOf "is_chart" "is_chart" (defArgs st_is_chart) (defBody st_is_chart) (defScope st_is_chart) .none kV_is_chart dc_is_chart pm_is_chart an_is_chart cd_is_chart ct_is_chart), sl_is_chart⟩)
    (c_is_chart : PySem.W.codeIn K cd_is_chart "is_chart" = true)
    (k_is_chart : PySem.W.keepIn K (.ref f_is_chart) = true)
    (a_Ratio_sign : PySem.W.findIn K (.ref C_Ratio) "sign" = some (some (.ref p_Ratio_sign)))
    (g_Ratio_sign : PySem.W.specialIn K (.ref p_Ratio_sign) "__get__" = some (some (.builtin "property.__get__")))
    (t_Ratio_sign : PySem.W.takesIn K (.ref p_Ratio_sign) = some true)
    (e_Ratio_sign : PySem.W.recIn K p_Ratio_sign "property" = some (.ref f_Ratio_sign :: r_Ratio_sign))
    (l_Ratio_sign : K.lookup f_Ratio_sign = some ⟨oc_Ratio_sign, od_Ratio_sign, .func (PySem.W.fnOf "sign" "Ratio.sign" (defArgs st_Ratio_sign) (defBody st_Ratio_sign) (defScope st_Ratio_sign) .none kV_Ratio_sign dc_Ratio_sign pm_Ratio_sign an_Ratio_sign cd_Ratio_sign ct_Ratio_sign), sl_Ratio_sign⟩)
    (c_Ratio_sign : PySem.W.codeIn K cd_Ratio_sign "Ratio.sign" = true)
    (k_Ratio_sign : PySem.W.keepIn K (.ref f_Ratio_sign) = true)
    (a_without_zeros : PySem.W.nsIn K mainGlobals "without_zeros" = some (some (.ref f_without_zeros)))
    (l_without_zeros : K.lookup f_without_zeros = some ⟨oc_without_zeros, od_without_zeros, .func (PySem.W.fnOf "without_zeros" "without_zeros" (defArgs st_without_zeros) (defBody st_without_zeros) (defScope st_without_zeros) .none kV_without_zeros dc_without_zeros pm_without_zeros an_without_zeros cd_without_zeros ct_without_zeros), sl_without_zeros⟩)
    (c_without_zeros : PySem.W.codeIn K cd_without_zeros "without_zeros" = true)
    (k_without_zeros : PySem.W.keepIn K (.ref f_without_zeros) = true)
    (a_Form_DinitD : PySem.W.findIn K (.ref C_Form) "__init__" = some (some (.ref f_Form_DinitD)))
    (i_Form_DinitD : PySem.W.isFn K (.ref f_Form_DinitD) = true)
    (l_Form_DinitD : K.lookup f_Form_DinitD = some ⟨oc_Form_DinitD, od_Form_DinitD, .func (PySem.W.fnOf "__init__" "Form.__init__" (defArgs st_Form_DinitD) (defBody st_Form_DinitD) (defScope st_Form_DinitD) (.ref d_Form_DinitD) kV_Form_DinitD dc_Form_DinitD pm_Form_DinitD an_Form_DinitD cd_Form_DinitD ct_Form_DinitD), sl_Form_DinitD⟩)
    (c_Form_DinitD : PySem.W.codeIn K cd_Form_DinitD "Form.__init__" = true)
    (k_Form_DinitD : PySem.W.keepIn K (.ref f_Form_DinitD) = true)
    (dl_Form_DinitD : K.lookup d_Form_DinitD = some ⟨.type "tuple", ode_Form_DinitD, .seq #[.none, .int 0 tk_Form_DinitD_1] nn_Form_DinitD, sld_Form_DinitD⟩)
    (a_Form_of : PySem.W.findCls K (.ref C_Form) (.type "type") "of" = some (.get (.builtin "classmethod.__get__") (.ref p_Form_of) .none (.ref C_Form)))
    (e_Form_of : PySem.W.recIn K p_Form_of "classmethod" = some (.ref f_Form_of :: r_Form_of))
    (n_Form_of : PySem.W.fnIn K f_Form_of = true)
    (l_Form_of : K.lookup f_Form_of = some ⟨oc_Form_of, od_Form_of, .func (PySem.W.fnOf "of" "Form.of" (defArgs st_Form_of) (defBody st_Form_of) (defScope st_Form_of) .none kV_Form_of dc_Form_of pm_Form_of an_Form_of cd_Form_of ct_Form_of), sl_Form_of⟩)
    (c_Form_of : PySem.W.codeIn K cd_Form_of "Form.of" = true)
    (k_Form_of : PySem.W.keepIn K (.ref f_Form_of) = true)
    (a_law_whole_right : PySem.W.nsIn K mainGlobals "_law_whole_right" = some (some (.ref f_law_whole_right)))
    (l_law_whole_right : K.lookup f_law_whole_right = some ⟨oc_law_whole_right, od_law_whole_right, .func (PySem.W.fnOf "_law_whole_right" "_law_whole_right" (defArgs st_law_whole_right) (defBody st_law_whole_right) (defScope st_law_whole_right) .none kV_law_whole_right dc_law_whole_right pm_law_whole_right an_law_whole_right cd_law_whole_right ct_law_whole_right), sl_law_whole_right⟩)
    (c_law_whole_right : PySem.W.codeIn K cd_law_whole_right "_law_whole_right" = true)
    (k_law_whole_right : PySem.W.keepIn K (.ref f_law_whole_right) = true)
    (a_law_two_right : PySem.W.nsIn K mainGlobals "_law_two_right" = some (some (.ref f_law_two_right)))
    (l_law_two_right : K.lookup f_law_two_right = some ⟨oc_law_two_right, od_law_two_right, .func (PySem.W.fnOf "_law_two_right" "_law_two_right" (defArgs st_law_two_right) (defBody st_law_two_right) (defScope st_law_two_right) .none kV_law_two_right dc_law_two_right pm_law_two_right an_law_two_right cd_law_two_right ct_law_two_right), sl_law_two_right⟩)
    (c_law_two_right : PySem.W.codeIn K cd_law_two_right "_law_two_right" = true)
    (k_law_two_right : PySem.W.keepIn K (.ref f_law_two_right) = true)
    (a_law_right : PySem.W.nsIn K mainGlobals "_law_right" = some (some (.ref f_law_right)))
    (l_law_right : K.lookup f_law_right = some ⟨oc_law_right, od_law_right, .func (PySem.W.fnOf "_law_right" "_law_right" (defArgs st_law_right) (defBody st_law_right) (defScope st_law_right) .none kV_law_right dc_law_right pm_law_right an_law_right cd_law_right ct_law_right), sl_law_right⟩)
    (c_law_right : PySem.W.codeIn K cd_law_right "_law_right" = true)
    (k_law_right : PySem.W.keepIn K (.ref f_law_right) = true)
    (a_law_jar : PySem.W.nsIn K mainGlobals "_law_jar" = some (some (.ref f_law_jar)))
    (l_law_jar : K.lookup f_law_jar = some ⟨oc_law_jar, od_law_jar, .func (PySem.W.fnOf "_law_jar" "_law_jar" (defArgs st_law_jar) (defBody st_law_jar) (defScope st_law_jar) .none kV_law_jar dc_law_jar pm_law_jar an_law_jar cd_law_jar ct_law_jar), sl_law_jar⟩)
    (c_law_jar : PySem.W.codeIn K cd_law_jar "_law_jar" = true)
    (k_law_jar : PySem.W.keepIn K (.ref f_law_jar) = true)
    (a_law : PySem.W.nsIn K mainGlobals "law" = some (some (.ref f_law)))
    (l_law : K.lookup f_law = some ⟨oc_law, od_law, .func (PySem.W.fnOf "law" "law" (defArgs st_law) (defBody st_law) (defScope st_law) .none kV_law dc_law pm_law an_law cd_law ct_law), sl_law⟩)
    (c_law : PySem.W.codeIn K cd_law "law" = true)
    (k_law : PySem.W.keepIn K (.ref f_law) = true)
    : ∀ base : Heap, Cal l.prog w K mg base true 11 fa [] M_law := by
  have gC_Ratio : mg (cn 0) = some (.ref C_Ratio) := by rw [show cn 0 = ("Ratio" : Str) from by decide +kernel]; exact PySem.W.mg_of X G aC_Ratio
  have cl_Ratio : Cls K C_Ratio := ⟨pg_Ratio, hd_Ratio, po_Ratio, sa_Ratio⟩
  have gC_Form : mg (cn 1) = some (.ref C_Form) := by rw [show cn 1 = ("Form" : Str) from by decide +kernel]; exact PySem.W.mg_of X G aC_Form
  have cl_Form : Cls K C_Form := ⟨pg_Form, hd_Form, po_Form, sa_Form⟩
  have dg : DigF K := ⟨dgn⟩
  have isi : IsiF K mg [0, 1] := isi2 (clsf_mk gC_Ratio cl_Ratio xa_Ratio xn xt xm_Ratio t1_Ratio t2_Ratio t3_Ratio t4_Ratio t5_Ratio t6_Ratio o1_Ratio o2_Ratio o3_Ratio o4_Ratio o5_Ratio o6_Ratio o7_Ratio) (clsf_mk gC_Form cl_Form xa_Form xn xt xm_Form t1_Form t2_Form t3_Form t4_Form t5_Form t6_Form o1_Form o2_Form o3_Form o4_Form o5_Form o6_Form o7_Form) w_Ratio_Form w_Form_Ratio
  have z : Zs mg := ⟨PySem.W.mg_none_of X G zz_abs, PySem.W.mg_none_of X G zz_all, PySem.W.mg_none_of X G zz_any, PySem.W.mg_none_of X G zz_bool, PySem.W.mg_none_of X G zz_dict, PySem.W.mg_none_of X G zz_divmod, PySem.W.mg_none_of X G zz_enumerate, PySem.W.mg_none_of X G zz_int, PySem.W.mg_none_of X G zz_isinstance, PySem.W.mg_none_of X G zz_len, PySem.W.mg_none_of X G zz_list, PySem.W.mg_none_of X G zz_max, PySem.W.mg_none_of X G zz_min, PySem.W.mg_none_of X G zz_range, PySem.W.mg_none_of X G zz_repr, PySem.W.mg_none_of X G zz_sorted, PySem.W.mg_none_of X G zz_str⟩
  have c_LETTERS : GStr mg "LETTERS" "abcdefghijklmnopqrstuvwxyz" := ⟨_, PySem.W.mg_of X G gc_LETTERS⟩
  have c_MOST_LETTERS : GInt mg "MOST_LETTERS" 8 := ⟨_, PySem.W.mg_of X G gc_MOST_LETTERS⟩
  have f_own_bottom : KFd K mg 0 "own_bottom" := ⟨C_Ratio, gC_Ratio, cl_Ratio, nf_own_bottom⟩
  have f_own_top : KFd K mg 0 "own_top" := ⟨C_Ratio, gC_Ratio, cl_Ratio, nf_own_top⟩
  have f_own_number : KFd K mg 1 "own_number" := ⟨C_Form, gC_Form, cl_Form, nf_own_number⟩
  have f_own_weights : KFd K mg 1 "own_weights" := ⟨C_Form, gC_Form, cl_Form, nf_own_weights⟩
  intro base
  have cc_law_common : Cal l.prog w K mg base false 1 f_law_common [] M_law_common := cal_law_common (txd l_law_common c_law_common k_law_common) z
  have cc_law_lowest : Cal l.prog w K mg base false 2 f_law_lowest [] M_law_lowest := cal_law_lowest (txd l_law_lowest c_law_lowest k_law_lowest) (⟨f_law_common, PySem.W.mg_of X G a_law_common, k_law_common, cc_law_common⟩)
  have cc_law_dip : Cal l.prog w K mg base false 1 f_law_dip [] M_law_dip := cal_law_dip (txd l_law_dip c_law_dip k_law_dip) z
  have cc_law_choice : Cal l.prog w K mg base false 2 f_law_choice [] M_law_choice := cal_law_choice (txd l_law_choice c_law_choice k_law_choice) z (⟨f_law_dip, PySem.W.mg_of X G a_law_dip, k_law_dip, cc_law_dip⟩)
  have cc_law_integer : Cal l.prog w K mg base false 3 f_law_integer [] M_law_integer := cal_law_integer (txd l_law_integer c_law_integer k_law_integer) (⟨f_law_choice, PySem.W.mg_of X G a_law_choice, k_law_choice, cc_law_choice⟩) (⟨f_law_dip, PySem.W.mg_of X G a_law_dip, k_law_dip, cc_law_dip⟩)
  have cc_law_parts : Cal l.prog w K mg base false 4 f_law_parts [] M_law_parts := cal_law_parts (txd l_law_parts c_law_parts k_law_parts) (⟨f_law_integer, PySem.W.mg_of X G a_law_integer, k_law_integer, cc_law_integer⟩)
  have cc_law_sum : Cal l.prog w K mg base false 3 f_law_sum [] M_law_sum := cal_law_sum (txd l_law_sum c_law_sum k_law_sum) (⟨f_law_lowest, PySem.W.mg_of X G a_law_lowest, k_law_lowest, cc_law_lowest⟩)
  have cc_law_near : Cal l.prog w K mg base false 5 f_law_near [] M_law_near := cal_law_near (txd l_law_near c_law_near k_law_near) (⟨f_law_dip, PySem.W.mg_of X G a_law_dip, k_law_dip, cc_law_dip⟩) (⟨f_law_parts, PySem.W.mg_of X G a_law_parts, k_law_parts, cc_law_parts⟩) (⟨f_law_lowest, PySem.W.mg_of X G a_law_lowest, k_law_lowest, cc_law_lowest⟩) (⟨f_law_sum, PySem.W.mg_of X G a_law_sum, k_law_sum, cc_law_sum⟩)
  have cc_is_integer : Cal l.prog w K mg base false 1 f_is_integer [] M_is_integer := cal_is_integer (txd l_is_integer c_is_integer k_is_integer) z isi
  have cc_common_divisor : Cal l.prog w K mg base false 1 f_common_divisor [] M_common_divisor := cal_common_divisor (txd l_common_divisor c_common_divisor k_common_divisor) 
  have cc_Ratio_DinitD : Cal l.prog w K mg base false 2 f_Ratio_DinitD [] M_Ratio_DinitD := cal_Ratio_DinitD (txd1 l_Ratio_DinitD c_Ratio_DinitD k_Ratio_DinitD dl_Ratio_DinitD) z (⟨f_is_integer, PySem.W.mg_of X G a_is_integer, k_is_integer, cc_is_integer⟩) (⟨f_common_divisor, PySem.W.mg_of X G a_common_divisor, k_common_divisor, cc_common_divisor⟩) f_own_top f_own_bottom
  have cc_law_made : Cal l.prog w K mg base false 4 f_law_made [] M_law_made := cal_law_made (txd l_law_made c_law_made k_law_made) z (⟨f_law_choice, PySem.W.mg_of X G a_law_choice, k_law_choice, cc_law_choice⟩) (⟨C_Ratio, f_Ratio_DinitD, gC_Ratio, ⟨mk_Ratio, a_Ratio_DinitD, i_Ratio_DinitD, kc_Ratio⟩, cc_Ratio_DinitD⟩)
  have cc_Ratio_DreprD : Cal l.prog w K mg base false 1 f_Ratio_DreprD [] M_Ratio_DreprD := cal_Ratio_DreprD (txd l_Ratio_DreprD c_Ratio_DreprD k_Ratio_DreprD) dg f_own_top f_own_bottom
  have cc_is_number : Cal l.prog w K mg base false 2 f_is_number [] M_is_number := cal_is_number (txd l_is_number c_is_number k_is_number) z isi (⟨f_is_integer, PySem.W.mg_of X G a_is_integer, k_is_integer, cc_is_integer⟩)
  have cc_want_number : Cal l.prog w K mg base false 3 f_want_number [] M_want_number := cal_want_number (txd l_want_number c_want_number k_want_number) (⟨f_is_number, PySem.W.mg_of X G a_is_number, k_is_number, cc_is_number⟩)
  have cc_as_ratio : Cal l.prog w K mg base false 4 f_as_ratio [] M_as_ratio := cal_as_ratio (txd l_as_ratio c_as_ratio k_as_ratio) z isi (⟨C_Ratio, f_Ratio_DinitD, gC_Ratio, ⟨mk_Ratio, a_Ratio_DinitD, i_Ratio_DinitD, kc_Ratio⟩, cc_Ratio_DinitD⟩)
  have cc_Ratio_is_below : Cal l.prog w K mg base false 5 f_Ratio_is_below [] M_Ratio_is_below := cal_Ratio_is_below (txd l_Ratio_is_below c_Ratio_is_below k_Ratio_is_below) (⟨f_want_number, PySem.W.mg_of X G a_want_number, k_want_number, cc_want_number⟩) (⟨f_as_ratio, PySem.W.mg_of X G a_as_ratio, k_as_ratio, cc_as_ratio⟩) f_own_top f_own_bottom
  have ck_Ratio_is_below_other : Cal l.prog w K mg base false 5 f_Ratio_is_below ["other"] MK_Ratio_is_below_other := calk_Ratio_is_below_other (txd l_Ratio_is_below c_Ratio_is_below k_Ratio_is_below) (⟨f_want_number, PySem.W.mg_of X G a_want_number, k_want_number, cc_want_number⟩) (⟨f_as_ratio, PySem.W.mg_of X G a_as_ratio, k_as_ratio, cc_as_ratio⟩) f_own_top f_own_bottom
  have cc_Ratio_DeqD : Cal l.prog w K mg base false 1 f_Ratio_DeqD [] M_Ratio_DeqD := cal_Ratio_DeqD (txd l_Ratio_DeqD c_Ratio_DeqD k_Ratio_DeqD) z isi f_own_top f_own_bottom
  have cc_Form_DeqD : Cal l.prog w K mg base false 1 f_Form_DeqD [] M_Form_DeqD := cal_Form_DeqD (txd l_Form_DeqD c_Form_DeqD k_Form_DeqD) z isi
  have cc_Ratio_DstrD : Cal l.prog w K mg base false 1 f_Ratio_DstrD [] M_Ratio_DstrD := cal_Ratio_DstrD (txd l_Ratio_DstrD c_Ratio_DstrD k_Ratio_DstrD) z dg f_own_bottom f_own_top
  have cc_is_name : Cal l.prog w K mg base false 1 f_is_name [] M_is_name := cal_is_name (txd l_is_name c_is_name k_is_name) z isi c_MOST_LETTERS c_LETTERS
  have cc_is_chart : Cal l.prog w K mg base false 3 f_is_chart [] M_is_chart := cal_is_chart (txd l_is_chart c_is_chart k_is_chart) z isi (⟨f_is_name, PySem.W.mg_of X G a_is_name, k_is_name, cc_is_name⟩) (⟨f_is_number, PySem.W.mg_of X G a_is_number, k_is_number, cc_is_number⟩)
  have cc_Ratio_sign : Cal l.prog w K mg base false 1 f_Ratio_sign [] M_Ratio_sign := cal_Ratio_sign (txd l_Ratio_sign c_Ratio_sign k_Ratio_sign) z f_own_top
  have cc_without_zeros : Cal l.prog w K mg base false 5 f_without_zeros [] M_without_zeros := cal_without_zeros (txd l_without_zeros c_without_zeros k_without_zeros) z (⟨f_as_ratio, PySem.W.mg_of X G a_as_ratio, k_as_ratio, cc_as_ratio⟩) (⟨C_Ratio, p_Ratio_sign, f_Ratio_sign, gC_Ratio, cl_Ratio, ⟨a_Ratio_sign, g_Ratio_sign, t_Ratio_sign, _, e_Ratio_sign⟩, cc_Ratio_sign⟩)
  have cc_Form_DinitD : Cal l.prog w K mg base false 6 f_Form_DinitD [] M_Form_DinitD := cal_Form_DinitD (txd2 l_Form_DinitD c_Form_DinitD k_Form_DinitD dl_Form_DinitD) (⟨f_is_chart, PySem.W.mg_of X G a_is_chart, k_is_chart, cc_is_chart⟩) (⟨f_want_number, PySem.W.mg_of X G a_want_number, k_want_number, cc_want_number⟩) f_own_weights (⟨f_without_zeros, PySem.W.mg_of X G a_without_zeros, k_without_zeros, cc_without_zeros⟩) f_own_number (⟨f_as_ratio, PySem.W.mg_of X G a_as_ratio, k_as_ratio, cc_as_ratio⟩)
  have cc_Form_of : Cal l.prog w K mg base false 8 f_Form_of [] M_Form_of := cal_Form_of (txd l_Form_of c_Form_of k_Form_of) z (⟨f_is_name, PySem.W.mg_of X G a_is_name, k_is_name, cc_is_name⟩) (⟨C_Form, f_Form_DinitD, gC_Form, ⟨mk_Form, a_Form_DinitD, i_Form_DinitD, kc_Form⟩, cc_Form_DinitD⟩)
  have cc_law_whole_right : Cal l.prog w K mg base true 9 f_law_whole_right [] M_law_whole_right := cal_law_whole_right (txd l_law_whole_right c_law_whole_right k_law_whole_right) z dg (⟨f_law_integer, PySem.W.mg_of X G a_law_integer, k_law_integer, cc_law_integer⟩) (⟨C_Ratio, f_Ratio_DreprD, gC_Ratio, a_Ratio_DreprD, i_Ratio_DreprD, cc_Ratio_DreprD⟩) (⟨C_Ratio, f_Ratio_is_below, gC_Ratio, cl_Ratio, ⟨a_Ratio_is_below, i_Ratio_is_below, k_Ratio_is_below⟩, cc_Ratio_is_below⟩) (⟨C_Ratio, f_Ratio_DinitD, gC_Ratio, ⟨mk_Ratio, a_Ratio_DinitD, i_Ratio_DinitD, kc_Ratio⟩, cc_Ratio_DinitD⟩) (eqtab2 gC_Ratio (eqc_mk a_Ratio_DeqD i_Ratio_DeqD qs1_Ratio qs2_Ratio qs3_Ratio qs4_Ratio qs5_Ratio qs6_Ratio qs7_Ratio) (cc_Ratio_DeqD.mono (by decide)) gC_Form (eqc_mk a_Form_DeqD i_Form_DeqD qs1_Form qs2_Form qs3_Form qs4_Form qs5_Form qs6_Form qs7_Form) (cc_Form_DeqD.mono (by decide)) qc_Ratio_Form qc_Form_Ratio) (netabS gC_Ratio qn_Ratio qo_Ratio (netabS gC_Form qn_Form qo_Form netab0)) (⟨C_Ratio, f_Ratio_DstrD, gC_Ratio, a_Ratio_DstrD, i_Ratio_DstrD, cc_Ratio_DstrD⟩) (⟨C_Form, f_Form_DinitD, gC_Form, ⟨mk_Form, a_Form_DinitD, i_Form_DinitD, kc_Form⟩, cc_Form_DinitD⟩) (⟨C_Form, .type "type", p_Form_of, f_Form_of, gC_Form, ⟨rd_Form, ga_Form⟩, ⟨a_Form_of, ⟨_, e_Form_of⟩, n_Form_of⟩, cc_Form_of⟩)
  have cc_law_two_right : Cal l.prog w K mg base true 6 f_law_two_right [] M_law_two_right := cal_law_two_right (txd l_law_two_right c_law_two_right k_law_two_right) z dg (⟨C_Ratio, f_Ratio_is_below, gC_Ratio, cl_Ratio, ⟨a_Ratio_is_below, i_Ratio_is_below, k_Ratio_is_below⟩, cc_Ratio_is_below⟩) (eqtab2 gC_Ratio (eqc_mk a_Ratio_DeqD i_Ratio_DeqD qs1_Ratio qs2_Ratio qs3_Ratio qs4_Ratio qs5_Ratio qs6_Ratio qs7_Ratio) (cc_Ratio_DeqD.mono (by decide)) gC_Form (eqc_mk a_Form_DeqD i_Form_DeqD qs1_Form qs2_Form qs3_Form qs4_Form qs5_Form qs6_Form qs7_Form) (cc_Form_DeqD.mono (by decide)) qc_Ratio_Form qc_Form_Ratio) (netabS gC_Ratio qn_Ratio qo_Ratio (netabS gC_Form qn_Form qo_Form netab0)) (⟨C_Ratio, f_Ratio_is_below, gC_Ratio, cl_Ratio, ⟨a_Ratio_is_below, i_Ratio_is_below, k_Ratio_is_below⟩, ck_Ratio_is_below_other⟩) (⟨C_Ratio, f_Ratio_DreprD, gC_Ratio, a_Ratio_DreprD, i_Ratio_DreprD, cc_Ratio_DreprD⟩)
  have cc_law_right : Cal l.prog w K mg base true 10 f_law_right [] M_law_right := cal_law_right (txd l_law_right c_law_right k_law_right) z dg (⟨f_law_lowest, PySem.W.mg_of X G a_law_lowest, k_law_lowest, cc_law_lowest⟩) (⟨f_law_near, PySem.W.mg_of X G a_law_near, k_law_near, cc_law_near⟩) (⟨f_law_made, PySem.W.mg_of X G a_law_made, k_law_made, cc_law_made⟩) (⟨f_law_whole_right, PySem.W.mg_of X G a_law_whole_right, k_law_whole_right, cc_law_whole_right⟩) (⟨C_Ratio, f_Ratio_DreprD, gC_Ratio, a_Ratio_DreprD, i_Ratio_DreprD, cc_Ratio_DreprD⟩) (eqtab2 gC_Ratio (eqc_mk a_Ratio_DeqD i_Ratio_DeqD qs1_Ratio qs2_Ratio qs3_Ratio qs4_Ratio qs5_Ratio qs6_Ratio qs7_Ratio) (cc_Ratio_DeqD.mono (by decide)) gC_Form (eqc_mk a_Form_DeqD i_Form_DeqD qs1_Form qs2_Form qs3_Form qs4_Form qs5_Form qs6_Form qs7_Form) (cc_Form_DeqD.mono (by decide)) qc_Ratio_Form qc_Form_Ratio) (⟨f_law_two_right, PySem.W.mg_of X G a_law_two_right, k_law_two_right, cc_law_two_right⟩) (⟨C_Ratio, f_Ratio_is_below, gC_Ratio, cl_Ratio, ⟨a_Ratio_is_below, i_Ratio_is_below, k_Ratio_is_below⟩, cc_Ratio_is_below⟩)
  have cc_law_jar : Cal l.prog w K mg base false 1 f_law_jar [] M_law_jar := cal_law_jar (txd l_law_jar c_law_jar k_law_jar) z
  have cc_law : Cal l.prog w K mg base true 11 f_law [] M_law := cal_law (txd l_law c_law k_law) z (⟨f_law_right, PySem.W.mg_of X G a_law_right, k_law_right, cc_law_right⟩) (⟨f_law_jar, PySem.W.mg_of X G a_law_jar, k_law_jar, cc_law_jar⟩)
  have e := hfa.symm.trans (PySem.W.mg_of X G a_law)
  cases e
  exact cc_law
end K12
open PySem PySem.W PyProof.Rows in
set_option maxRecDepth 100000 in
set_option maxHeartbeats 0 in
theorem PySem.Challenge.cw_calledmidway_k12_ratios_compared_holds : PySem.Challenge.rw_calledmidway_k12_ratios_compared.Holds := by
  w_on; o_law; k_head; (case hw => w_witness2)
  k_fill
  refine DL.walk_end (l := PySem.Challenge.rw_calledmidway_k12_ratios_compared) (n := 63) (k := 11) (m := K12.M_law) rfl (by decide) rfl ⟨rfl, by decide, by decide⟩ (fun w h Y => PySem.W.kIn_of Y) ?F K12.law_true
  case F =>
    intro w mg fa h KX G hmg
    refine' K12.all_mk KX G hmg ?aC_Ratio ?aC_Form ?pg_Ratio ?hd_Ratio ?po_Ratio ?sa_Ratio ?mk_Ratio ?kc_Ratio ?xa_Ratio ?xm_Ratio ?t1_Ratio ?t2_Ratio ?t3_Ratio ?t4_Ratio ?t5_Ratio ?t6_Ratio ?o1_Ratio ?o2_Ratio ?o3_Ratio ?o4_Ratio ?o5_Ratio ?o6_Ratio ?o7_Ratio ?w_Ratio_Form ?pg_Form ?hd_Form ?po_Form ?sa_Form ?mk_Form ?kc_Form ?xa_Form ?xm_Form ?t1_Form ?t2_Form ?t3_Form ?t4_Form ?t5_Form ?t6_Form ?o1_Form ?o2_Form ?o3_Form ?o4_Form ?o5_Form ?o6_Form ?o7_Form ?w_Form_Ratio ?rd_Form ?ga_Form ?qs1_Ratio ?qs2_Ratio ?qs3_Ratio ?qs4_Ratio ?qs5_Ratio ?qs6_Ratio ?qs7_Ratio ?qc_Ratio_Form ?qs1_Form ?qs2_Form ?qs3_Form ?qs4_Form ?qs5_Form ?qs6_Form ?qs7_Form ?qc_Form_Ratio ?qn_Ratio ?qo_Ratio ?qn_Form ?qo_Form ?xn ?xt ?dgn ?nf_own_bottom ?nf_own_top ?nf_own_number ?nf_own_weights ?zz_abs ?zz_all ?zz_any ?zz_bool ?zz_dict ?zz_divmod ?zz_enumerate ?zz_int ?zz_isinstance ?zz_len ?zz_list ?zz_max ?zz_min ?zz_range ?zz_repr ?zz_sorted ?zz_str ?gc_LETTERS ?gc_MOST_LETTERS ?a_law_common ?l_law_common ?c_law_common ?k_law_common ?a_law_lowest ?l_law_lowest ?c_law_lowest ?k_law_lowest ?a_law_dip ?l_law_dip ?c_law_dip ?k_law_dip ?a_law_choice ?l_law_choice ?c_law_choice ?k_law_choice ?a_law_integer ?l_law_integer ?c_law_integer ?k_law_integer ?a_law_parts ?l_law_parts ?c_law_parts ?k_law_parts ?a_law_sum ?l_law_sum ?c_law_sum ?k_law_sum ?a_law_near ?l_law_near ?c_law_near ?k_law_near ?a_is_integer ?l_is_integer ?c_is_integer ?k_is_integer ?a_common_divisor ?l_common_divisor ?c_common_divisor ?k_common_divisor ?a_Ratio_DinitD ?i_Ratio_DinitD ?l_Ratio_DinitD ?c_Ratio_DinitD ?k_Ratio_DinitD ?dl_Ratio_DinitD ?a_law_made ?l_law_made ?c_law_made ?k_law_made ?a_Ratio_DreprD ?i_Ratio_DreprD ?l_Ratio_DreprD ?c_Ratio_DreprD ?k_Ratio_DreprD ?a_is_number ?l_is_number ?c_is_number ?k_is_number ?a_want_number ?l_want_number ?c_want_number ?k_want_number ?a_as_ratio ?l_as_ratio ?c_as_ratio ?k_as_ratio ?a_Ratio_is_below ?i_Ratio_is_below ?l_Ratio_is_below ?c_Ratio_is_below ?k_Ratio_is_below ?a_Ratio_DeqD ?i_Ratio_DeqD ?l_Ratio_DeqD ?c_Ratio_DeqD ?k_Ratio_DeqD ?a_Form_DeqD ?i_Form_DeqD ?l_Form_DeqD ?c_Form_DeqD ?k_Form_DeqD ?a_Ratio_DstrD ?i_Ratio_DstrD ?l_Ratio_DstrD ?c_Ratio_DstrD ?k_Ratio_DstrD ?a_is_name ?l_is_name ?c_is_name ?k_is_name ?a_is_chart ?l_is_chart ?c_is_chart ?k_is_chart ?a_Ratio_sign ?g_Ratio_sign ?t_Ratio_sign ?e_Ratio_sign ?l_Ratio_sign ?c_Ratio_sign ?k_Ratio_sign ?a_without_zeros ?l_without_zeros ?c_without_zeros ?k_without_zeros ?a_Form_DinitD ?i_Form_DinitD ?l_Form_DinitD ?c_Form_DinitD ?k_Form_DinitD ?dl_Form_DinitD ?a_Form_of ?e_Form_of ?n_Form_of ?l_Form_of ?c_Form_of ?k_Form_of ?a_law_whole_right ?l_law_whole_right ?c_law_whole_right ?k_law_whole_right ?a_law_two_right ?l_law_two_right ?c_law_two_right ?k_law_two_right ?a_law_right ?l_law_right ?c_law_right ?k_law_right ?a_law_jar ?l_law_jar ?c_law_jar ?k_law_jar ?a_law ?l_law ?c_law ?k_law
    (case aC_Ratio => k_is)
    (case aC_Form => k_is)
    (case pg_Ratio => k_is)
    (case hd_Ratio => k_is)
    (case po_Ratio => k_is)
    (case sa_Ratio => k_is)
    (case mk_Ratio => k_is)
    (case kc_Ratio => k_is)
    (case xa_Ratio => k_is)
    (case xm_Ratio => k_is)
    (case t1_Ratio => kit_is)
    (case t2_Ratio => kit_is)
    (case t3_Ratio => kit_is)
    (case t4_Ratio => kit_is)
    (case t5_Ratio => kit_is)
    (case t6_Ratio => kit_is)
    (case o1_Ratio => kit_is)
    (case o2_Ratio => kit_is)
    (case o3_Ratio => kit_is)
    (case o4_Ratio => kit_is)
    (case o5_Ratio => kit_is)
    (case o6_Ratio => kit_is)
    (case o7_Ratio => kit_is)
    (case w_Ratio_Form => kit_is)
    (case pg_Form => k_is)
    (case hd_Form => k_is)
    (case po_Form => k_is)
    (case sa_Form => k_is)
    (case mk_Form => k_is)
    (case kc_Form => k_is)
    (case xa_Form => k_is)
    (case xm_Form => k_is)
    (case t1_Form => kit_is)
    (case t2_Form => kit_is)
    (case t3_Form => kit_is)
    (case t4_Form => kit_is)
    (case t5_Form => kit_is)
    (case t6_Form => kit_is)
    (case o1_Form => kit_is)
    (case o2_Form => kit_is)
    (case o3_Form => kit_is)
    (case o4_Form => kit_is)
    (case o5_Form => kit_is)
    (case o6_Form => kit_is)
    (case o7_Form => kit_is)
    (case w_Form_Ratio => kit_is)
    (case rd_Form => k_is)
    (case ga_Form => k_is)
    (case qs1_Ratio => k_is)
    (case qs2_Ratio => k_is)
    (case qs3_Ratio => k_is)
    (case qs4_Ratio => k_is)
    (case qs5_Ratio => k_is)
    (case qs6_Ratio => k_is)
    (case qs7_Ratio => k_is)
    (case qc_Ratio_Form => k_is)
    (case qs1_Form => k_is)
    (case qs2_Form => k_is)
    (case qs3_Form => k_is)
    (case qs4_Form => k_is)
    (case qs5_Form => k_is)
    (case qs6_Form => k_is)
    (case qs7_Form => k_is)
    (case qc_Form_Ratio => k_is)
    (case qn_Ratio => k_is)
    (case qo_Ratio => k_is)
    (case qn_Form => k_is)
    (case qo_Form => k_is)
    (case xn => k_is)
    (case xt => k_is)
    (case dgn => k_is)
    (case nf_own_bottom => k_is)
    (case nf_own_top => k_is)
    (case nf_own_number => k_is)
    (case nf_own_weights => k_is)
    (case zz_abs => k_is)
    (case zz_all => k_is)
    (case zz_any => k_is)
    (case zz_bool => k_is)
    (case zz_dict => k_is)
    (case zz_divmod => k_is)
    (case zz_enumerate => k_is)
    (case zz_int => k_is)
    (case zz_isinstance => k_is)
    (case zz_len => k_is)
    (case zz_list => k_is)
    (case zz_max => k_is)
    (case zz_min => k_is)
    (case zz_range => k_is)
    (case zz_repr => k_is)
    (case zz_sorted => k_is)
    (case zz_str => k_is)
    (case gc_LETTERS => k_is)
    (case gc_MOST_LETTERS => k_is)
    (case a_law_common => k_is)
    (case l_law_common => k_is)
    (case c_law_common => k_is)
    (case k_law_common => k_is)
    (case a_law_lowest => k_is)
    (case l_law_lowest => k_is)
    (case c_law_lowest => k_is)
    (case k_law_lowest => k_is)
    (case a_law_dip => k_is)
    (case l_law_dip => k_is)
    (case c_law_dip => k_is)
    (case k_law_dip => k_is)
    (case a_law_choice => k_is)
    (case l_law_choice => k_is)
    (case c_law_choice => k_is)
    (case k_law_choice => k_is)
    (case a_law_integer => k_is)
    (case l_law_integer => k_is)
    (case c_law_integer => k_is)
    (case k_law_integer => k_is)
    (case a_law_parts => k_is)
    (case l_law_parts => k_is)
    (case c_law_parts => k_is)
    (case k_law_parts => k_is)
    (case a_law_sum => k_is)
    (case l_law_sum => k_is)
    (case c_law_sum => k_is)
    (case k_law_sum => k_is)
    (case a_law_near => k_is)
    (case l_law_near => k_is)
    (case c_law_near => k_is)
    (case k_law_near => k_is)
    (case a_is_integer => k_is)
    (case l_is_integer => k_is)
    (case c_is_integer => k_is)
    (case k_is_integer => k_is)
    (case a_common_divisor => k_is)
    (case l_common_divisor => k_is)
    (case c_common_divisor => k_is)
    (case k_common_divisor => k_is)
    (case a_Ratio_DinitD => k_is)
    (case i_Ratio_DinitD => k_is)
    (case l_Ratio_DinitD => k_is)
    (case c_Ratio_DinitD => k_is)
    (case k_Ratio_DinitD => k_is)
    (case dl_Ratio_DinitD => k_is)
    (case a_law_made => k_is)
    (case l_law_made => k_is)
    (case c_law_made => k_is)
    (case k_law_made => k_is)
    (case a_Ratio_DreprD => k_is)
    (case i_Ratio_DreprD => k_is)
    (case l_Ratio_DreprD => k_is)
    (case c_Ratio_DreprD => k_is)
    (case k_Ratio_DreprD => k_is)
    (case a_is_number => k_is)
    (case l_is_number => k_is)
    (case c_is_number => k_is)
    (case k_is_number => k_is)
    (case a_want_number => k_is)
    (case l_want_number => k_is)
    (case c_want_number => k_is)
    (case k_want_number => k_is)
    (case a_as_ratio => k_is)
    (case l_as_ratio => k_is)
    (case c_as_ratio => k_is)
    (case k_as_ratio => k_is)
    (case a_Ratio_is_below => k_is)
    (case i_Ratio_is_below => k_is)
    (case l_Ratio_is_below => k_is)
    (case c_Ratio_is_below => k_is)
    (case k_Ratio_is_below => k_is)
    (case a_Ratio_DeqD => k_is)
    (case i_Ratio_DeqD => k_is)
    (case l_Ratio_DeqD => k_is)
    (case c_Ratio_DeqD => k_is)
    (case k_Ratio_DeqD => k_is)
    (case a_Form_DeqD => k_is)
    (case i_Form_DeqD => k_is)
    (case l_Form_DeqD => k_is)
    (case c_Form_DeqD => k_is)
    (case k_Form_DeqD => k_is)
    (case a_Ratio_DstrD => k_is)
    (case i_Ratio_DstrD => k_is)
    (case l_Ratio_DstrD => k_is)
    (case c_Ratio_DstrD => k_is)
    (case k_Ratio_DstrD => k_is)
    (case a_is_name => k_is)
    (case l_is_name => k_is)
    (case c_is_name => k_is)
    (case k_is_name => k_is)
    (case a_is_chart => k_is)
    (case l_is_chart => k_is)
    (case c_is_chart => k_is)
    (case k_is_chart => k_is)
    (case a_Ratio_sign => k_is)
    (case g_Ratio_sign => k_is)
    (case t_Ratio_sign => k_is)
    (case e_Ratio_sign => k_is)
    (case l_Ratio_sign => k_is)
    (case c_Ratio_sign => k_is)
    (case k_Ratio_sign => k_is)
    (case a_without_zeros => k_is)
    (case l_without_zeros => k_is)
    (case c_without_zeros => k_is)
    (case k_without_zeros => k_is)
    (case a_Form_DinitD => k_is)
    (case i_Form_DinitD => k_is)
    (case l_Form_DinitD => k_is)
    (case c_Form_DinitD => k_is)
    (case k_Form_DinitD => k_is)
    (case dl_Form_DinitD => k_is)
    (case a_Form_of => k_is)
    (case e_Form_of => k_is)
    (case n_Form_of => k_is)
    (case l_Form_of => k_is)
    (case c_Form_of => k_is)
    (case k_Form_of => k_is)
    (case a_law_whole_right => k_is)
    (case l_law_whole_right => k_is)
    (case c_law_whole_right => k_is)
    (case k_law_whole_right => k_is)
    (case a_law_two_right => k_is)
    (case l_law_two_right => k_is)
    (case c_law_two_right => k_is)
    (case k_law_two_right => k_is)
    (case a_law_right => k_is)
    (case l_law_right => k_is)
    (case c_law_right => k_is)
    (case k_law_right => k_is)
    (case a_law_jar => k_is)
    (case l_law_jar => k_is)
    (case c_law_jar => k_is)
    (case k_law_jar => k_is)
    (case a_law => k_is)
    (case l_law => k_is)
    (case c_law => k_is)
    (case k_law => k_is)

