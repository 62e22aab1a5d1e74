import PyProof.Rows.All
import Wide.All
import OpenK.AllK
import Wide.FinOn
import HandS.Deep
import HandS.Defaults
import HandS.Dict
import HandS.EndBits
import HandS.Exc
import HandS.ExcOwn
import HandS.Flow
import HandS.ForMost
import HandS.IsInst
import HandS.Iter
import HandS.More
import HandS.SortInts
import HandS.Style
import HandS.TryOnly
import HandS.Wide
import HandS.WordsExc
import HandS.Zip
import PyProof.EqAt
import PySem.Challenge.RW_daychains_k52_long_logs
set_option Elab.async false
set_option linter.all false
set_option maxRecDepth 100000
set_option maxHeartbeats 2000000
namespace N
open PySem L2

inductive W where
  | non | bl (b : Bool) | int (i : Int) | str (x : Str) | tup (ws : List W) | ref (n : Nat)
  /-- a list that nobody changes (the script) -/
  | rl (ws : List W)
inductive O where
  | lst (ws : List W) | dct (kvs : List (Key × W)) | ins (c : Nat) (fs : List (Str × W))
  /-- a dict that is being walked -/
  | fdct (kvs : List (Key × W))
abbrev Store := List O
structure Ex where
  cls : Nat
  own : Option (List (Str × W))
inductive R (α : Type) where
  | ok (a : α) (S : Store) | exc (x : Ex) (S : Store) | bad
def M (α : Type) := Store → R α
def M.bind {α β : Type} (m : M α) (f : α → M β) : M β := fun S => match m S with
  | .ok a S' => f a S'
  | .exc x S' => .exc x S'
  | .bad => .bad
def M.ret {α : Type} (a : α) : M α := fun S => .ok a S
instance : Monad M where
  pure := M.ret
  bind := M.bind
theorem bind_def {α β : Type} (m : M α) (f : α → M β) : (m >>= f) = M.bind m f := rfl
theorem pure_def {α : Type} (a : α) : (pure a : M α) = M.ret a := rfl
def bad {α : Type} : M α := fun _ => .bad
def wp {α : Type} (r : R α) (Q : α → Store → Prop) (E : Ex → Store → Prop) : Prop := match r with
  | .ok a S => Q a S
  | .exc x S => E x S
  | .bad => False
@[simp] theorem wp_ok {α : Type} {a : α} {S : Store} {Q : α → Store → Prop} {E : Ex → Store → Prop} : wp (.ok a S) Q E = Q a S := rfl
@[simp] theorem wp_exc {α : Type} {x : Ex} {S : Store} {Q : α → Store → Prop} {E : Ex → Store → Prop} : wp (.exc x S) Q E = E x S := rfl
@[simp] theorem wp_bad {α : Type} {Q : α → Store → Prop} {E : Ex → Store → Prop} : wp (.bad) Q E = False := rfl
theorem wp_bind {α β : Type} {m : M α} {f : α → M β} {S : Store} {Q : β → Store → Prop} {E : Ex → Store → Prop} : wp ((m >>= f) S) Q E = wp (m S) (fun a S' => wp (f a S') Q E) E := by
  show wp (M.bind m f S) Q E = _
  unfold M.bind
  cases m S <;> rfl
theorem wp_mono {α : Type} {r : R α} {Q Q' : α → Store → Prop} {E E' : Ex → Store → Prop} (h : wp r Q E) (hQ : ∀ a S, Q a S → Q' a S) (hE : ∀ x S, E x S → E' x S) : wp r Q' E' := by
  cases r with
  | ok a S => exact hQ _ _ h
  | exc x S => exact hE _ _ h
  | bad => exact h

/-! ### the relation -/
/-- signs that are signs -/
def okS (x : Str) : Bool := x.cps.toList.all fun c => decide (c < 1114112)
/-- a list that stands for ever: locked, or of the module -/
def FzL (K : PySem.W.Frag) (H : Hp) (a : Addr) (xs : List V) : Prop := (∃ o, H a = some (.frz o (.lst xs))) ∨
    ∃ (o : Obj) (its : Array Value) (n : Nat), K.lookup a = some o ∧ o.cls = .type "list" ∧ o.dict = none ∧ o.data = .seq its n ∧ its.size ≤ sizeLine ∧ Vals xs its.toList
theorem FzL.sq {K : PySem.W.Frag} {H : Hp} {a : Addr} {xs : List V} (h : FzL K H a xs) : SqL K H a xs := h.elim (fun h => .inl (.inr h)) .inr
mutual
inductive VR (K : PySem.W.Frag) (H : Hp) (ρ : List Addr) : W → V → Prop
  | non : VR K H ρ .non .non
  | bl (b : Bool) : VR K H ρ (.bl b) (.bl b)
  | int (i : Int) : VR K H ρ (.int i) (.int i)
  | str {x : Str} : okS x = true → VR K H ρ (.str x) (.str x)
  | ref {n : Nat} {a : Addr} : ρ[n]? = some a → VR K H ρ (.ref n) (.ref a)
  | tup {ws : List W} {a : Addr} {vs : List V} : SqT K H a vs → VRs K H ρ ws vs → VR K H ρ (.tup ws) (.ref a)
  | rl {ws : List W} {a : Addr} {vs : List V} : FzL K H a vs → VRs K H ρ ws vs → VR K H ρ (.rl ws) (.ref a)
inductive VRs (K : PySem.W.Frag) (H : Hp) (ρ : List Addr) : List W → List V → Prop
  | nil : VRs K H ρ [] []
  | cons {w : W} {v : V} {ws : List W} {vs : List V} : VR K H ρ w v → VRs K H ρ ws vs → VRs K H ρ (w :: ws) (v :: vs)
end
structure Ext (K : PySem.W.Frag) (H : Hp) (ρ : List Addr) (H' : Hp) (ρ' : List Addr) : Prop where
  pre : ∀ (n : Nat) (a : Addr), ρ[n]? = some a → ρ'[n]? = some a
  keep : ∀ a o, a ∉ ρ → H a = some o → H' a = some o
  new : ∀ a ∈ ρ', a ∈ ρ ∨ H a = none
  tups : ∀ a vs, SqT K H a vs → SqT K H' a vs
  frzs : ∀ a o u, H a = some (.frz o u) → H' a = some (.frz o u)
theorem Ext.refl {K : PySem.W.Frag} {H : Hp} {ρ : List Addr} : Ext K H ρ H ρ := ⟨fun _ _ h => h, fun _ _ _ h => h, fun _ h => .inl h, fun _ _ h => h, fun _ _ _ h => h⟩
theorem Ext.trans {K : PySem.W.Frag} {H H1 H2 : Hp} {ρ ρ1 ρ2 : List Addr} (a : Ext K H ρ H1 ρ1) (b : Ext K H1 ρ1 H2 ρ2) : Ext K H ρ H2 ρ2 where
  pre := fun n x h => b.pre n x (a.pre n x h)
  keep := fun x o hx h => b.keep x o (fun z => (a.new x z).elim hx fun z => by rw [h] at z; cases z) (a.keep x o hx h)
  new := fun x h => (b.new x h).elim (fun z => a.new x z) fun z => by
    by_cases hx : x ∈ ρ
    · exact .inl hx
    · refine .inr ?_
      cases q : H x with
      | none => rfl
      | some o => rw [a.keep x o hx q] at z; cases z
  tups := fun x vs h => b.tups x vs (a.tups x vs h)
  frzs := fun x o u h => b.frzs x o u (a.frzs x o u h)
theorem Ext.fz {K : PySem.W.Frag} {H H1 : Hp} {ρ ρ1 : List Addr} (e : Ext K H ρ H1 ρ1) (a : Addr) (vs : List V) (h : FzL K H a vs) : FzL K H1 a vs := h.elim (fun ⟨o, q⟩ => .inl ⟨o, e.frzs _ _ _ q⟩) .inr
mutual
theorem VR.mono {K : PySem.W.Frag} {H H' : Hp} {ρ ρ' : List Addr} (e : Ext K H ρ H' ρ') : ∀ {w : W} {v : V}, VR K H ρ w v → VR K H' ρ' w v
  | _, _, .non => .non
  | _, _, .bl b => .bl b
  | _, _, .int i => .int i
  | _, _, .str h => .str h
  | _, _, .ref h => .ref (e.pre _ _ h)
  | _, _, .tup h t => .tup (e.tups _ _ h) (VRs.mono e t)
  | _, _, .rl h t => .rl (e.fz _ _ h) (VRs.mono e t)
theorem VRs.mono {K : PySem.W.Frag} {H H' : Hp} {ρ ρ' : List Addr} (e : Ext K H ρ H' ρ') : ∀ {ws : List W} {vs : List V}, VRs K H ρ ws vs → VRs K H' ρ' ws vs
  | _, _, .nil => .nil
  | _, _, .cons h t => .cons (VR.mono e h) (VRs.mono e t)
end
mutual
theorem VR.remap {K : PySem.W.Frag} {H H' : Hp} {ρ : List Addr} (t : ∀ a vs, SqT K H a vs → SqT K H' a vs) (f : ∀ a vs, FzL K H a vs → FzL K H' a vs) : ∀ {w : W} {v : V}, VR K H ρ w v → VR K H' ρ w v
  | _, _, .non => .non
  | _, _, .bl b => .bl b
  | _, _, .int i => .int i
  | _, _, .str h => .str h
  | _, _, .ref h => .ref h
  | _, _, .tup h q => .tup (t _ _ h) (VRs.remap t f q)
  | _, _, .rl h q => .rl (f _ _ h) (VRs.remap t f q)
theorem VRs.remap {K : PySem.W.Frag} {H H' : Hp} {ρ : List Addr} (t : ∀ a vs, SqT K H a vs → SqT K H' a vs) (f : ∀ a vs, FzL K H a vs → FzL K H' a vs) : ∀ {ws : List W} {vs : List V}, VRs K H ρ ws vs → VRs K H' ρ ws vs
  | _, _, .nil => .nil
  | _, _, .cons h q => .cons (VR.remap t f h) (VRs.remap t f q)
end
mutual
theorem VR.more {K : PySem.W.Frag} {H : Hp} {ρ ρ' : List Addr} (p : ∀ (n : Nat) (a : Addr), ρ[n]? = some a → ρ'[n]? = some a) : ∀ {w : W} {v : V}, VR K H ρ w v → VR K H ρ' w v
  | _, _, .non => .non
  | _, _, .bl b => .bl b
  | _, _, .int i => .int i
  | _, _, .str h => .str h
  | _, _, .ref h => .ref (p _ _ h)
  | _, _, .tup h q => .tup h (VRs.more p q)
  | _, _, .rl h q => .rl h (VRs.more p q)
theorem VRs.more {K : PySem.W.Frag} {H : Hp} {ρ ρ' : List Addr} (p : ∀ (n : Nat) (a : Addr), ρ[n]? = some a → ρ'[n]? = some a) : ∀ {ws : List W} {vs : List V}, VRs K H ρ ws vs → VRs K H ρ' ws vs
  | _, _, .nil => .nil
  | _, _, .cons h q => .cons (VR.more p h) (VRs.more p q)
end
section
variable {K : PySem.W.Frag} {H H' : Hp} {ρ ρ' : List Addr}
theorem VRs.length : ∀ {ws : List W} {vs : List V}, VRs K H ρ ws vs → ws.length = vs.length
  | _, _, .nil => rfl
  | _, _, .cons _ t => by simp [VRs.length t]
theorem VRs.get : ∀ {ws : List W} {vs : List V} {i : Nat} {w : W}, VRs K H ρ ws vs → ws[i]? = some w → ∃ v, vs[i]? = some v ∧ VR K H ρ w v
  | _, _, _, _, .nil, e => by simp at e
  | _, _, 0, _, .cons r _, e => by simp at e; subst e; exact ⟨_, rfl, r⟩
  | _, _, i + 1, w, .cons _ t, e => by
    obtain ⟨v, h1, h2⟩ := VRs.get (i := i) (w := w) t (by simpa using e)
    exact ⟨v, by simpa using h1, h2⟩
theorem VRs.get' : ∀ {ws : List W} {vs : List V} {i : Nat} {v : V}, VRs K H ρ ws vs → vs[i]? = some v → ∃ w, ws[i]? = some w ∧ VR K H ρ w v
  | _, _, _, _, .nil, e => by simp at e
  | _, _, 0, _, .cons r _, e => by simp at e; subst e; exact ⟨_, rfl, r⟩
  | _, _, i + 1, w, .cons _ t, e => by
    obtain ⟨v, h1, h2⟩ := VRs.get' (i := i) (v := w) t (by simpa using e)
    exact ⟨v, by simpa using h1, h2⟩
theorem VRs.append : ∀ {ws ws' : List W} {vs vs' : List V}, VRs K H ρ ws vs → VRs K H ρ ws' vs' → VRs K H ρ (ws ++ ws') (vs ++ vs')
  | _, _, _, _, .nil, s => s
  | _, _, _, _, .cons r t, s => .cons r (VRs.append t s)
theorem VRs.set {w : W} {v : V} (r : VR K H ρ w v) : ∀ {ws : List W} {vs : List V} (i : Nat), VRs K H ρ ws vs → VRs K H ρ (ws.set i w) (vs.set i v)
  | _, _, _, .nil => .nil
  | _, _, 0, .cons _ t => .cons r t
  | _, _, i + 1, .cons q t => .cons q (VRs.set r i t)
theorem VRs.take : ∀ {ws : List W} {vs : List V} (n : Nat), VRs K H ρ ws vs → VRs K H ρ (ws.take n) (vs.take n)
  | _, _, 0, _ => .nil
  | _, _, _ + 1, .nil => .nil
  | _, _, n + 1, .cons r t => .cons r (VRs.take n t)
theorem VRs.drop : ∀ {ws : List W} {vs : List V} (n : Nat), VRs K H ρ ws vs → VRs K H ρ (ws.drop n) (vs.drop n)
  | _, _, 0, r => r
  | _, _, n + 1, .nil => .nil
  | _, _, n + 1, .cons _ t => VRs.drop n t
theorem VRs.eraseIdx : ∀ {ws : List W} {vs : List V} (i : Nat), VRs K H ρ ws vs → VRs K H ρ (ws.eraseIdx i) (vs.eraseIdx i)
  | _, _, _, .nil => .nil
  | _, _, 0, .cons _ t => t
  | _, _, i + 1, .cons r t => .cons r (VRs.eraseIdx i t)
theorem VRs.reverse {ws : List W} {vs : List V} (h : VRs K H ρ ws vs) : VRs K H ρ ws.reverse vs.reverse := by
  induction ws generalizing vs with
  | nil => cases h; exact .nil
  | cons w ws ih =>
    cases h with
    | cons r t => rw [List.reverse_cons, List.reverse_cons]; exact (ih t).append (.cons r .nil)
theorem VRs.ints : ∀ (ns : List Int), VRs K H ρ (ns.map W.int) (ns.map V.int)
  | [] => .nil
  | _ :: ns => .cons (.int _) (VRs.ints ns)
theorem VR.inj1 {n m : Nat} {a : Addr} (nd : ρ.Nodup) (h : ρ[n]? = some a) (h' : ρ[m]? = some a) : n = m := by
  obtain ⟨h1, e1⟩ := List.getElem?_eq_some_iff.mp h
  obtain ⟨h2, e2⟩ := List.getElem?_eq_some_iff.mp h'
  exact (List.getElem_inj nd).mp (e1.trans e2.symm)
end

/-- fields of an object, pairs of a dict -/
abbrev FR {κ : Type} (K : PySem.W.Frag) (H : Hp) (ρ : List Addr) : List (κ × W) → List (κ × V) → Prop := Paired fun p q => p.1 = q.1 ∧ VR K H ρ p.2 q.2
theorem FR.mono {κ : Type} {K : PySem.W.Frag} {H H' : Hp} {ρ ρ' : List Addr} (e : Ext K H ρ H' ρ') {l : List (κ × W)} {l' : List (κ × V)} (h : FR K H ρ l l') : FR K H' ρ' l l' :=
  Paired.mapP h fun _ _ r => ⟨r.1, r.2.mono e⟩
/-- what is fixed through a law -/
structure Top where
  P : Program
  w : World
  K : PySem.W.Frag
  mg : Str → Option Value
  base : Heap
  cl : Nat → Addr
def OR (G : Top) (H : Hp) (ρ : List Addr) (a : Addr) : O → Prop
  | .lst ws => ∃ vs, H a = some (.lst vs) ∧ VRs G.K H ρ ws vs
  | .dct kvs => ∃ l, H a = some (.dK l) ∧ FR G.K H ρ kvs l
  | .ins c fs => ∃ dx l, H a = some (.ins (G.cl c) dx l) ∧ FR G.K H ρ fs l
  | .fdct kvs => ∃ o l, H a = some (.frz o (.dK l)) ∧ FR G.K H ρ kvs l
structure SR (G : Top) (H : Hp) (ρ : List Addr) (S : Store) : Prop where
  len : ρ.length = S.length
  nd : ρ.Nodup
  ob : ∀ (n : Nat) (a : Addr) (o : O), ρ[n]? = some a → S[n]? = some o → OR G H ρ a o
def XR (G : Top) (H : Hp) (ρ : List Addr) (x : Ex) (cls : Value) (dd : Option Addr) : Prop :=
  cls = .ref (G.cl x.cls) ∧ match x.own with
    | none => dd = none
    | some fs => ∃ d l, dd = some d ∧ H d = some (.xd l) ∧ FR G.K H ρ fs l
abbrev Ev := List (Option W)
structure EvR (K : PySem.W.Frag) (H : Hp) (ρ : List Addr) (ε : Ev) (σ : St) : Prop where
  len : ε.length = σ.length
  at_ : ∀ (i : Nat) (w : W), ε[i]? = some (some w) → ∃ v, σ[i]? = some (some v) ∧ VR K H ρ w v
theorem EvR.mono {K : PySem.W.Frag} {H H' : Hp} {ρ ρ' : List Addr} {ε : Ev} {σ : St} (s : EvR K H ρ ε σ) (e : Ext K H ρ H' ρ') : EvR K H' ρ' ε σ :=
  ⟨s.len, fun i w h => let ⟨v, a, b⟩ := s.at_ i w h; ⟨v, a, b.mono e⟩⟩
theorem EvR.set {K : PySem.W.Frag} {H : Hp} {ρ : List Addr} {ε : Ev} {σ : St} {w : W} {v : V} (s : EvR K H ρ ε σ) (i : Nat) (r : VR K H ρ w v) : EvR K H ρ (ε.set i (some w)) (σ.set i (some v)) := by
  refine ⟨by simp [s.len], fun j w' h => ?_⟩
  by_cases hj : i = j
  · subst hj
    by_cases hi : i < ε.length
    · rw [List.getElem?_set_self hi] at h
      cases h
      exact ⟨v, by rw [List.getElem?_set_self (by rw [← s.len]; exact hi)], r⟩
    · rw [List.getElem?_eq_none (by simpa using hi)] at h
      cases h
  · rw [List.getElem?_set_ne hj] at h
    rw [List.getElem?_set_ne hj]
    exact s.at_ j w' h
/-- object kinds differ: a tuple's place is none of the store's -/
theorem Rd.uniq {H : Hp} {a : Addr} {o : HO} {xs : List V} (h : Rd H a (.tup xs)) (h' : H a = some o) : o = .tup xs ∨ ∃ ob, o = .frz ob (.tup xs) := by
  rcases h with h | ⟨ob, h⟩
  · rw [h'] at h; cases h; exact .inl rfl
  · rw [h'] at h; cases h; exact .inr ⟨ob, rfl⟩
theorem tups_upd {K : PySem.W.Frag} {H : Hp} {a : Addr} {o u : HO} (h : H a = some o) (hm : Mut (some o)) : ∀ b vs, SqT K H b vs → SqT K (upd H a u) b vs := fun b vs q => by
  rcases q with q | q
  · by_cases e : b = a
    · subst e
      rcases Rd.uniq q h with rfl | ⟨_, rfl⟩ <;> exact hm.elim
    · refine .inl ?_
      rcases q with q | ⟨ob, q⟩
      · exact .inl (by rw [upd_ne e]; exact q)
      · exact .inr ⟨ob, by rw [upd_ne e]; exact q⟩
  · exact .inr q
theorem tups_new {K : PySem.W.Frag} {H : Hp} {a : Addr} {u : HO} (h : H a = none) : ∀ b vs, SqT K H b vs → SqT K (upd H a u) b vs := fun b vs q => by
  rcases q with q | q
  · refine .inl ?_
    rcases q with q | ⟨ob, q⟩
    · exact .inl (by rw [upd_ne (ne_of_none q h)]; exact q)
    · exact .inr ⟨ob, by rw [upd_ne (ne_of_none q h)]; exact q⟩
  · exact .inr q
theorem frzs_upd {K : PySem.W.Frag} {H : Hp} {a : Addr} {o u : HO} (h : H a = some o) (hm : Mut (some o)) : ∀ b vs, FzL K H b vs → FzL K (upd H a u) b vs := fun b vs q => by
  rcases q with ⟨ob, q⟩ | q
  · by_cases e : b = a
    · subst e
      rw [h] at q; cases q; exact hm.elim
    · exact .inl ⟨ob, by rw [upd_ne e]; exact q⟩
  · exact .inr q
theorem frzs_new {K : PySem.W.Frag} {H : Hp} {a : Addr} {u : HO} (h : H a = none) : ∀ b vs, FzL K H b vs → FzL K (upd H a u) b vs := fun b vs q => by
  rcases q with ⟨ob, q⟩ | q
  · exact .inl ⟨ob, by rw [upd_ne (ne_of_none q h)]; exact q⟩
  · exact .inr q
theorem frz_upd {H : Hp} {a : Addr} {o u : HO} (h : H a = some o) (hm : Mut (some o)) : ∀ b ob u', H b = some (.frz ob u') → upd H a u b = some (.frz ob u') := fun b ob u' q => by
  by_cases e : b = a
  · subst e
    rw [h] at q; cases q; exact hm.elim
  · rw [upd_ne e]; exact q
theorem frz_new {H : Hp} {a : Addr} {u : HO} (h : H a = none) : ∀ b ob u', H b = some (.frz ob u') → upd H a u b = some (.frz ob u') := fun b ob u' q => by
  rw [upd_ne (ne_of_none q h)]; exact q
section
variable {G : Top} {H : Hp} {ρ : List Addr} {S : Store}
/-- a new untracked-by-us object (a tuple, a record) -/
theorem Ext.fresh {a : Addr} {u : HO} (h : H a = none) : Ext G.K H ρ (upd H a u) ρ :=
  ⟨fun _ _ z => z, fun b o _ z => by rw [upd_ne (ne_of_none z h)]; exact z, fun _ z => .inl z, tups_new h, frz_new h⟩
theorem OR.fresh {a b : Addr} {u : HO} {o : O} (h : H a = none) (r : OR G H ρ b o) : OR G (upd H a u) ρ b o := by
  have e : Ext G.K H ρ (upd H a u) ρ := Ext.fresh h
  cases o with
  | lst ws => obtain ⟨vs, z, q⟩ := r; exact ⟨vs, by rw [upd_ne (ne_of_none z h)]; exact z, q.mono e⟩
  | dct kvs => obtain ⟨vs, z, q⟩ := r; exact ⟨vs, by rw [upd_ne (ne_of_none z h)]; exact z, FR.mono e q⟩
  | ins c fs => obtain ⟨dx, vs, z, q⟩ := r; exact ⟨dx, vs, by rw [upd_ne (ne_of_none z h)]; exact z, FR.mono e q⟩
  | fdct kvs => obtain ⟨ob, vs, z, q⟩ := r; exact ⟨ob, vs, by rw [upd_ne (ne_of_none z h)]; exact z, FR.mono e q⟩
theorem SR.fresh {a : Addr} {u : HO} (sr : SR G H ρ S) (h : H a = none) : SR G (upd H a u) ρ S := ⟨sr.len, sr.nd, fun n b o h1 h2 => (sr.ob n b o h1 h2).fresh h⟩
theorem SR.dom {n : Nat} {o : O} (sr : SR G H ρ S) (h : S[n]? = some o) : ∃ a, ρ[n]? = some a ∧ OR G H ρ a o := by
  have hn : n < ρ.length := by rw [sr.len]; exact (List.getElem?_eq_some_iff.mp h).1
  exact ⟨ρ[n], List.getElem?_eq_getElem hn, sr.ob n _ o (List.getElem?_eq_getElem hn) h⟩
theorem SR.at_ {n : Nat} {a : Addr} {o : O} (sr : SR G H ρ S) (r : VR G.K H ρ (.ref n) (.ref a)) (h : S[n]? = some o) : OR G H ρ a o := by
  cases r with
  | ref q => exact sr.ob n a o q h
/-- objects of ρ are no tuples where the store knows them as mutable ones -/
theorem OR.mono_pre {ρ' : List Addr} {H' : Hp} {b : Addr} {o : O} (e : Ext G.K H ρ H' ρ') (hb : ∀ u, H b = some u → H' b = some u) (r : OR G H ρ b o) : OR G H' ρ' b o := by
  cases o with
  | lst ws => obtain ⟨vs, z, q⟩ := r; exact ⟨vs, hb _ z, q.mono e⟩
  | dct kvs => obtain ⟨vs, z, q⟩ := r; exact ⟨vs, hb _ z, FR.mono e q⟩
  | ins c fs => obtain ⟨dx, vs, z, q⟩ := r; exact ⟨dx, vs, hb _ z, FR.mono e q⟩
  | fdct kvs => obtain ⟨ob, vs, z, q⟩ := r; exact ⟨ob, vs, hb _ z, FR.mono e q⟩
theorem SR.fresh_mem {a : Addr} (sr : SR G H ρ S) (h : H a = none) : a ∉ ρ := fun z => by
  obtain ⟨n, hn, e⟩ := List.mem_iff_getElem.mp z
  have hs : n < S.length := by rw [← sr.len]; exact hn
  have q := sr.ob n a S[n] (by rw [List.getElem?_eq_getElem hn, e]) (List.getElem?_eq_getElem hs)
  cases ho : S[n] with
  | lst ws => rw [ho] at q; obtain ⟨_, z, _⟩ := q; rw [h] at z; cases z
  | dct kvs => rw [ho] at q; obtain ⟨_, z, _⟩ := q; rw [h] at z; cases z
  | ins c fs => rw [ho] at q; obtain ⟨_, _, z, _⟩ := q; rw [h] at z; cases z
  | fdct kvs => rw [ho] at q; obtain ⟨_, _, z, _⟩ := q; rw [h] at z; cases z
/-- a new object of the store -/
theorem Ext.snoc {a : Addr} {u : HO} (h : H a = none) : Ext G.K H ρ (upd H a u) (ρ ++ [a]) := by
  refine ⟨fun n x z => ?_, fun b o _ z => by rw [upd_ne (ne_of_none z h)]; exact z, fun x z => ?_, tups_new h, frz_new h⟩
  · rw [List.getElem?_append_left (List.getElem?_eq_some_iff.mp z).1]; exact z
  · rcases List.mem_append.mp z with z | z
    · exact .inl z
    · simp at z; subst z; exact .inr h
theorem SR.snoc {a : Addr} {u : HO} {o : O} (sr : SR G H ρ S) (h : H a = none) (r : OR G (upd H a u) (ρ ++ [a]) a o) : SR G (upd H a u) (ρ ++ [a]) (S ++ [o]) := by
  refine ⟨by simp [sr.len], ?_, fun n b o' h1 h2 => ?_⟩
  · rw [List.nodup_append]
    exact ⟨sr.nd, by simp, fun x hx y hy z => by simp at hy; subst hy; subst z; exact sr.fresh_mem h hx⟩
  · by_cases hl : n < ρ.length
    · rw [List.getElem?_append_left hl] at h1
      rw [List.getElem?_append_left (by rw [← sr.len]; exact hl)] at h2
      exact (sr.ob n b o' h1 h2).mono_pre (Ext.snoc h) (fun u' z => by rw [upd_ne (ne_of_none z h)]; exact z)
    · have hl2 : ρ.length ≤ n := Nat.le_of_not_lt hl
      rw [List.getElem?_append_right hl2] at h1
      rw [List.getElem?_append_right (by rw [← sr.len]; exact hl2)] at h2
      have e : n - ρ.length = 0 := by
        have := (List.getElem?_eq_some_iff.mp h1).1
        simp at this; omega
      rw [e] at h1
      rw [← sr.len, e] at h2
      simp at h1 h2
      subst h1; subst h2
      exact r
/-- an object of the store changed -/
theorem Ext.upd {n : Nat} {a : Addr} {o u : HO} (hr : ρ[n]? = some a) (h : H a = some o) (hm : Mut (some o)) : Ext G.K H ρ (upd H a u) ρ :=
  ⟨fun _ _ z => z, fun b o hb z => by rw [upd_ne (fun e => hb (by rw [e]; exact List.mem_of_getElem? hr))]; exact z, fun _ z => .inl z, tups_upd h hm, frz_upd h hm⟩
theorem SR.upd {n : Nat} {a : Addr} {o u : HO} {ob : O} (sr : SR G H ρ S) (hr : ρ[n]? = some a) (h : H a = some o) (hm : Mut (some o)) (r : OR G (upd H a u) ρ a ob) : SR G (upd H a u) ρ (S.set n ob) := by
  refine ⟨by simp [sr.len], sr.nd, fun m b o' h1 h2 => ?_⟩
  by_cases e : n = m
  · subst e
    rw [hr] at h1; cases h1
    have hn : n < S.length := by rw [← sr.len]; exact (List.getElem?_eq_some_iff.mp hr).1
    rw [List.getElem?_set_self hn] at h2; cases h2
    exact r
  · rw [List.getElem?_set_ne e] at h2
    have hne : b ≠ a := fun z => e (VR.inj1 sr.nd hr (by rw [← z]; exact h1))
    exact (sr.ob m b o' h1 h2).mono_pre (Ext.upd hr h hm) (fun u' z => by rw [upd_ne hne]; exact z)
end
end N
namespace N
open PySem L2

structure Ctx where
  N : List Str
  sc : Scope
  fn : Str → Bool
structure Fit (G : Top) (c : Ctx) (k : Nat) (X : Cx) (W : WX) : Prop where
  P : X.prog = G.P
  w : X.w = G.w
  K : X.K = G.K
  mg : X.mg = G.mg
  base : X.base = G.base
  N : X.N = c.N
  sc : X.env.scope = c.sc
  nd : X.N.Nodup
  calm : X.calm = true
  room : Room k X.A
  gd : X.A.guards = some []
  tk : Takes X W
  pass : PassesOwn (model X.prog X.w) X.A X.env X.xe
  fn : ∀ x, c.fn x = true → X.fn x = true

/-- what is wanted of a result -/
def Rg {α β : Type} (G : Top) (W : WX) (σ : St) (rel : Hp → List Addr → α → β → Prop) (r : R α) (H : Hp) (ρ : List Addr) (Q : β → Hp → Prop) : Prop :=
  wp r (fun a S' => ∀ H' ρ' b, Ext G.K H ρ H' ρ' → SR G H' ρ' S' → rel H' ρ' a b → Q b H')
    (fun x S' => ∀ H' ρ' cls dd, Ext G.K H ρ H' ρ' → SR G H' ρ' S' → XR G H' ρ' x cls dd → W cls dd σ H')
section
variable {G : Top} {W : WX} {σ : St}
theorem Rg.mono {α β : Type} {rel : Hp → List Addr → α → β → Prop} {r : R α} {H : Hp} {ρ : List Addr} {Q Q' : β → Hp → Prop} (h : Rg G W σ rel r H ρ Q) (hQ : ∀ b H', Q b H' → Q' b H') : Rg G W σ rel r H ρ Q' :=
  wp_mono h (fun _ _ q H' ρ' b e s v => hQ b H' (q H' ρ' b e s v)) fun _ _ q => q
theorem Rg.bind {α β γ δ : Type} {rel : Hp → List Addr → α → β → Prop} {rel2 : Hp → List Addr → γ → δ → Prop} {m : M α} {f : α → M γ} {S : Store} {H : Hp} {ρ : List Addr} {Q : δ → Hp → Prop} (h : Rg G W σ rel2 ((m >>= f) S) H ρ Q) :
    Rg G W σ rel (m S) H ρ (fun b H' => ∃ a S' ρ', Ext G.K H ρ H' ρ' ∧ SR G H' ρ' S' ∧ rel H' ρ' a b ∧ Rg G W σ rel2 (f a S') H' ρ' Q) := by
  unfold Rg at h ⊢
  rw [wp_bind] at h
  refine wp_mono h (fun a S' q H' ρ' b e s v => ⟨a, S', ρ', e, s, v, ?_⟩) fun x S' q H' ρ' cls dd e s v => q H' ρ' cls dd e s v
  exact wp_mono q (fun c S2 q2 H2 ρ2 d e2 s2 v2 => q2 H2 ρ2 d (e.trans e2) s2 v2) fun x S2 q2 H2 ρ2 cls dd e2 s2 v2 => q2 H2 ρ2 cls dd (e.trans e2) s2 v2
theorem Rg.ret {α β : Type} {rel : Hp → List Addr → α → β → Prop} {a : α} {b : β} {S : Store} {H : Hp} {ρ : List Addr} {Q : β → Hp → Prop} (h : Rg G W σ rel (M.ret a S) H ρ Q) (s : SR G H ρ S) (r : rel H ρ a b) : Q b H := h H ρ b Ext.refl s r
end
/-- readings -/
abbrev DE := Ev → M W
abbrev DB := Ev → M Bool
abbrev DA := Ev → M (List W)
abbrev rB : Hp → List Addr → Bool → Bool → Prop := fun _ _ a b => a = b
def tN (G : Top) (W : WX) (d : DE) : TE := fun σ H Q => ∃ ρ ε S, EvR G.K H ρ ε σ ∧ SR G H ρ S ∧ Rg G W σ (VR G.K) (d ε S) H ρ Q
def tB (G : Top) (W : WX) (d : DB) : TT := fun σ H Q => ∃ ρ ε S, EvR G.K H ρ ε σ ∧ SR G H ρ S ∧ Rg G W σ rB (d ε S) H ρ Q
def tA (G : Top) (W : WX) (d : DA) : TA := fun σ H Q => ∃ ρ ε S, EvR G.K H ρ ε σ ∧ SR G H ρ S ∧ Rg G W σ (VRs G.K) (d ε S) H ρ Q
theorem PE.imp {X : Cx} {e : Expr} {t t' : TE} (h : PE X e t) (f : ∀ σ H Q, t' σ H Q → t σ H Q) : PE X e t' := ⟨fun pins s σ H Q I q => h.run pins s σ H Q I (f _ _ _ q)⟩
theorem PT.imp {X : Cx} {e : Expr} {t t' : TT} (h : PT X e t) (f : ∀ σ H Q, t' σ H Q → t σ H Q) : PT X e t' := ⟨fun pins s σ H Q I q => h.run pins s σ H Q I (f _ _ _ q)⟩
theorem PW.imp {X : Cx} {e : Expr} {t t' : TT} (h : PW X e t) (f : ∀ σ H Q, t' σ H Q → t σ H Q) : PW X e t' := ⟨fun wh pins s σ H Q I q => h.run wh pins s σ H Q I (f _ _ _ q)⟩
theorem PA.imp {X : Cx} {e : List Expr} {t t' : TA} (h : PA X e t) (f : ∀ σ H Q, t' σ H Q → t σ H Q) : PA X e t' := ⟨fun p pins s σ H Q I q => h.run p pins s σ H Q I (f _ _ _ q)⟩
theorem PS.imp {X : Cx} {e : Stmt} {t t' : TS} (h : PS X e t) (f : ∀ D σ H, t' D σ H → t D σ H) : PS X e t' := ⟨fun pins s σ H D I q => h.run pins s σ H D I (f _ _ _ q)⟩
theorem PSs.imp {X : Cx} {e : List Stmt} {t t' : TS} (h : PSs X e t) (f : ∀ D σ H, t' D σ H → t D σ H) : PSs X e t' := ⟨fun pins s σ H D I q => h.run pins s σ H D I (f _ _ _ q)⟩
section
variable (G : Top) (c : Ctx) (k : Nat)
def EOk (e : Expr) (d : DE) : Prop := ∀ X W, Fit G c k X W → PE X e (tN G W d)
def BOk (e : Expr) (d : DB) : Prop := ∀ X W, Fit G c k X W → PT X e (tB G W d)
def BWOk (e : Expr) (d : DB) : Prop := ∀ X W, Fit G c k X W → PW X e (tB G W d)
def AOk (es : List Expr) (d : DA) : Prop := ∀ X W, Fit G c k X W → PA X es (tA G W d)
end

/-! ### statements -/
inductive RS where
  | nx (ε : Ev) (S : Store) | rt (w : W) (S : Store) | bk (ε : Ev) (S : Store) | ct (ε : Ev) (S : Store) | exc (x : Ex) (ε : Ev) (S : Store) | bad
abbrev DS := Ev → Store → RS
structure NEnds where
  nx : Ev → Store → Prop
  rt : W → Store → Prop
  bk : Ev → Store → Prop
  ct : Ev → Store → Prop
  ex : Ex → Ev → Store → Prop
def wpS (r : RS) (D : NEnds) : Prop := match r with
  | .nx ε S => D.nx ε S
  | .rt w S => D.rt w S
  | .bk ε S => D.bk ε S
  | .ct ε S => D.ct ε S
  | .exc x ε S => D.ex x ε S
  | .bad => False
/-- the wishes of a statement's ends, over the store -/
def nE (G : Top) (W : WX) (D : Ends) (H : Hp) (ρ : List Addr) : NEnds where
  nx := fun ε S => ∀ H' ρ' σ', Ext G.K H ρ H' ρ' → SR G H' ρ' S → EvR G.K H' ρ' ε σ' → D.nx σ' H'
  rt := fun w S => ∀ H' ρ' v, Ext G.K H ρ H' ρ' → SR G H' ρ' S → VR G.K H' ρ' w v → D.rt v H'
  bk := fun ε S => ∀ H' ρ' σ', Ext G.K H ρ H' ρ' → SR G H' ρ' S → EvR G.K H' ρ' ε σ' → D.bk σ' H'
  ct := fun ε S => ∀ H' ρ' σ', Ext G.K H ρ H' ρ' → SR G H' ρ' S → EvR G.K H' ρ' ε σ' → D.ct σ' H'
  ex := fun x ε S => ∀ H' ρ' σ' cls dd, Ext G.K H ρ H' ρ' → SR G H' ρ' S → EvR G.K H' ρ' ε σ' → XR G H' ρ' x cls dd → W cls dd σ' H'
def tS (G : Top) (W : WX) (d : DS) : TS := fun D σ H => ∃ ρ ε S, EvR G.K H ρ ε σ ∧ SR G H ρ S ∧ wpS (d ε S) (nE G W D H ρ)
section
variable (G : Top) (c : Ctx) (k : Nat)
def SOk (st : Stmt) (d : DS) : Prop := ∀ X W, Fit G c k X W → PS X st (tS G W d)
def SsOk (st : List Stmt) (d : DS) : Prop := ∀ X W, Fit G c k X W → PSs X st (tS G W d)
end
theorem wpS_mono {r : RS} {D D' : NEnds} (h : wpS r D) (h1 : ∀ ε S, D.nx ε S → D'.nx ε S) (h2 : ∀ w S, D.rt w S → D'.rt w S) (h3 : ∀ ε S, D.bk ε S → D'.bk ε S) (h4 : ∀ ε S, D.ct ε S → D'.ct ε S) (h5 : ∀ x ε S, D.ex x ε S → D'.ex x ε S) : wpS r D' := by
  cases r with
  | nx ε S => exact h1 _ _ h
  | rt w S => exact h2 _ _ h
  | bk ε S => exact h3 _ _ h
  | ct ε S => exact h4 _ _ h
  | exc x ε S => exact h5 _ _ _ h
  | bad => exact h
/-- the wishes further on -/
theorem nE_ext {G : Top} {W : WX} {D : Ends} {H H' : Hp} {ρ ρ' : List Addr} (e : Ext G.K H ρ H' ρ') {r : RS} (h : wpS r (nE G W D H ρ)) : wpS r (nE G W D H' ρ') :=
  wpS_mono h (fun _ _ q _ _ _ a b c => q _ _ _ (e.trans a) b c) (fun _ _ q _ _ _ a b c => q _ _ _ (e.trans a) b c) (fun _ _ q _ _ _ a b c => q _ _ _ (e.trans a) b c) (fun _ _ q _ _ _ a b c => q _ _ _ (e.trans a) b c)
    fun _ _ _ q _ _ _ _ _ a b c d => q _ _ _ _ _ (e.trans a) b c d
def dSeq (d e : DS) : DS := fun ε S => match d ε S with
  | .nx ε' S' => e ε' S'
  | r => r
def dNx : DS := fun ε S => .nx ε S
def dBk : DS := fun ε S => .bk ε S
def dCt : DS := fun ε S => .ct ε S
/-- a result of an expression, then a statement -/
def sBind {α : Type} (m : M α) (ε : Ev) (S : Store) (f : α → Store → RS) : RS := match m S with
  | .ok a S' => f a S'
  | .exc x S' => .exc x ε S'
  | .bad => .bad
theorem Rg_sBind {α β : Type} {G : Top} {W : WX} {D : Ends} {σ : St} {H : Hp} {ρ : List Addr} {ε : Ev} {S : Store} {rel : Hp → List Addr → α → β → Prop} {m : M α} {f : α → Store → RS} (ev : EvR G.K H ρ ε σ) (h : wpS (sBind m ε S f) (nE G W D H ρ)) :
    Rg G W σ rel (m S) H ρ (fun b H' => ∃ a S' ρ', Ext G.K H ρ H' ρ' ∧ SR G H' ρ' S' ∧ rel H' ρ' a b ∧ wpS (f a S') (nE G W D H' ρ')) := by
  unfold sBind at h
  unfold Rg
  cases q : m S with
  | ok a S' =>
    rw [q] at h
    exact fun H' ρ' b e s r => ⟨a, S', ρ', e, s, r, nE_ext e h⟩
  | exc x S' =>
    rw [q] at h
    exact fun H' ρ' cls dd e s r => h H' ρ' σ cls dd e s (ev.mono e) r
  | bad =>
    rw [q] at h
    exact h
def dDrop (d : DE) : DS := fun ε S => sBind (d ε) ε S fun _ S' => .nx ε S'
def dRet (d : DE) : DS := fun ε S => sBind (d ε) ε S fun w S' => .rt w S'
def dRetN : DS := fun ε S => .rt .non S
def dIf (c : DB) (t u : DS) : DS := fun ε S => sBind (c ε) ε S fun b S' => if b = true then t ε S' else u ε S'
section
variable {G : Top} {c : Ctx} {k : Nat}
theorem ss_nil : SsOk G c k [] dNx := fun X W F => PSs.imp pss_nil fun D σ H ⟨ρ, ε, S, ev, sr, h⟩ => h H ρ σ Ext.refl sr ev
theorem ss_cons {st : Stmt} {rest : List Stmt} {d e : DS} (h1 : SOk G c k st d) (h2 : SsOk G c k rest e) : SsOk G c k (st :: rest) (dSeq d e) := fun X W F =>
  PSs.imp (pss_cons (h1 X W F) (h2 X W F)) fun D σ H ⟨ρ, ε, S, ev, sr, h⟩ => by
    refine ⟨ρ, ε, S, ev, sr, ?_⟩
    unfold dSeq at h
    cases q : d ε S with
    | nx ε' S' =>
      rw [q] at h
      exact fun H' ρ' σ' e' s' v' => ⟨ρ', ε', S', v', s', nE_ext e' h⟩
    | rt w S' => rw [q] at h; exact h
    | bk ε' S' => rw [q] at h; exact h
    | ct ε' S' => rw [q] at h; exact h
    | exc x ε' S' => rw [q] at h; exact h
    | bad => rw [q] at h; exact h
theorem ss_one {st : Stmt} {d : DS} (h1 : SOk G c k st d) : SsOk G c k [st] d := fun X W F => pss_one (h1 X W F)
theorem s_pass {pos : Pos} : SOk G c k (.Pass pos) dNx := fun X W F => PS.imp ps_pass fun D σ H ⟨ρ, ε, S, ev, sr, h⟩ => h H ρ σ Ext.refl sr ev
theorem s_break {pos : Pos} : SOk G c k (.Break pos) dBk := fun X W F => PS.imp ps_break fun D σ H ⟨ρ, ε, S, ev, sr, h⟩ => h H ρ σ Ext.refl sr ev
theorem s_cont {pos : Pos} : SOk G c k (.Continue pos) dCt := fun X W F => PS.imp ps_continue fun D σ H ⟨ρ, ε, S, ev, sr, h⟩ => h H ρ σ Ext.refl sr ev
theorem s_doc {x : Str} {j : Nat} {pos pos' : Pos} : SOk G c k (.Expr (.Constant (.str x) j pos) pos') dNx := fun X W F => PS.imp ps_doc fun D σ H ⟨ρ, ε, S, ev, sr, h⟩ => h H ρ σ Ext.refl sr ev
theorem s_expr {e : Expr} {d : DE} {pos : Pos} (he : EOk G c k e d) (hs : ∀ env, swapsWith e none pos.line env = pure false := by intro _; rfl) : SOk G c k (.Expr e pos) (dDrop d) := fun X W F =>
  PS.imp (ps_expr (he X W F) (hs _)) fun D σ H ⟨ρ, ε, S, ev, sr, h⟩ => ⟨ρ, ε, S, ev, sr, (Rg_sBind ev h).mono fun v H' ⟨w, S', ρ', e', s', r', q⟩ => q H' ρ' σ Ext.refl s' (ev.mono e')⟩
theorem s_ret {e : Expr} {d : DE} {pos : Pos} (he : EOk G c k e d) : SOk G c k (.Return (some e) pos) (dRet d) := fun X W F =>
  PS.imp (ps_ret (he X W F)) fun D σ H ⟨ρ, ε, S, ev, sr, h⟩ => ⟨ρ, ε, S, ev, sr, (Rg_sBind ev h).mono fun v H' ⟨w, S', ρ', e', s', r', q⟩ => q H' ρ' v Ext.refl s' r'⟩
theorem s_retN {pos : Pos} : SOk G c k (.Return none pos) dRetN := fun X W F => PS.imp ps_retN fun D σ H ⟨ρ, ε, S, ev, sr, h⟩ => h H ρ .non Ext.refl sr .non
theorem s_if {t : Expr} {a b : List Stmt} {pos : Pos} {dt : DB} {da db : DS} (ht : BOk G c k t dt) (ha : SsOk G c k a da) (hb : SsOk G c k b db) : SOk G c k (.If t a b pos) (dIf dt da db) := fun X W F =>
  PS.imp (ps_if (ht X W F) (ha X W F) (hb X W F)) fun D σ H ⟨ρ, ε, S, ev, sr, h⟩ => ⟨ρ, ε, S, ev, sr, (Rg_sBind ev h).mono fun v H' ⟨w, S', ρ', e', s', r', q⟩ => by
    obtain rfl : w = v := r'
    cases w with
    | true => exact ⟨ρ', ε, S', ev.mono e', s', q⟩
    | false => exact ⟨ρ', ε, S', ev.mono e', s', q⟩⟩

/-! ### names, constants -/
def dVar (i : Nat) : DE := fun ε S => match ε[i]? with
  | some (some w) => .ok w S
  | _ => .bad
def dC (w : W) : DE := fun _ S => .ok w S
theorem e_var (i : Nat) {x : Str} {pos : Pos} (hN : c.N[i]? = some x := by rfl) (hv : Vis c.sc x := by first | exact Or.inl rfl | exact Or.inr (Or.inl rfl) | exact Or.inr (Or.inr rfl)) (hd : (x == ("__debug__" : Str)) = false := by decide)
    (hcd : (x == ("__classdict__" : Str)) = false := by decide) : EOk G c k (.Name x pos) (dVar i) := fun X W F =>
  PE.imp (pe_var (i := i) (by rw [F.N]; exact hN) (by rw [F.sc]; exact hv) hd hcd) fun σ H Q ⟨ρ, ε, S, ev, sr, h⟩ => by
    unfold dVar at h
    cases q : ε[i]? with
    | none => rw [q] at h; exact h.elim
    | some o =>
      cases o with
      | none => rw [q] at h; exact h.elim
      | some w =>
        rw [q] at h
        obtain ⟨v, hv, r⟩ := ev.at_ i w q
        exact ⟨v, hv, h H ρ v Ext.refl sr r⟩
theorem tC_ok {w : W} {v : V} {W' : WX} {σ : St} {H : Hp} {Q : VK} (h : tN G W' (dC w) σ H Q) (r : ∀ ρ, VR G.K H ρ w v) : tC v σ H Q := let ⟨ρ, ε, S, ev, sr, h⟩ := h; h H ρ v Ext.refl sr (r ρ)
theorem e_int {i : Int} {j : Nat} {pos : Pos} : EOk G c k (.Constant (.int i) j pos) (dC (.int i)) := fun X W F => PE.imp pe_int fun σ H Q h => tC_ok h fun _ => .int i
theorem e_bl {b : Bool} {j : Nat} {pos : Pos} : EOk G c k (.Constant (.bool b) j pos) (dC (.bl b)) := fun X W F => PE.imp pe_bl fun σ H Q h => tC_ok h fun _ => .bl b
theorem e_non {j : Nat} {pos : Pos} : EOk G c k (.Constant .none j pos) (dC .non) := fun X W F => PE.imp pe_non fun σ H Q h => tC_ok h fun _ => .non
theorem e_str {x : Str} {j : Nat} {pos : Pos} (hx : okS x = true := by decide +kernel) : EOk G c k (.Constant (.str x) j pos) (dC (.str x)) := fun X W F => PE.imp pe_str fun σ H Q h => tC_ok h fun _ => .str hx
theorem glob_of {X : Cx} {W : WX} (F : Fit G c k X W) {x : Str} (hg : c.sc.names.lookup x = some .globalImplicit) : Gl X x := by
  show X.env.scope.names.lookup x = _
  rw [F.sc]; exact hg
/-- a module's constant -/
def isC : W → Option V
  | .non => some .non | .bl b => some (.bl b) | .int i => some (.int i) | .str x => if okS x = true then some (.str x) else none | _ => none
theorem isC_ok {w : W} {v : V} (h : isC w = some v) {K : PySem.W.Frag} {H : Hp} {ρ : List Addr} : VR K H ρ w v := by
  cases w with
  | non => cases h; exact .non
  | bl b => cases h; exact .bl b
  | int i => cases h; exact .int i
  | str x =>
    simp only [isC] at h
    split at h
    · cases h; exact .str (by assumption)
    · cases h
  | tup _ => cases h
  | ref _ => cases h
  | rl _ => cases h
theorem e_glob {x : Str} {w : W} {v : V} {u : Value} {pos : Pos} (hm : G.mg x = some u) (hc : isC w = some v) (r : RelV v u) (hg : c.sc.names.lookup x = some .globalImplicit := by rfl) (hd : (x == ("__debug__" : Str)) = false := by decide) : EOk G c k (.Name x pos) (dC w) := fun X W F =>
  PE.imp (pe_glob (glob_of F hg) (by rw [F.mg]; exact hm) r hd) fun σ H Q h => tC_ok h fun _ => isC_ok hc

/-! ### arguments, displays -/
def aNil : DA := fun _ => M.ret []
def aCons (d : DE) (e : DA) : DA := fun ε => d ε >>= fun w => e ε >>= fun ws => M.ret (w :: ws)
def plainE : Expr → Bool
  | .Starred _ _ => false
  | _ => true
theorem starEach_plain {e : Expr} (h : plainE e = true) (es : List Expr) (env : Env) : starEach (e :: es) env = (false, eval e env) :: starEach es env := by
  cases e <;> first | rfl | (simp [plainE] at h)
theorem a_nil : AOk G c k [] aNil := fun X W F => PA.imp pa_nil fun σ H Q ⟨ρ, ε, S, ev, sr, h⟩ => h H ρ [] Ext.refl sr .nil
theorem a_cons {e : Expr} {es : List Expr} {d : DE} {da : DA} (he : EOk G c k e d) (ha : AOk G c k es da) (hp : plainE e = true := by rfl) : AOk G c k (e :: es) (aCons d da) := fun X W F =>
  PA.imp (pa_cons (he X W F) (ha X W F) (starEach_plain hp _ _)) fun σ H Q ⟨ρ, ε, S, ev, sr, h⟩ => ⟨ρ, ε, S, ev, sr, (Rg.bind h).mono fun v H1 ⟨w, S1, ρ1, e1, s1, r1, h1⟩ =>
    ⟨ρ1, ε, S1, ev.mono e1, s1, (Rg.bind h1).mono fun vs H2 ⟨ws, S2, ρ2, e2, s2, r2, h2⟩ => Rg.ret (rel := VRs G.K) h2 s2 (.cons (r1.mono e2) r2)⟩⟩
/-- a new object -/
def alloc (o : O) : M W := fun S => .ok (.ref S.length) (S ++ [o])
def chk (b : Bool) : M Unit := fun S => if b then .ok () S else .bad
def lenOk (n : Nat) : Bool := decide (n ≤ sizeLine)
theorem Rg.chk {α β : Type} {W : WX} {σ : St} {rel : Hp → List Addr → α → β → Prop} {b : Bool} {f : Unit → M α} {S : Store} {H : Hp} {ρ : List Addr} {Q : β → Hp → Prop} (h : Rg G W σ rel ((N.chk b >>= f) S) H ρ Q) : b = true ∧ Rg G W σ rel (f () S) H ρ Q := by
  cases b with
  | true => exact ⟨rfl, h⟩
  | false => exact (show False from h).elim
/-- a list of new items, made at p -/
theorem Rg.list {U : WX} {σ : St} {ws : List W} {vs : List V} {S : Store} {H : Hp} {ρ : List Addr} {Q : VK} (h : Rg G U σ (VR G.K) (alloc (.lst ws) S) H ρ Q) (sr : SR G H ρ S) (r : VRs G.K H ρ ws vs) {p : Addr} (hp : H p = none) : Q (.ref p) (upd H p (.lst vs)) := by
  have e : Ext G.K H ρ (upd H p (.lst vs)) (ρ ++ [p]) := Ext.snoc hp
  refine h _ _ _ e (sr.snoc hp ⟨vs, upd_same, r.mono e⟩) (.ref ?_)
  rw [← sr.len, List.getElem?_append_right (Nat.le_refl _)]
  simp
def dTup (a : DA) : DE := fun ε => a ε >>= fun ws => chk (lenOk ws.length) >>= fun _ => M.ret (.tup ws)
def dLst (a : DA) : DE := fun ε => a ε >>= fun ws => chk (lenOk ws.length) >>= fun _ => alloc (.lst ws)
theorem e_tup {es : List Expr} {a : DA} {x1 : Nat} {pos : Pos} (h : AOk G c k es a) : EOk G c k (.Tuple es x1 pos) (dTup a) := fun X W F =>
  PE.imp (pe_tup (h X W F)) fun σ H Q ⟨ρ, ε, S, ev, sr, h⟩ => ⟨ρ, ε, S, ev, sr, (Rg.bind h).mono fun vs H1 ⟨ws, S1, ρ1, e1, s1, r1, h1⟩ => by
    obtain ⟨hz, h2⟩ := Rg.chk h1
    refine ⟨by rw [← r1.length]; exact of_decide_eq_true hz, fun p hp => ?_⟩
    exact h2 _ _ _ (Ext.fresh hp) (s1.fresh hp) (.tup (.of upd_same) (r1.mono (Ext.fresh hp)))⟩
theorem e_lst {es : List Expr} {a : DA} {pos : Pos} (h : AOk G c k es a) : EOk G c k (.List es pos) (dLst a) := fun X W F =>
  PE.imp (pe_lst (h X W F)) fun σ H Q ⟨ρ, ε, S, ev, sr, h⟩ => ⟨ρ, ε, S, ev, sr, (Rg.bind h).mono fun vs H1 ⟨ws, S1, ρ1, e1, s1, r1, h1⟩ => by
    obtain ⟨hz, h2⟩ := Rg.chk h1
    exact ⟨by rw [← r1.length]; exact of_decide_eq_true hz, fun p hp => Rg.list h2 s1 r1 hp⟩⟩

/-! ### operators by their values -/
abbrev Op1 := W → Store → Option (W × Store)
abbrev Op2 := W → W → Store → Option (W × Store)
abbrev OpA := List W → Store → Option (W × Store)
def lift {α : Type} (f : Store → Option (α × Store)) : M α := fun S => match f S with
  | some (a, S') => .ok a S'
  | none => .bad
/-- the wish of a built-in's result -/
def Wish (G : Top) (H : Hp) (ρ : List Addr) (w : W) (S' : Store) (Q : VK) : Prop := ∀ H' ρ' v, Ext G.K H ρ H' ρ' → SR G H' ρ' S' → VR G.K H' ρ' w v → Q v H'
def Op2Ok (G : Top) (r : R2) (op : Op2) : Prop := ∀ H ρ S a b x y w S' Q, SR G H ρ S → VR G.K H ρ a x → VR G.K H ρ b y → op a b S = some (w, S') → Wish G H ρ w S' Q → r x y H Q
def Op1Ok (G : Top) (r : V → Hp → VK → Prop) (op : Op1) : Prop := ∀ H ρ S a x w S' Q, SR G H ρ S → VR G.K H ρ a x → op a S = some (w, S') → Wish G H ρ w S' Q → r x H Q
def OpAOk (G : Top) (r : List V → Hp → VK → Prop) (op : OpA) : Prop := ∀ H ρ S ws vs w S' Q, SR G H ρ S → VRs G.K H ρ ws vs → op ws S = some (w, S') → Wish G H ρ w S' Q → r vs H Q
theorem Rg.lift {α β : Type} {W : WX} {σ : St} {rel : Hp → List Addr → α → β → Prop} {f : Store → Option (α × Store)} {S : Store} {H : Hp} {ρ : List Addr} {Q : β → Hp → Prop} (h : Rg G W σ rel (N.lift f S) H ρ Q) :
    ∃ a S', f S = some (a, S') ∧ ∀ H' ρ' b, Ext G.K H ρ H' ρ' → SR G H' ρ' S' → rel H' ρ' a b → Q b H' := by
  unfold N.lift at h
  cases q : f S with
  | none => rw [q] at h; exact h.elim
  | some p => rw [q] at h; exact ⟨p.1, p.2, rfl, h⟩
def dOp (op : Op2) (d e : DE) : DE := fun ε => d ε >>= fun a => e ε >>= fun b => lift (op a b)
def dUn (op : Op1) (d : DE) : DE := fun ε => d ε >>= fun a => lift (op a)
def dFn (op : OpA) (a : DA) : DE := fun ε => a ε >>= fun ws => lift (op ws)
theorem op_imp {W : WX} {r : R2} {op : Op2} {d e : DE} (h : Op2Ok G r op) {σ : St} {H : Hp} {Q : VK} (q : tN G W (dOp op d e) σ H Q) : tOp r (tN G W d) (tN G W e) σ H Q := by
  obtain ⟨ρ, ε, S, ev, sr, q⟩ := q
  refine ⟨ρ, ε, S, ev, sr, (Rg.bind q).mono fun x H1 ⟨a, S1, ρ1, e1, s1, r1, q1⟩ => ?_⟩
  refine ⟨ρ1, ε, S1, ev.mono e1, s1, (Rg.bind q1).mono fun y H2 ⟨b, S2, ρ2, e2, s2, r2, q2⟩ => ?_⟩
  obtain ⟨w, S3, hw, q3⟩ := Rg.lift q2
  exact h H2 ρ2 S2 a b x y w S3 Q s2 (r1.mono e2) r2 hw q3
theorem e_bin {o : Operator} {r : R2} {op : Op2} {a b : Expr} {d e : DE} {pos : Pos} (hr : ∀ X W, Fit G c k X W → OpR X (binaryOp o) r) (h : Op2Ok G r op) (ha : EOk G c k a d) (hb : EOk G c k b e) : EOk G c k (.BinOp a o b pos) (dOp op d e) := fun X W F =>
  PE.imp (pe_op (hr X W F) (ha X W F) (hb X W F)) fun σ H Q q => op_imp h q
theorem e_cmp {o : CmpOp} {r : R2} {op : Op2} {a b : Expr} {d e : DE} {pos : Pos} (hr : ∀ X W, Fit G c k X W → OpR X (compareOp o) r) (h : Op2Ok G r op) (ha : EOk G c k a d) (hb : EOk G c k b e) (hm : behindInMarks o b = false := by rfl) : EOk G c k (.Compare a [o] [b] pos) (dOp op d e) := fun X W F =>
  PE.imp (pe_cmpR (hr X W F) (ha X W F) (hb X W F) hm) fun σ H Q q => op_imp h q
/-- a < b < c -/
def dChain (op op' : Op2) (d e f : DE) : DE := fun ε => d ε >>= fun a => e ε >>= fun b => lift (op a b) >>= fun z => match z with
  | .bl true => f ε >>= fun y => lift (op' b y)
  | .bl false => M.ret (.bl false)
  | _ => bad
theorem e_un {o : UnaryOp} {r : V → Hp → VK → Prop} {op : Op1} {a : Expr} {d : DE} {pos : Pos} (hr : ∀ X W, Fit G c k X W → UnR X (unaryOp o) r) (h : Op1Ok G r op) (ha : EOk G c k a d) : EOk G c k (.UnaryOp o a pos) (dUn op d) := fun X W F =>
  PE.imp (pe_un (hr X W F) (ha X W F)) fun σ H Q ⟨ρ, ε, S, ev, sr, q⟩ => ⟨ρ, ε, S, ev, sr, (Rg.bind q).mono fun x H1 ⟨a, S1, ρ1, e1, s1, r1, q1⟩ => by
    obtain ⟨w, S3, hw, q3⟩ := Rg.lift q1
    exact h H1 ρ1 S1 a x w S3 Q s1 r1 hw q3⟩
theorem fn_imp {W : WX} {r : List V → Hp → VK → Prop} {op : OpA} {a : DA} (h : OpAOk G r op) {σ : St} {H : Hp} {Q : VK} (q : tN G W (dFn op a) σ H Q) : tA G W a σ H fun vs H1 => r vs H1 Q := by
  obtain ⟨ρ, ε, S, ev, sr, q⟩ := q
  refine ⟨ρ, ε, S, ev, sr, (Rg.bind q).mono fun xs H1 ⟨ws, S1, ρ1, e1, s1, r1, q1⟩ => ?_⟩
  obtain ⟨w, S3, hw, q3⟩ := Rg.lift q1
  exact h H1 ρ1 S1 ws xs w S3 Q s1 r1 hw q3
/-- a built-in's call -/
theorem e_blt {id : String} {x : Str} {r : List V → Hp → VK → Prop} {op : OpA} {e : Expr} {es : List Expr} {a : DA} {p pos : Pos} (hr : ∀ X W, Fit G c k X W → CallR X (.builtin id) r) (h : OpAOk G r op) (hm : G.mg x = none) (hv : bootBuiltins x = some (.builtin id))
    (ha : AOk G c k (e :: es) a) (hg : c.sc.names.lookup x = some .globalImplicit := by rfl) (hn : x ≠ "__name__" := by decide) (hdb : (x == ("__debug__" : Str)) = false := by decide) (he : ∀ env, starEach (e :: es) env = (false, eval e env) :: starEach es env := by intro _; rfl)
    (hpl : ∀ env, (backTo pos (starEach es env)).any (·.1) = false := by intro _; rfl) : EOk G c k (.Call (.Name x p) (e :: es) [] pos) (dFn op a) := fun X W F =>
  PE.imp (pe_callB (hr X W F) (glob_of F hg) (by rw [F.mg]; exact hm) hv (ha X W F) hn hdb (he _) (hpl _)) fun σ H Q q => fn_imp h q
theorem e_ty {T : String} {x : Str} {r : List V → Hp → VK → Prop} {op : OpA} {e : Expr} {es : List Expr} {a : DA} {p pos : Pos} (hr : ∀ X W, Fit G c k X W → CallR X (.type T) r) (h : OpAOk G r op) (hm : G.mg x = none) (hv : bootBuiltins x = some (.type T))
    (ha : AOk G c k (e :: es) a) (hg : c.sc.names.lookup x = some .globalImplicit := by rfl) (hn : x ≠ "__name__" := by decide) (hdb : (x == ("__debug__" : Str)) = false := by decide) (he : ∀ env, starEach (e :: es) env = (false, eval e env) :: starEach es env := by intro _; rfl)
    (hpl : ∀ env, (backTo pos (starEach es env)).any (·.1) = false := by intro _; rfl) : EOk G c k (.Call (.Name x p) (e :: es) [] pos) (dFn op a) := fun X W F =>
  PE.imp (pe_callTy (hr X W F) (glob_of F hg) (by rw [F.mg]; exact hm) hv (ha X W F) hn hdb (he _) (hpl _)) fun σ H Q q => fn_imp h q
end
end N
namespace N
open PySem L2
open PyProof.Rows (envOfC)
/-! ### tests -/
def truthW : W → Store → Option Bool
  | .non, _ => some false
  | .bl b, _ => some b
  | .int i, _ => some (i != 0)
  | .str x, _ => if x.length ≤ sizeLine then some ((x.length : Int) != 0) else none
  | .tup ws, _ => some (!ws.isEmpty)
  | .rl ws, _ => some (!ws.isEmpty)
  | .ref n, S => match S[n]? with
    | some (.lst ws) => some (!ws.isEmpty)
    | some (.dct kvs) => some (!kvs.isEmpty)
    | _ => none
def dTru (d : DE) : DB := fun ε => d ε >>= fun w => lift fun S => (truthW w S).map fun b => (b, S)
theorem VRs.isEmpty {K : PySem.W.Frag} {H : Hp} {ρ : List Addr} {ws : List W} {vs : List V} (r : VRs K H ρ ws vs) : ws.isEmpty = vs.isEmpty := by cases r <;> rfl
theorem FR.isEmpty {κ : Type} {K : PySem.W.Frag} {H : Hp} {ρ : List Addr} {ws : List (κ × W)} {vs : List (κ × V)} (r : FR K H ρ ws vs) : ws.isEmpty = vs.isEmpty := by cases r <;> rfl
theorem truthW_ok {G : Top} {H : Hp} {ρ : List Addr} {S : Store} {w : W} {v : V} {b : Bool} (sr : SR G H ρ S) (r : VR G.K H ρ w v) (h : truthW w S = some b) : TruV G.K v H b := by
  cases r with
  | non => cases h; rfl
  | bl b => cases h; rfl
  | int i => cases h; rfl
  | str x =>
    simp only [truthW] at h
    split at h
    · cases h; exact ⟨by assumption, rfl⟩
    · cases h
  | tup q t => cases h; exact .inr (.inl ⟨_, q, by rw [t.isEmpty]⟩)
  | rl q t => cases h; exact .inl ⟨_, q.sq, by rw [t.isEmpty]⟩
  | ref q =>
    rename_i n a
    unfold truthW at h
    cases e : S[n]? with
    | none => simp [e] at h
    | some o =>
      have ob := sr.ob n a o q e
      cases o with
      | lst ws =>
        simp only [e, Option.some.injEq] at h
        obtain ⟨vs, z, t⟩ := ob
        subst h
        exact .inl ⟨vs, .of z, by rw [t.isEmpty]⟩
      | dct kvs =>
        simp only [e, Option.some.injEq] at h
        obtain ⟨vs, z, t⟩ := ob
        subst h
        exact .inr (.inr ⟨vs, z, by rw [FR.isEmpty t]⟩)
      | ins c fs => simp [e] at h
      | fdct kvs => simp [e] at h
section
variable {G : Top} {c : Ctx} {k : Nat}
theorem b_val {e : Expr} {d : DE} (he : EOk G c k e d) (ht : ∀ env whole, isTrue e env whole = (do let v ← whole; standAt e.pos; holding [v] (truthy v)) := by intro _ _; rfl) : BOk G c k e (dTru d) := fun X U F =>
  PT.imp (pt_truth (he X U F) (ht _)) fun σ H Q ⟨ρ, ε, S, ev, sr, h⟩ => ⟨ρ, ε, S, ev, sr, (Rg.bind h).mono fun v H1 ⟨w, S1, ρ1, e1, s1, r1, h1⟩ => by
    obtain ⟨b, S2, hb, q⟩ := Rg.lift h1
    cases z : truthW w S1 with
    | none => simp [z] at hb
    | some b' =>
      simp [z] at hb
      obtain ⟨rfl, rfl⟩ := hb
      exact ⟨b', by rw [F.K]; exact truthW_ok s1 r1 z, q H1 ρ1 b' Ext.refl s1 rfl⟩⟩
/-- a comparison as a test: its value is a bool -/
def dBool (d : DE) : DB := fun ε => d ε >>= fun w => match w with
  | .bl b => M.ret b
  | _ => bad
theorem bool_imp {U : WX} {d : DE} {σ : St} {H : Hp} {Q : Bool → Hp → Prop} (h : tB G U (dBool d) σ H Q) : tN G U d σ H fun x H' => ∃ k, x = .bl k ∧ Q k H' := by
  obtain ⟨ρ, ε, S, ev, sr, h⟩ := h
  refine ⟨ρ, ε, S, ev, sr, (Rg.bind h).mono fun v H1 ⟨w, S1, ρ1, e1, s1, r1, h1⟩ => ?_⟩
  cases r1 with
  | bl b => exact ⟨b, rfl, h1 H1 ρ1 b Ext.refl s1 rfl⟩
  | non => exact h1.elim
  | int i => exact h1.elim
  | str x => exact h1.elim
  | ref _ => exact h1.elim
  | tup _ _ => exact h1.elim
  | rl _ _ => exact h1.elim
theorem b_cmp {o : CmpOp} {r : R2} {op : Op2} {a b : Expr} {d e : DE} {pos : Pos} (hr : ∀ X W, Fit G c k X W → OpR X (compareOp o) r) (h : Op2Ok G r op) (ha : EOk G c k a d) (hb : EOk G c k b e) (hm : behindInMarks o b = false := by rfl) : BOk G c k (.Compare a [o] [b] pos) (dBool (dOp op d e)) := fun X U F =>
  PT.imp (pt_cmpR (hr X U F) (ha X U F) (hb X U F) hm) fun σ H Q q => op_imp h (bool_imp q)
theorem chain_imp {U : WX} {r r' : R2} {op op' : Op2} {d e f : DE} (h : Op2Ok G r op) (h' : Op2Ok G r' op') {σ : St} {H : Hp} {Q : VK} (q : tN G U (dChain op op' d e f) σ H Q) : tChain r r' (tN G U d) (tN G U e) (tN G U f) σ H Q := by
  obtain ⟨ρ, ε, S, ev, sr, q⟩ := q
  refine ⟨ρ, ε, S, ev, sr, (Rg.bind q).mono fun x H1 ⟨a, S1, ρ1, e1, s1, r1, q1⟩ => ?_⟩
  refine ⟨ρ1, ε, S1, ev.mono e1, s1, (Rg.bind q1).mono fun y H2 ⟨b, S2, ρ2, e2, s2, r2, q2⟩ => ?_⟩
  have q3 := Rg.bind (rel := VR G.K) q2
  obtain ⟨w, S3, hw, q3⟩ := Rg.lift q3
  refine h H2 ρ2 S2 a b x y w S3 _ s2 (r1.mono e2) r2 hw fun H3 ρ3 z e3 s3 r3 => ?_
  obtain ⟨w', S', ρ', e', s', r', q4⟩ := q3 H3 ρ3 z e3 s3 r3
  have fin : ∀ b', z = V.bl b' → w' = W.bl b' := fun b' hz => by subst hz; cases r'; rfl
  cases r' with
  | bl b' =>
    refine ⟨b', rfl, ?_⟩
    cases b' with
    | false => exact q4 H3 ρ' (.bl false) Ext.refl s' (.bl false)
    | true =>
      refine ⟨ρ', ε, S', ev.mono ((e1.trans e2).trans e'), s', (Rg.bind q4).mono fun y' H4 ⟨b4, S4, ρ4, e4, s4, r4, q5⟩ => ?_⟩
      obtain ⟨w5, S5, hw5, q6⟩ := Rg.lift q5
      exact h' H4 ρ4 S4 b b4 y y' w5 S5 Q s4 (r2.mono (e'.trans e4)) r4 hw5 q6
  | non => exact q4.elim
  | int i => exact q4.elim
  | str x => exact q4.elim
  | ref _ => exact q4.elim
  | tup _ _ => exact q4.elim
  | rl _ _ => exact q4.elim
theorem e_chain {o o' : CmpOp} {r r' : R2} {op op' : Op2} {a b f : Expr} {d e g : DE} {pos : Pos} (hr : ∀ X W, Fit G c k X W → OpR X (compareOp o) r) (hr' : ∀ X W, Fit G c k X W → OpR X (compareOp o') r') (h : Op2Ok G r op) (h' : Op2Ok G r' op') (ha : EOk G c k a d) (hb : EOk G c k b e) (hc : EOk G c k f g)
    (hm : lastMarks [o, o'] [b, f] = false := by with_unfolding_all rfl) : EOk G c k (.Compare a [o, o'] [b, f] pos) (dChain op op' d e g) := fun X U F =>
  PE.imp (pe_chain (hr X U F) (hr' X U F) (ha X U F) (hb X U F) (hc X U F) hm) fun σ H Q q => chain_imp h h' q
theorem b_chain {o o' : CmpOp} {r r' : R2} {op op' : Op2} {a b f : Expr} {d e g : DE} {pos : Pos} (hr : ∀ X W, Fit G c k X W → OpR X (compareOp o) r) (hr' : ∀ X W, Fit G c k X W → OpR X (compareOp o') r') (h : Op2Ok G r op) (h' : Op2Ok G r' op') (ha : EOk G c k a d) (hb : EOk G c k b e) (hc : EOk G c k f g)
    (hm : lastMarks [o, o'] [b, f] = false := by with_unfolding_all rfl) : BOk G c k (.Compare a [o, o'] [b, f] pos) (dBool (dChain op op' d e g)) := fun X U F =>
  PT.imp (pt_chain (hr X U F) (hr' X U F) (ha X U F) (hb X U F) (hc X U F) hm) fun σ H Q q => chain_imp h h' (bool_imp q)
def dNot (d : DB) : DB := fun ε => d ε >>= fun b => M.ret (!b)
def dAnd (d e : DB) : DB := fun ε => d ε >>= fun b => if b = true then e ε else M.ret false
def dOr (d e : DB) : DB := fun ε => d ε >>= fun b => if b = true then M.ret true else e ε
theorem b_not {a : Expr} {d : DB} {pos : Pos} (h : BOk G c k a d) : BOk G c k (.UnaryOp .Not a pos) (dNot d) := fun X U F =>
  PT.imp (pt_not (h X U F)) fun σ H Q ⟨ρ, ε, S, ev, sr, q⟩ => ⟨ρ, ε, S, ev, sr, (Rg.bind q).mono fun b H1 ⟨b', S1, ρ1, e1, s1, r1, q1⟩ => by
    obtain rfl : b' = b := r1
    exact q1 H1 ρ1 _ Ext.refl s1 rfl⟩
theorem bw_pt {a : Expr} {d : DB} (h : BWOk G c k a d) : BOk G c k a d := fun X U F => (h X U F).pt
theorem bw_and1 {a : Expr} {d : DB} {pos : Pos} (h : BOk G c k a d) : BWOk G c k (.BoolOp .And [a] pos) d := fun X U F => pw_and1 (h X U F)
theorem bw_or1 {a : Expr} {d : DB} {pos : Pos} (h : BOk G c k a d) : BWOk G c k (.BoolOp .Or [a] pos) d := fun X U F => pw_or1 (h X U F)
theorem bw_and {a b : Expr} {rest : List Expr} {d e : DB} {pos : Pos} (h : BOk G c k a d) (h' : BWOk G c k (.BoolOp .And (b :: rest) pos) e) : BWOk G c k (.BoolOp .And (a :: b :: rest) pos) (dAnd d e) := fun X U F =>
  PW.imp (pw_and (h X U F) (h' X U F)) fun σ H Q ⟨ρ, ε, S, ev, sr, q⟩ => ⟨ρ, ε, S, ev, sr, (Rg.bind q).mono fun b H1 ⟨b', S1, ρ1, e1, s1, r1, q1⟩ => by
    obtain rfl : b' = b := r1
    cases b' with
    | true => exact ⟨ρ1, ε, S1, ev.mono e1, s1, q1⟩
    | false => exact q1 H1 ρ1 _ Ext.refl s1 rfl⟩
theorem bw_or {a b : Expr} {rest : List Expr} {d e : DB} {pos : Pos} (h : BOk G c k a d) (h' : BWOk G c k (.BoolOp .Or (b :: rest) pos) e) : BWOk G c k (.BoolOp .Or (a :: b :: rest) pos) (dOr d e) := fun X U F =>
  PW.imp (pw_or (h X U F) (h' X U F)) fun σ H Q ⟨ρ, ε, S, ev, sr, q⟩ => ⟨ρ, ε, S, ev, sr, (Rg.bind q).mono fun b H1 ⟨b', S1, ρ1, e1, s1, r1, q1⟩ => by
    obtain rfl : b' = b := r1
    cases b' with
    | false => exact ⟨ρ1, ε, S1, ev.mono e1, s1, q1⟩
    | true => exact q1 H1 ρ1 _ Ext.refl s1 rfl⟩
/-- and, or, not as values: all but the last are bools -/
def dAndV (d e : DE) : DE := fun ε => d ε >>= fun w => match w with
  | .bl true => e ε
  | .bl false => M.ret (.bl false)
  | _ => bad
def dOrV (d e : DE) : DE := fun ε => d ε >>= fun w => match w with
  | .bl false => e ε
  | .bl true => M.ret (.bl true)
  | _ => bad
def dNotV (d : DE) : DE := fun ε => d ε >>= fun w => match w with
  | .bl b => M.ret (.bl (!b))
  | _ => bad
theorem e_one {op : BoolOp} {a : Expr} {d : DE} {pos : Pos} (h : EOk G c k a d) : EOk G c k (.BoolOp op [a] pos) d := fun X U F => pe_one (h X U F)
theorem e_and {a b : Expr} {rest : List Expr} {d e : DE} {pos : Pos} (h : EOk G c k a d) (h' : EOk G c k (.BoolOp .And (b :: rest) pos) e) : EOk G c k (.BoolOp .And (a :: b :: rest) pos) (dAndV d e) := fun X U F =>
  PE.imp (pe_and (h X U F) (h' X U F)) fun σ H Q ⟨ρ, ε, S, ev, sr, q⟩ => ⟨ρ, ε, S, ev, sr, (Rg.bind q).mono fun x H1 ⟨w, S1, ρ1, e1, s1, r1, q1⟩ => by
    cases r1 with
    | bl b =>
      refine ⟨b, rfl, ?_⟩
      cases b with
      | true => exact ⟨ρ1, ε, S1, ev.mono e1, s1, q1⟩
      | false => exact q1 H1 ρ1 _ Ext.refl s1 (.bl false)
    | non => exact q1.elim
    | int i => exact q1.elim
    | str x => exact q1.elim
    | ref _ => exact q1.elim
    | tup _ _ => exact q1.elim
    | rl _ _ => exact q1.elim⟩
theorem e_or {a b : Expr} {rest : List Expr} {d e : DE} {pos : Pos} (h : EOk G c k a d) (h' : EOk G c k (.BoolOp .Or (b :: rest) pos) e) : EOk G c k (.BoolOp .Or (a :: b :: rest) pos) (dOrV d e) := fun X U F =>
  PE.imp (pe_or (h X U F) (h' X U F)) fun σ H Q ⟨ρ, ε, S, ev, sr, q⟩ => ⟨ρ, ε, S, ev, sr, (Rg.bind q).mono fun x H1 ⟨w, S1, ρ1, e1, s1, r1, q1⟩ => by
    cases r1 with
    | bl b =>
      refine ⟨b, rfl, ?_⟩
      cases b with
      | false => exact ⟨ρ1, ε, S1, ev.mono e1, s1, q1⟩
      | true => exact q1 H1 ρ1 _ Ext.refl s1 (.bl true)
    | non => exact q1.elim
    | int i => exact q1.elim
    | str x => exact q1.elim
    | ref _ => exact q1.elim
    | tup _ _ => exact q1.elim
    | rl _ _ => exact q1.elim⟩
theorem e_not {a : Expr} {d : DE} {pos : Pos} (h : EOk G c k a d) : EOk G c k (.UnaryOp .Not a pos) (dNotV d) := fun X U F =>
  PE.imp (pe_not (h X U F)) fun σ H Q ⟨ρ, ε, S, ev, sr, q⟩ => ⟨ρ, ε, S, ev, sr, (Rg.bind q).mono fun x H1 ⟨w, S1, ρ1, e1, s1, r1, q1⟩ => by
    cases r1 with
    | bl b => exact ⟨b, rfl, q1 H1 ρ1 _ Ext.refl s1 (.bl _)⟩
    | non => exact q1.elim
    | int i => exact q1.elim
    | str x => exact q1.elim
    | ref _ => exact q1.elim
    | tup _ _ => exact q1.elim
    | rl _ _ => exact q1.elim⟩
def dIfE (t : DB) (d e : DE) : DE := fun ε => t ε >>= fun b => if b = true then d ε else e ε
theorem e_if {t a b : Expr} {dt : DB} {d e : DE} {pos : Pos} (ht : BOk G c k t dt) (ha : EOk G c k a d) (hb : EOk G c k b e) : EOk G c k (.IfExp t a b pos) (dIfE dt d e) := fun X U F =>
  PE.imp (pe_ifExp (ht X U F) (ha X U F) (hb X U F)) fun σ H Q ⟨ρ, ε, S, ev, sr, q⟩ => ⟨ρ, ε, S, ev, sr, (Rg.bind q).mono fun b H1 ⟨b', S1, ρ1, e1, s1, r1, q1⟩ => by
    obtain rfl : b' = b := r1
    cases b' with
    | true => exact ⟨ρ1, ε, S1, ev.mono e1, s1, q1⟩
    | false => exact ⟨ρ1, ε, S1, ev.mono e1, s1, q1⟩⟩

/-! ### targets -/
abbrev DT := W → Ev → Store → Option Ev
abbrev DTs := List W → Ev → Store → Option Ev
def gN (G : Top) (t : DT) : TG := fun v σ H Q => ∃ w ε ρ S ε', VR G.K H ρ w v ∧ EvR G.K H ρ ε σ ∧ SR G H ρ S ∧ t w ε S = some ε' ∧ ∀ σ', EvR G.K H ρ ε' σ' → Q σ' H
def gsN (G : Top) (t : DTs) : TGs := fun vs σ H Q => ∃ ws ε ρ S ε', VRs G.K H ρ ws vs ∧ EvR G.K H ρ ε σ ∧ SR G H ρ S ∧ t ws ε S = some ε' ∧ ∀ σ', EvR G.K H ρ ε' σ' → Q σ' H
theorem PG.imp {X : Cx} {e : Expr} {t t' : TG} (h : PG X e t) (f : ∀ v σ H Q, t' v σ H Q → t v σ H Q) : PG X e t' := ⟨fun pins s σ H v u Q I r q => h.run pins s σ H v u Q I r (f _ _ _ _ q)⟩
theorem PGs.imp {X : Cx} {e : List Expr} {t t' : TGs} (h : PGs X e t) (f : ∀ v σ H Q, t' v σ H Q → t v σ H Q) : PGs X e t' := ⟨fun pins s σ H v u Q I r q => h.run pins s σ H v u Q I r (f _ _ _ _ q)⟩
section
variable (G : Top) (c : Ctx) (k : Nat)
def GOk (e : Expr) (d : DT) : Prop := ∀ X W, Fit G c k X W → PG X e (gN G d)
def GsOk (e : List Expr) (d : DTs) : Prop := ∀ X W, Fit G c k X W → PGs X e (gsN G d)
end
def tgN (i : Nat) : DT := fun w ε _ => some (ε.set i (some w))
def tgNil : DTs := fun ws ε _ => match ws with
  | [] => some ε
  | _ => none
def tgCons (t : DT) (ts : DTs) : DTs := fun ws ε S => match ws with
  | [] => none
  | w :: r => match t w ε S with
    | some ε' => ts r ε' S
    | none => none
/-- (a, b) = a tuple or a list -/
def tgTup (n : Nat) (ts : DTs) : DT := fun w ε S => match w with
  | .tup ws => if ws.length = n then ts ws ε S else none
  | _ => none
theorem g_name (i : Nat) {x : Str} {pos : Pos} (hN : c.N[i]? = some x := by rfl) (hx : Loc c.sc x := by first | exact Or.inl rfl | exact Or.inr rfl) (hf : c.fn x = true ∨ c.sc.names.lookup x = some .local := by first | exact .inl rfl | exact .inr rfl) : GOk G c k (.Name x pos) (tgN i) := fun X U F =>
  PG.imp (pg_name (i := i) F.nd (by rw [F.N]; exact hN) (by rw [F.sc]; exact hx) (hf.elim (fun z => .inl (F.fn x z)) fun z => .inr (by rw [F.sc]; exact z))) fun v σ H Q ⟨w, ε, ρ, S, ε', r, ev, sr, e, h⟩ => by
    cases e
    exact h _ (ev.set i r)
theorem gs_nil : GsOk G c k [] tgNil := fun X U F => PGs.imp pgs_nil fun v σ H Q ⟨ws, ε, ρ, S, ε', r, ev, sr, e, h⟩ => by
  cases r with
  | nil => cases e; exact ⟨rfl, h _ ev⟩
  | cons _ _ => cases e
theorem gs_cons {e : Expr} {es : List Expr} {t : DT} {ts : DTs} (h1 : GOk G c k e t) (h2 : GsOk G c k es ts) (hs : ∀ env, (assignEach (e :: es) env).map (·.2) = assign e env :: (assignEach es env).map (·.2) := by intro _; rfl) : GsOk G c k (e :: es) (tgCons t ts) := fun X U F =>
  PGs.imp (pgs_cons (h1 X U F) (h2 X U F) (hs _)) fun v σ H Q ⟨ws, ε, ρ, S, ε', r, ev, sr, q, h⟩ => by
    cases r with
    | nil => cases q
    | @cons w v' ws' vs' r0 rr =>
      unfold tgCons at q
      cases z : t w ε S with
      | none => simp only [z] at q; cases q
      | some ε1 =>
        simp only [z] at q
        exact ⟨_, _, rfl, w, ε, ρ, S, ε1, r0, ev, sr, z, fun σ1 ev1 => ⟨ws', ε1, ρ, S, ε', rr, ev1, sr, q, h⟩⟩
theorem g_tup {es : List Expr} {j : Nat} {ts : DTs} {n : Nat} {pos : Pos} (h : GsOk G c k es ts) (hn : ∀ env, (assignEach es env).length = n := by intro _; rfl) (hst : ∀ env, (assignEach es env).findIdx? (·.1) = none := by intro _; rfl) : GOk G c k (.Tuple es j pos) (tgTup n ts) := fun X U F =>
  PG.imp (pg_tup F.calm (h X U F) (hn _) (hst _)) fun v σ H Q ⟨w, ε, ρ, S, ε', r, ev, sr, q, h⟩ => by
    cases r with
    | @tup ws a vs s t =>
      unfold tgTup at q
      simp only at q
      split at q
      · rename_i hl
        refine ⟨a, vs, rfl, by rw [F.K]; exact s, by rw [← t.length]; exact hl, ws, ε, ρ, S, ε', t, ev, sr, q, h⟩
      · cases q
    | bl b => cases q
    | non => cases q
    | int i => cases q
    | str x => cases q
    | ref _ => cases q
    | rl _ _ => cases q
def dSet (i : Nat) (d : DE) : DS := fun ε S => sBind (d ε) ε S fun w S' => .nx (ε.set i (some w)) S'
theorem s_set (i : Nat) {x : Str} {e : Expr} {d : DE} {pos pos' : Pos} (he : EOk G c k e d) (hN : c.N[i]? = some x := by rfl) (hx : Loc c.sc x := by first | exact Or.inl rfl | exact Or.inr rfl) (hs : ∀ env, swapsWith e (some (.Name x pos')) pos.line env = pure false := by intro _; rfl)
    (hf : c.fn x = true ∨ c.sc.names.lookup x = some .local := by first | exact .inl rfl | exact .inr rfl) : SOk G c k (.Assign [.Name x pos'] e pos) (dSet i d) := fun X U F =>
  PS.imp (ps_set (i := i) F.nd (by rw [F.N]; exact hN) (by rw [F.sc]; exact hx) (he X U F) (hs _) (hf.elim (fun z => .inl (F.fn x z)) fun z => .inr (by rw [F.sc]; exact z))) fun D σ H ⟨ρ, ε, S, ev, sr, h⟩ => ⟨ρ, ε, S, ev, sr, (Rg_sBind ev h).mono fun v H' ⟨w, S', ρ', e', s', r', q⟩ =>
    q H' ρ' _ Ext.refl s' ((ev.mono e').set i r')⟩
def dAsg (t : DT) (d : DE) : DS := fun ε S => sBind (d ε) ε S fun w S' => match t w ε S' with
  | some ε' => .nx ε' S'
  | none => .bad
theorem s_asg {tg e : Expr} {t : DT} {d : DE} {pos : Pos} (he : EOk G c k e d) (hg : GOk G c k tg t) (hs : ∀ env, swapsWithSole [tg] e pos.line env = pure false := by intro _; rfl) (hw : ∀ env, swappedStores [tg] e env = pure none := by intro _; rfl)
    (h1 : ∀ env, (assignEach [tg] env).map (·.2) = [assign tg env] := by intro _; rfl) : SOk G c k (.Assign [tg] e pos) (dAsg t d) := fun X U F =>
  PS.imp (ps_asg (he X U F) (hg X U F) (hs _) (hw _) (h1 _)) fun D σ H ⟨ρ, ε, S, ev, sr, h⟩ => ⟨ρ, ε, S, ev, sr, (Rg_sBind ev h).mono fun v H' ⟨w, S', ρ', e', s', r', q⟩ => by
    cases z : t w ε S' with
    | none => simp only [z] at q; exact q.elim
    | some ε' =>
      simp only [z] at q
      exact ⟨w, ε, ρ', S', ε', r', ev.mono e', s', z, fun σ' ev' => q H' ρ' σ' Ext.refl s' ev'⟩⟩
/-- a, b = x, y (both sides written, the names plain locals): stored from the right -/
def dPar (i j : Nat) (a : DA) : DS := fun ε S => sBind (a ε) ε S fun ws S' => match ws with
  | [w, u] => .nx ((ε.set i (some w)).set j (some u)) S'
  | _ => .bad
def dPar3 (i j l : Nat) (a : DA) : DS := fun ε S => sBind (a ε) ε S fun ws S' => match ws with
  | [w, u, z] => .nx (((ε.set i (some w)).set j (some u)).set l (some z)) S'
  | _ => .bad
def stdEnv (sc : Scope) : Env := envOfC "" sc 0 0 .none
theorem swapped_std {ts : List Expr} {v : Expr} {env : Env} {sc : Scope} (h : env.scope = sc) (hk : sc.kind = .function) : swappedStores ts v env = swappedStores ts v (stdEnv sc) := by
  have e1 : env.blockKind = (stdEnv sc).blockKind := by
    have e0 : (stdEnv sc).scope = sc := rfl
    unfold Env.blockKind
    rw [h, e0]
  have e2 : ∀ x, env.kindOf x = (stdEnv sc).kindOf x := fun x => by
    unfold Env.kindOf
    rw [h]; rfl
  unfold swappedStores
  simp only [e1, e2]
theorem s_par (i j : Nat) {x y : Str} {a b : Expr} {da : DA} {px py pt pos : Pos} {kt k2 : Nat} {pt2 : Pos} (ha : AOk G c k [a, b] da) (hi : c.N[i]? = some x := by rfl) (hj : c.N[j]? = some y := by rfl) (hij : i ≠ j := by decide)
    (hx : c.sc.names.lookup x = some .local := by rfl) (hy : c.sc.names.lookup y = some .local := by rfl) (hk : c.sc.kind = .function := by rfl)
    (hw : swappedStores [.Tuple [.Name x px, .Name y py] kt pt] (.Tuple [a, b] k2 pt2) (stdEnv c.sc) = pure (some [x, y]) := by rfl)
    (hs : ∀ env, swapsWithSole [.Tuple [.Name x px, .Name y py] kt pt] (.Tuple [a, b] k2 pt2) pos.line env = pure false := by intro _; rfl) : SOk G c k (.Assign [.Tuple [.Name x px, .Name y py] kt pt] (.Tuple [a, b] k2 pt2) pos) (dPar i j da) := fun X U F =>
  PS.imp (ps_par F.calm F.nd (by rw [F.N]; exact hi) (by rw [F.N]; exact hj) hij (by rw [F.sc]; exact hx) (by rw [F.sc]; exact hy) (ha X U F) (by rw [swapped_std F.sc hk]; exact hw) (hs _)) fun D σ H ⟨ρ, ε, S, ev, sr, h⟩ => ⟨ρ, ε, S, ev, sr, (Rg_sBind ev h).mono fun vs H' ⟨ws, S', ρ', e', s', r', q⟩ => by
    cases r' with
    | nil => exact q.elim
    | cons r1 r' =>
      cases r' with
      | nil => exact q.elim
      | cons r2 r' =>
        cases r' with
        | nil => exact ⟨_, _, rfl, q H' ρ' _ Ext.refl s' (((ev.mono e').set i r1).set j r2)⟩
        | cons _ _ => exact q.elim⟩
end
end N
namespace N
open PySem L2
open PyProof.Rows (envOfC)
noncomputable section
open Classical in
def grd (g : Store → Prop) : M Unit := fun S => if g S then .ok () S else .bad
theorem grd_ok {g : Store → Prop} {S : Store} (h : g S) : grd g S = .ok () S := if_pos h
theorem Rg.ext {α β : Type} {G : Top} {U : WX} {σ : St} {rel : Hp → List Addr → α → β → Prop} {r : R α} {H H' : Hp} {ρ ρ' : List Addr} {Q : β → Hp → Prop} (e : Ext G.K H ρ H' ρ') (h : Rg G U σ rel r H ρ Q) : Rg G U σ rel r H' ρ' Q :=
  wp_mono h (fun _ _ q _ _ _ a b c => q _ _ _ (e.trans a) b c) fun _ _ q _ _ _ _ a b c => q _ _ _ _ (e.trans a) b c
/-- the source of a loop: its items, and what must stand while it is walked -/
structure Src where
  items : List W
  g : Store → Prop
def Good (G : Top) (H : Hp) (ρ : List Addr) (p : Src) (J : It) : Prop := ∀ H2 ρ2 S2, Ext G.K H ρ H2 ρ2 → SR G H2 ρ2 S2 → p.g S2 →
  (∀ (i : Nat) w, p.items[i]? = some w → J.go i H2 ∧ ∀ x H3, J.yld i H2 x H3 → Ext G.K H2 ρ2 H3 ρ2 ∧ SR G H3 ρ2 S2 ∧ VR G.K H3 ρ2 w x) ∧ J.stop p.items.length H2
abbrev DI := Ev → M Src
def tI (G : Top) (U : WX) (d : DI) : TI := fun σ H Q => ∃ ρ ε S, EvR G.K H ρ ε σ ∧ SR G H ρ S ∧ Rg G U σ (Good G) (d ε S) H ρ Q
def IOk (G : Top) (c : Ctx) (k : Nat) (tg e : Expr) (d : DI) : Prop := ∀ X U, Fit G c k X U → PI X tg e (tI G U d)
theorem PI.imp {X : Cx} {tg e : Expr} {t t' : TI} (h : PI X tg e t) (f : ∀ σ H Q, t' σ H Q → t σ H Q) : PI X tg e t' := ⟨fun pins s σ H R I q => h.run pins s σ H R I (f _ _ _ q)⟩
/-! ### for -/
open Classical in
def forL (t : DT) (body : DS) (g : Store → Prop) : List W → DS
  | [] => fun ε S => if g S then .nx ε S else .bad
  | x :: xs => fun ε S => if g S then (match t x ε S with
    | some ε1 => (match body ε1 S with
      | .nx ε2 S2 => forL t body g xs ε2 S2
      | .ct ε2 S2 => forL t body g xs ε2 S2
      | .bk ε2 S2 => .nx ε2 S2
      | r => r)
    | none => .bad) else .bad
def dFor (d : DI) (t : DT) (body : DS) : DS := fun ε S => sBind (d ε) ε S fun p S' => forL t body p.g p.items ε S'
section
variable {G : Top} {c : Ctx} {k : Nat}
theorem forL_ok {U : WX} {t : DT} {body : DS} {tg e : Expr} {D : Ends} {σ : St} {H1 : Hp} {ρ1 : List Addr} {p : Src} {J : It} {ε : Ev} {S : Store} (good : Good G H1 ρ1 p J) (ev : EvR G.K H1 ρ1 ε σ) (sr : SR G H1 ρ1 S) (h : wpS (forL t body p.g p.items ε S) (nE G U D H1 ρ1)) :
    ∃ W : Nat → Nat → St → Hp → Prop, (∃ m, W 0 m σ H1) ∧ ∀ i m σ H, W i m σ H →
      (J.stop i H ∧ D.nx σ H) ∨ (J.go i H ∧ ∃ N : St → Hp → Prop, (∀ σ' H', N σ' H' → ∃ m', m' < m ∧ W (i + 1) m' σ' H') ∧ ∀ x H', J.yld i H x H' → gN G t x σ H' fun σ2 H2 => tS G U body { D with nx := N, ct := N, bk := D.nx } σ2 H2) := by
  refine ⟨fun i m σ H => ∃ ρ ε S, Ext G.K H1 ρ1 H ρ ∧ EvR G.K H ρ ε σ ∧ SR G H ρ S ∧ m = p.items.length - i ∧ i ≤ p.items.length ∧ wpS (forL t body p.g (p.items.drop i) ε S) (nE G U D H ρ), ⟨p.items.length, ρ1, ε, S, Ext.refl, ev, sr, rfl, Nat.zero_le _, h⟩, ?_⟩
  rintro i m σ H ⟨ρ, ε, S, e, ev, sr, rfl, hi, h⟩
  by_cases hlt : i < p.items.length
  · have hd : p.items.drop i = p.items[i] :: p.items.drop (i + 1) := List.drop_eq_getElem_cons hlt
    rw [hd] at h
    unfold forL at h
    split at h
    · rename_i hg
      obtain ⟨hgo, _⟩ := good H ρ S e sr hg
      obtain ⟨go, yl⟩ := hgo i p.items[i] (List.getElem?_eq_getElem hlt)
      refine .inr ⟨go, _, fun σ' H' hN => hN, fun x H' hy => ?_⟩
      obtain ⟨e', sr', vr⟩ := yl x H' hy
      cases ht : t p.items[i] ε S with
      | none => simp only [ht] at h; exact h.elim
      | some ε1 =>
        simp only [ht] at h
        refine ⟨_, ε, ρ, S, ε1, vr, ev.mono e', sr', ht, fun σ2 ev2 => ⟨ρ, ε1, S, ev2, sr', ?_⟩⟩
        have step : ∀ ε2 S2, wpS (forL t body p.g (p.items.drop (i + 1)) ε2 S2) (nE G U D H ρ) → ∀ H4 ρ4 σ4, Ext G.K H' ρ H4 ρ4 → SR G H4 ρ4 S2 → EvR G.K H4 ρ4 ε2 σ4 →
            ∃ m', m' < p.items.length - i ∧ ∃ ρ ε S, Ext G.K H1 ρ1 H4 ρ ∧ EvR G.K H4 ρ ε σ4 ∧ SR G H4 ρ S ∧ m' = p.items.length - (i + 1) ∧ i + 1 ≤ p.items.length ∧ wpS (forL t body p.g (p.items.drop (i + 1)) ε S) (nE G U D H4 ρ) := fun ε2 S2 q H4 ρ4 σ4 e4 s4 v4 =>
          ⟨_, by omega, ρ4, ε2, S2, (e.trans e').trans e4, v4, s4, rfl, hlt, nE_ext (e'.trans e4) q⟩
        cases hb : body ε1 S with
        | nx ε2 S2 => simp only [hb] at h; exact step ε2 S2 h
        | ct ε2 S2 => simp only [hb] at h; exact step ε2 S2 h
        | bk ε2 S2 => simp only [hb] at h; exact (nE_ext e' h : wpS (.nx ε2 S2) (nE G U D H' ρ))
        | rt w S2 => simp only [hb] at h; exact (nE_ext e' h : wpS (.rt w S2) (nE G U D H' ρ))
        | exc x ε2 S2 => simp only [hb] at h; exact (nE_ext e' h : wpS (.exc x ε2 S2) (nE G U D H' ρ))
        | bad => simp only [hb] at h; exact h.elim
    · exact h.elim
  · obtain rfl : i = p.items.length := by omega
    rw [List.drop_length] at h
    unfold forL at h
    split at h
    · rename_i hg
      exact .inl ⟨(good H ρ S e sr hg).2, h H ρ σ Ext.refl sr ev⟩
    · exact h.elim
theorem s_for {tg e : Expr} {body : List Stmt} {d : DI} {t : DT} {db : DS} {pos : Pos} (hi : IOk G c k tg e d) (hg : GOk G c k tg t) (hb : SsOk G c k body db) (hs : ∀ env x, foldedSetIterable e env x = pure x := by intro _ _; rfl) : SOk G c k (.For tg e body [] pos) (dFor d t db) := fun X U F =>
  PS.imp (ps_for F.pass F.calm (hi X U F) (hg X U F) (hb X U F) (hs _)) fun D σ H ⟨ρ, ε, S, ev, sr, h⟩ => ⟨ρ, ε, S, ev, sr, (Rg_sBind ev h).mono fun J H1 ⟨p, S1, ρ1, e1, s1, r1, q1⟩ => forL_ok (tg := tg) (e := e) r1 (ev.mono e1) s1 q1⟩
/-! ### while -/
def whL (t : DB) (body : DS) : Nat → DS
  | 0 => fun _ _ => .bad
  | n + 1 => fun ε S => sBind (t ε) ε S fun b S1 => if b = true then (match body ε S1 with
    | .nx ε2 S2 => whL t body n ε2 S2
    | .ct ε2 S2 => whL t body n ε2 S2
    | .bk ε2 S2 => .nx ε2 S2
    | r => r) else .nx ε S1
/-- more turns than any loop here has -/
def fuel : Nat := 2 ^ 250
def dWhile (t : DB) (body : DS) : DS := whL t body fuel
theorem s_while {e : Expr} {body : List Stmt} {t : DB} {db : DS} {pos : Pos} (ht : BOk G c k e t) (hb : SsOk G c k body db) : SOk G c k (.While e body [] pos) (dWhile t db) := fun X U F =>
  PS.imp (ps_while F.pass (ht X U F) (hb X U F)) fun D σ H ⟨ρ, ε, S, ev, sr, h⟩ => by
    refine ⟨fun m σ H => ∃ ρ ε S, EvR G.K H ρ ε σ ∧ SR G H ρ S ∧ wpS (whL t db m ε S) (nE G U D H ρ), ⟨fuel, ρ, ε, S, ev, sr, h⟩, ?_⟩
    rintro m σ H ⟨ρ, ε, S, ev, sr, h⟩
    cases m with
    | zero => exact h.elim
    | succ n =>
      unfold whL at h
      refine ⟨ρ, ε, S, ev, sr, (Rg_sBind ev h).mono fun b' H1 ⟨b, S1, ρ1, e1, s1, r1, q1⟩ => ?_⟩
      obtain rfl : b = b' := r1
      cases b with
      | false => exact q1 H1 ρ1 σ Ext.refl s1 (ev.mono e1)
      | true =>
        refine ⟨_, fun σ' H' hN => hN, ρ1, ε, S1, ev.mono e1, s1, ?_⟩
        have step : ∀ ε2 S2, wpS (whL t db n ε2 S2) (nE G U D H1 ρ1) → ∀ H4 ρ4 σ4, Ext G.K H1 ρ1 H4 ρ4 → SR G H4 ρ4 S2 → EvR G.K H4 ρ4 ε2 σ4 →
            ∃ m', m' < n + 1 ∧ ∃ ρ ε S, EvR G.K H4 ρ ε σ4 ∧ SR G H4 ρ S ∧ wpS (whL t db m' ε S) (nE G U D H4 ρ) := fun ε2 S2 q H4 ρ4 σ4 e4 s4 v4 => ⟨n, by omega, ρ4, ε2, S2, v4, s4, nE_ext e4 q⟩
        rw [if_pos rfl] at q1
        cases hb : db ε S1 with
        | nx ε2 S2 => simp only [hb] at q1; exact step ε2 S2 q1
        | ct ε2 S2 => simp only [hb] at q1; exact step ε2 S2 q1
        | bk ε2 S2 => simp only [hb] at q1; exact q1
        | rt w S2 => simp only [hb] at q1; exact q1
        | exc x ε2 S2 => simp only [hb] at q1; exact q1
        | bad => simp only [hb] at q1; exact q1.elim
end
/-! ### comprehensions -/
def noX {α : Type} (m : M α) : M α := fun S => match m S with
  | .exc _ _ => .bad
  | r => r
theorem wp_noX {α : Type} {m : M α} {S : Store} {Q : α → Store → Prop} {E E' : Ex → Store → Prop} (h : wp (noX m S) Q E) : wp (m S) Q E' := by
  unfold noX at h
  cases q : m S with
  | ok a S' => rw [q] at h; exact h
  | exc x S' => rw [q] at h; exact h.elim
  | bad => rw [q] at h; exact h.elim
def tgt (t : DT) (w : W) (ε : Ev) : M Ev := fun S => match t w ε S with
  | some ε' => .ok ε' S
  | none => .bad
/-- the block's own slots forgotten -/
def wipeE (ε : Ev) : List Nat → Ev
  | [] => ε
  | v :: vs => (wipeE ε vs).set v none
def lcL (t : DT) (cnd : DB) (el : DE) (g : Store → Prop) (ε0 : Ev) : List W → M (List W)
  | [] => grd g >>= fun _ => M.ret []
  | x :: xs => grd g >>= fun _ => tgt t x ε0 >>= fun ε1 => noX (cnd ε1) >>= fun b => if b = true then noX (el ε1) >>= fun w => lcL t cnd el g ε0 xs >>= fun ws => M.ret (w :: ws) else lcL t cnd el g ε0 xs
def dLc (d : DI) (t : DT) (cnd : DB) (el : DE) (vs : List Nat) : DE := fun ε => d ε >>= fun p => chk (lenOk p.items.length) >>= fun _ => lcL t cnd el p.g (wipeE ε vs) p.items >>= fun ws => alloc (.lst ws)
def dYes : DB := fun _ => M.ret true
theorem M.assoc {α β γ : Type} (m : M α) (f : α → M β) (g : β → M γ) : (m >>= f) >>= g = m >>= fun a => f a >>= g := by
  funext S
  show M.bind (M.bind m f) g S = M.bind m (fun a => M.bind (f a) g) S
  unfold M.bind
  cases m S <;> rfl
theorem M.ret_bind {α β : Type} (a : α) (f : α → M β) : (M.ret a >>= f) = f a := rfl
theorem wipe_in {σ : St} {i : Nat} : ∀ {vs : List Nat}, i ∈ vs → (wipe σ vs)[i]? = if i < σ.length then some none else none
  | v :: vs, h => by
    unfold wipe
    by_cases hv : v = i
    · subst hv
      rw [List.getElem?_set]
      simp [wipe_length]
    · rw [List.getElem?_set_ne hv]
      exact wipe_in ((List.mem_cons.mp h).resolve_left fun z => hv z.symm)
theorem wipe_congr {σ σ' : St} {vs : List Nat} (hl : σ'.length = σ.length) (h : ∀ i, i ∉ vs → σ'[i]? = σ[i]?) : wipe σ' vs = wipe σ vs := by
  apply List.ext_getElem?
  intro i
  by_cases hi : i ∈ vs
  · rw [wipe_in hi, wipe_in hi, hl]
  · rw [wipe_out hi, wipe_out hi, h i hi]
theorem wipeE_some {ε : Ev} {i : Nat} {x : W} : ∀ {vs : List Nat}, (wipeE ε vs)[i]? = some (some x) → ε[i]? = some (some x) ∧ i ∉ vs
  | [], h => ⟨h, by simp⟩
  | v :: vs, h => by
    unfold wipeE at h
    by_cases hi : v = i
    · subst hi
      rw [List.getElem?_set] at h
      simp at h
    · rw [List.getElem?_set_ne hi] at h
      obtain ⟨h1, h2⟩ := wipeE_some h
      exact ⟨h1, by simp only [List.mem_cons, not_or]; exact ⟨fun e => hi e.symm, h2⟩⟩
theorem wipeE_length (ε : Ev) : ∀ vs : List Nat, (wipeE ε vs).length = ε.length
  | [] => rfl
  | v :: vs => by unfold wipeE; rw [List.length_set, wipeE_length ε vs]
theorem EvR.wipe {K : PySem.W.Frag} {H : Hp} {ρ : List Addr} {ε : Ev} {σ : St} (s : EvR K H ρ ε σ) (vs : List Nat) : EvR K H ρ (wipeE ε vs) (L2.wipe σ vs) :=
  ⟨by rw [wipeE_length, wipe_length]; exact s.len, fun i w h => by
    obtain ⟨h1, h2⟩ := wipeE_some h
    obtain ⟨v, a, b⟩ := s.at_ i w h1
    exact ⟨v, by rw [wipe_out h2]; exact a, b⟩⟩
theorem Rg.bindAt {α β γ δ : Type} {G : Top} {U U' : WX} {σ σ' : St} {rel : Hp → List Addr → α → β → Prop} {rel2 : Hp → List Addr → γ → δ → Prop} {m : M α} {f : α → M γ} {S : Store} {H H1 : Hp} {ρ ρ1 : List Addr} {Q : δ → Hp → Prop} (e : Ext G.K H1 ρ1 H ρ) (h : Rg G U σ rel2 ((noX m >>= f) S) H1 ρ1 Q) :
    Rg G U' σ' rel (m S) H ρ (fun b H' => ∃ a S' ρ', Ext G.K H ρ H' ρ' ∧ SR G H' ρ' S' ∧ rel H' ρ' a b ∧ Rg G U σ rel2 (f a S') H1 ρ1 Q) := by
  unfold Rg at h ⊢
  rw [wp_bind] at h
  exact wp_mono (wp_noX (E' := fun _ _ => False) h) (fun a S' q H' ρ' b e s v => ⟨a, S', ρ', e, s, v, q⟩) fun x S' q => q.elim
theorem Ext.bump {G : Top} {H1 H4 : Hp} {ρ1 ρ4 : List Addr} {D : Addr} {xs ys : List V} (e : Ext G.K H1 ρ1 H4 ρ4) (h1 : H1 D = none) (h4 : H4 D = some (.lst xs)) : Ext G.K H1 ρ1 (L2.upd H4 D (.lst ys)) ρ4 where
  pre := e.pre
  keep := fun a o ha h => by rw [upd_ne (fun z => by rw [z, h1] at h; cases h)]; exact e.keep a o ha h
  new := e.new
  tups := fun a vs h => tups_upd h4 trivial a vs (e.tups a vs h)
  frzs := fun a o u h => frz_upd h4 trivial a o u (e.frzs a o u h)
theorem wipe_wipe (σ : L2.St) (vs : List Nat) : L2.wipe (L2.wipe σ vs) vs = L2.wipe σ vs := wipe_congr (wipe_length σ vs) fun i hi => wipe_out hi
theorem SR.track {G : Top} {H : Hp} {ρ : List Addr} {S : Store} {D : Addr} {vs : List V} {ws : List W} (sr : SR G H ρ S) (h : H D = some (.lst vs)) (hD : D ∉ ρ) (r : VRs G.K H ρ ws vs) : SR G H (ρ ++ [D]) (S ++ [.lst ws]) := by
  have pr : ∀ (n : Nat) (a : Addr), ρ[n]? = some a → (ρ ++ [D])[n]? = some a := fun n a h => by rw [List.getElem?_append_left (List.getElem?_eq_some_iff.mp h).1]; exact h
  have e : ∀ {w v}, VR G.K H ρ w v → VR G.K H (ρ ++ [D]) w v := fun {w v} r => VR.more pr r
  refine ⟨by simp [sr.len], ?_, fun n b o h1 h2 => ?_⟩
  · rw [List.nodup_append]
    exact ⟨sr.nd, by simp, fun x hx y hy z => by simp at hy; subst hy; subst z; exact hD hx⟩
  · by_cases hl : n < ρ.length
    · rw [List.getElem?_append_left hl] at h1
      rw [List.getElem?_append_left (by rw [← sr.len]; exact hl)] at h2
      have r := sr.ob n b o h1 h2
      cases o with
      | lst ws => obtain ⟨vs, z, q⟩ := r; exact ⟨vs, z, VRs.more pr q⟩
      | dct kvs => obtain ⟨vs, z, q⟩ := r; exact ⟨vs, z, Paired.mapP q fun _ _ z => ⟨z.1, e z.2⟩⟩
      | ins c fs => obtain ⟨dx, vs, z, q⟩ := r; exact ⟨dx, vs, z, Paired.mapP q fun _ _ z => ⟨z.1, e z.2⟩⟩
      | fdct kvs => obtain ⟨ob, vs, z, q⟩ := r; exact ⟨ob, vs, z, Paired.mapP q fun _ _ z => ⟨z.1, e z.2⟩⟩
    · have hl2 : ρ.length ≤ n := Nat.le_of_not_lt hl
      rw [List.getElem?_append_right hl2] at h1
      rw [List.getElem?_append_right (by rw [← sr.len]; exact hl2)] at h2
      have e : n - ρ.length = 0 := by
        have := (List.getElem?_eq_some_iff.mp h1).1
        simp at this; omega
      rw [e] at h1
      rw [← sr.len, e] at h2
      simp at h1 h2
      subst h1; subst h2
      exact ⟨vs, h, VRs.more pr r⟩
/-- an untracked list of a comprehension grows -/
theorem SR.bump {G : Top} {H : Hp} {ρ : List Addr} {S : Store} {D : Addr} {xs ys : List V} (sr : SR G H ρ S) (hD : D ∉ ρ) (h : H D = some (.lst xs)) : SR G (L2.upd H D (.lst ys)) ρ S := by
  refine ⟨sr.len, sr.nd, fun n b o h1 h2 => ?_⟩
  have hne : b ≠ D := fun z => hD (by rw [← z]; exact List.mem_of_getElem? h1)
  have tu : ∀ {w v}, VR G.K H ρ w v → VR G.K (L2.upd H D (.lst ys)) ρ w v := fun {w v} r => VR.remap (tups_upd h trivial) (frzs_upd h trivial) r
  have tus : ∀ {w v}, VRs G.K H ρ w v → VRs G.K (L2.upd H D (.lst ys)) ρ w v := fun {w v} r => VRs.remap (tups_upd h trivial) (frzs_upd h trivial) r
  have r := sr.ob n b o h1 h2
  cases o with
  | lst ws => obtain ⟨vs, z, q⟩ := r; exact ⟨vs, by rw [upd_ne hne]; exact z, tus q⟩
  | dct kvs => obtain ⟨vs, z, q⟩ := r; exact ⟨vs, by rw [upd_ne hne]; exact z, Paired.mapP q fun _ _ z => ⟨z.1, tu z.2⟩⟩
  | ins c fs => obtain ⟨dx, vs, z, q⟩ := r; exact ⟨dx, vs, by rw [upd_ne hne]; exact z, Paired.mapP q fun _ _ z => ⟨z.1, tu z.2⟩⟩
  | fdct kvs => obtain ⟨ob, vs, z, q⟩ := r; exact ⟨ob, vs, by rw [upd_ne hne]; exact z, Paired.mapP q fun _ _ z => ⟨z.1, tu z.2⟩⟩

section
variable {G : Top} {c : Ctx} {k : Nat}
/-- the context of a comprehension's block -/
def blkCtx (c : Ctx) (scope : Scope) : Ctx := ⟨c.N, relS scope c.sc, fun x => scope.names.lookup x == some .cell⟩
theorem Fit.blk {X : Cx} {U : WX} (F : Fit G c k X U) (scope : Scope) (s : Shared) (H : Hp) (C : Addr) (cl : List (Str × Addr)) (fp : List Addr) :
    Fit G (blkCtx c scope) k (X.blk s H scope (compEnvC scope cl C X.env) fp) (fun _ _ _ _ => False) where
  P := F.P
  w := F.w
  K := F.K
  mg := F.mg
  base := F.base
  N := F.N
  sc := by
    show relS scope X.env.scope = relS scope c.sc
    rw [F.sc]
  nd := F.nd
  calm := F.calm
  room := F.room
  gd := F.gd
  tk := takes0
  pass := PassesOwn.never
  fn := fun x h => h
/-- a block's targets are its own -/
def gW (G : Top) (vs : List Nat) (d : DT) : TG := fun v σ H Q => ∃ w ε ρ S ε', VR G.K H ρ w v ∧ EvR G.K H ρ ε σ ∧ SR G H ρ S ∧ d w ε S = some ε' ∧ ∀ σ' : L2.St, EvR G.K H ρ ε' σ' → σ'.length = σ.length → (∀ i, i ∉ vs → σ'[i]? = σ[i]?) → Q σ' H
def gsW (G : Top) (vs : List Nat) (d : DTs) : TGs := fun v σ H Q => ∃ w ε ρ S ε', VRs G.K H ρ w v ∧ EvR G.K H ρ ε σ ∧ SR G H ρ S ∧ d w ε S = some ε' ∧ ∀ σ' : L2.St, EvR G.K H ρ ε' σ' → σ'.length = σ.length → (∀ i, i ∉ vs → σ'[i]? = σ[i]?) → Q σ' H
def GWk (G : Top) (c : Ctx) (k : Nat) (vs : List Nat) (e : Expr) (d : DT) : Prop := ∀ X U, Fit G c k X U → PG X e (gW G vs d)
def GsWk (G : Top) (c : Ctx) (k : Nat) (vs : List Nat) (e : List Expr) (d : DTs) : Prop := ∀ X U, Fit G c k X U → PGs X e (gsW G vs d)
theorem gw_name (i : Nat) {x : Str} {pos : Pos} {vs : List Nat} (hN : c.N[i]? = some x := by rfl) (hv : i ∈ vs := by decide) (hx : Loc c.sc x := by first | exact Or.inl rfl | exact Or.inr rfl) (hf : c.fn x = true ∨ c.sc.names.lookup x = some .local := by first | exact .inr rfl | exact .inl rfl) : GWk G c k vs (.Name x pos) (tgN i) := fun X U F =>
  PG.imp (pg_name (i := i) F.nd (by rw [F.N]; exact hN) (by rw [F.sc]; exact hx) (hf.elim (fun z => .inl (F.fn x z)) fun z => .inr (by rw [F.sc]; exact z))) fun v σ H Q ⟨w, ε, ρ, S, ε', r, ev, sr, e, h⟩ => by
    cases e
    exact h _ (ev.set i r) (by simp) fun j hj => by rw [List.getElem?_set_ne (fun z => hj (by rw [← z]; exact hv))]
theorem gsw_nil {vs : List Nat} : GsWk G c k vs [] tgNil := fun X U F => PGs.imp pgs_nil fun v σ H Q ⟨ws, ε, ρ, S, ε', r, ev, sr, e, h⟩ => by
  cases r with
  | nil => cases e; exact ⟨rfl, h _ ev rfl fun _ _ => rfl⟩
  | cons _ _ => cases e
theorem gsw_cons {e : Expr} {es : List Expr} {t : DT} {ts : DTs} {vs : List Nat} (h1 : GWk G c k vs e t) (h2 : GsWk G c k vs es ts) (hs : ∀ env, (assignEach (e :: es) env).map (·.2) = assign e env :: (assignEach es env).map (·.2) := by intro _; rfl) : GsWk G c k vs (e :: es) (tgCons t ts) := fun X U F =>
  PGs.imp (pgs_cons (h1 X U F) (h2 X U F) (hs _)) fun v σ H Q ⟨ws, ε, ρ, S, ε', r, ev, sr, q, h⟩ => by
    cases r with
    | nil => cases q
    | @cons w v' ws' vs' r0 rr =>
      unfold tgCons at q
      cases z : t w ε S with
      | none => simp only [z] at q; cases q
      | some ε1 =>
        simp only [z] at q
        exact ⟨_, _, rfl, w, ε, ρ, S, ε1, r0, ev, sr, z, fun σ1 ev1 l1 a1 => ⟨ws', ε1, ρ, S, ε', rr, ev1, sr, q, fun σ2 ev2 l2 a2 => h σ2 ev2 (l2.trans l1) fun j hj => (a2 j hj).trans (a1 j hj)⟩⟩
theorem gw_tup {es : List Expr} {j : Nat} {ts : DTs} {n : Nat} {pos : Pos} {vs : List Nat} (h : GsWk G c k vs es ts) (hn : ∀ env, (assignEach es env).length = n := by intro _; rfl) (hst : ∀ env, (assignEach es env).findIdx? (·.1) = none := by intro _; rfl) : GWk G c k vs (.Tuple es j pos) (tgTup n ts) := fun X U F =>
  PG.imp (pg_tup F.calm (h X U F) (hn _) (hst _)) fun v σ H Q ⟨w, ε, ρ, S, ε', r, ev, sr, q, h⟩ => by
    cases r with
    | @tup ws a vs s t =>
      unfold tgTup at q
      simp only at q
      split at q
      · rename_i hl
        refine ⟨a, vs, rfl, by rw [F.K]; exact s, by rw [← t.length]; exact hl, ws, ε, ρ, S, ε', t, ev, sr, q, h⟩
      · cases q
    | bl b => cases q
    | non => cases q
    | int i => cases q
    | str x => cases q
    | ref _ => cases q
    | rl _ _ => cases q
/-- tests of a comprehension -/
def CsOk (G : Top) (c : Ctx) (k : Nat) (ifs : List Expr) (d : DB) : Prop := ∀ X U, Fit G c k X U → PTs X ifs (tB G U d)
theorem cs_nil : CsOk G c k [] dYes := fun X U F => ⟨fun pins s σ H Q I ⟨ρ, ε, S, ev, sr, h⟩ => pts_nil.run pins s σ H Q I (h H ρ true Ext.refl sr rfl)⟩
theorem cs_one {e : Expr} {d : DB} (h : BOk G c k e d) : CsOk G c k [e] d := fun X U F => pts_one (h X U F)
abbrev U0 : WX := fun _ _ _ _ => False
theorem lc_imp {U : WX} {d : DI} {t : DT} {cnd : DB} {el : DE} {vs : List Nat} {σ : L2.St} {H : Hp} {Q : VK} (h : tN G U (dLc d t cnd el vs) σ H Q) :
    tLc (tI G U d) (gW G vs t) (tB G U0 cnd) (tN G U0 el) vs σ H Q := by
  obtain ⟨ρ, ε, S, ev, sr, h⟩ := h
  refine ⟨ρ, ε, S, ev, sr, (Rg.bind h).mono fun J H1 ⟨p, S1, ρ1, e1, s1, r1, h1⟩ D hD => ?_⟩
  obtain ⟨hlen, h1⟩ := Rg.chk h1
  have hlen : p.items.length ≤ sizeLine := of_decide_eq_true hlen
  have ev1 : EvR G.K H1 ρ1 ε σ := ev.mono e1
  have eD : Ext G.K H1 ρ1 (L2.upd H1 D (.lst [])) ρ1 := Ext.fresh hD
  refine ⟨fun i m H => ∃ ρ S ws vs', Ext G.K H1 ρ1 H ρ ∧ SR G H ρ S ∧ H D = some (.lst vs') ∧ D ∉ ρ ∧ VRs G.K H ρ ws vs' ∧ m = p.items.length - i ∧ i ≤ p.items.length ∧ ws.length ≤ i ∧
    Rg G U σ (VR G.K) ((lcL t cnd el p.g (wipeE ε vs) (p.items.drop i) >>= fun rest => alloc (.lst (ws ++ rest))) S) H1 ρ1 Q,
    ⟨p.items.length, ρ1, S1, [], [], eD, s1.fresh hD, upd_same, s1.fresh_mem hD, .nil, rfl, Nat.zero_le _, Nat.zero_le _, h1⟩, ?_⟩
  rintro i m H2 ⟨ρ2, S2, ws, vs', e2, s2, hd, nD, rv, rfl, hi, hw, h2⟩
  by_cases hlt : i < p.items.length
  · rw [List.drop_eq_getElem_cons hlt] at h2
    unfold lcL at h2
    rw [M.assoc] at h2
    by_cases hg : p.g S2
    · have h3 : Rg G U σ (VR G.K) (((tgt t p.items[i] (wipeE ε vs) >>= fun ε1 => noX (cnd ε1) >>= fun b => if b = true then noX (el ε1) >>= fun w => lcL t cnd el p.g (wipeE ε vs) (p.items.drop (i + 1)) >>= fun ws => M.ret (w :: ws) else lcL t cnd el p.g (wipeE ε vs) (p.items.drop (i + 1))) >>= fun rest => alloc (.lst (ws ++ rest))) S2) H1 ρ1 Q := by
        have e : (grd p.g >>= fun _ => ((tgt t p.items[i] (wipeE ε vs) >>= fun ε1 => noX (cnd ε1) >>= fun b => if b = true then noX (el ε1) >>= fun w => lcL t cnd el p.g (wipeE ε vs) (p.items.drop (i + 1)) >>= fun ws => M.ret (w :: ws) else lcL t cnd el p.g (wipeE ε vs) (p.items.drop (i + 1))) >>= fun rest => alloc (.lst (ws ++ rest)))) S2 =
            ((tgt t p.items[i] (wipeE ε vs) >>= fun ε1 => noX (cnd ε1) >>= fun b => if b = true then noX (el ε1) >>= fun w => lcL t cnd el p.g (wipeE ε vs) (p.items.drop (i + 1)) >>= fun ws => M.ret (w :: ws) else lcL t cnd el p.g (wipeE ε vs) (p.items.drop (i + 1))) >>= fun rest => alloc (.lst (ws ++ rest))) S2 := by
          show M.bind (grd p.g) _ S2 = _
          unfold M.bind
          rw [grd_ok hg]
        rw [← e]
        exact h2
      obtain ⟨hgo, _⟩ := r1 H2 ρ2 S2 e2 s2 hg
      obtain ⟨go, yl⟩ := hgo i p.items[i] (List.getElem?_eq_getElem hlt)
      refine .inr ⟨go, _, fun H' hN => hN, fun x H3 hy => ?_⟩
      obtain ⟨e3, s3, vr⟩ := yl x H3 hy
      rw [M.assoc] at h3
      cases ht : t p.items[i] (wipeE ε vs) S2 with
      | none =>
        have e : tgt t p.items[i] (wipeE ε vs) S2 = .bad := by unfold tgt; rw [ht]
        have z : Rg G U σ (VR G.K) (M.bind (tgt t p.items[i] (wipeE ε vs)) _ S2) H1 ρ1 Q := h3
        unfold M.bind at z
        rw [e] at z
        exact z.elim
      | some ε1 =>
        have e : tgt t p.items[i] (wipeE ε vs) S2 = .ok ε1 S2 := by unfold tgt; rw [ht]
        have z : Rg G U σ (VR G.K) (M.bind (tgt t p.items[i] (wipeE ε vs)) _ S2) H1 ρ1 Q := h3
        unfold M.bind at z
        rw [e] at z
        have h4 : Rg G U σ (VR G.K) (((noX (cnd ε1) >>= fun b => if b = true then noX (el ε1) >>= fun w => lcL t cnd el p.g (wipeE ε vs) (p.items.drop (i + 1)) >>= fun ws => M.ret (w :: ws) else lcL t cnd el p.g (wipeE ε vs) (p.items.drop (i + 1))) >>= fun rest => alloc (.lst (ws ++ rest))) S2) H1 ρ1 Q := z
        clear z h3 h2
        have e23 := e2.trans e3
        refine ⟨_, wipeE ε vs, ρ2, S2, ε1, vr, ((ev1.mono e23).wipe vs), s3, ht, fun σ4 ev4 l4 a4 => ⟨wipe_congr (by rw [l4]) (fun j hj => (a4 j hj)) |>.trans ?_, ρ2, ε1, S2, ev4, s3, ?_⟩⟩
        · exact wipe_wipe σ vs
        · rw [M.assoc] at h4
          refine (Rg.bindAt e23 h4).mono fun b' H4 ⟨b, S4, ρ4, e4, s4, r4, h5⟩ => ?_
          obtain rfl : b = b' := r4
          have hd4 : H4 D = some (.lst vs') := e4.keep D _ nD (e3.keep D _ nD hd)
          have nD4 : D ∉ ρ4 := fun z => (e4.new D z).elim nD fun z => by rw [e3.keep D _ nD hd] at z; cases z
          cases b with
          | false =>
            rw [if_neg Bool.false_ne_true] at h5 ⊢
            exact ⟨_, by omega, ρ4, S4, ws, vs', e23.trans e4, s4, hd4, nD4, rv.mono (e3.trans e4), rfl, hlt, by omega, h5⟩
          | true =>
            rw [if_pos rfl] at h5 ⊢
            rw [M.assoc] at h5
            refine ⟨ρ4, ε1, S4, ev4.mono e4, s4, (Rg.bindAt (e23.trans e4) h5).mono fun y H5 ⟨w, S5, ρ5, e5, s5, r5, h6⟩ => ?_⟩
            have hd5 : H5 D = some (.lst vs') := e5.keep D _ nD4 hd4
            have nD5 : D ∉ ρ5 := fun z => (e5.new D z).elim nD4 fun z => by rw [hd4] at z; cases z
            have rv5 := rv.mono ((e3.trans e4).trans e5)
            refine ⟨vs', hd5, by rw [← rv.length]; omega, _, by omega, ρ5, S5, ws ++ [w], vs' ++ [y], ((e23.trans e4).trans e5).bump hD hd5, s5.bump nD5 hd5, upd_same, nD5, ?_, rfl, hlt, by simp; omega, ?_⟩
            · exact VRs.remap (tups_upd hd5 trivial) (frzs_upd hd5 trivial) (rv5.append (.cons r5 .nil))
            · rw [M.assoc] at h6
              simpa only [M.ret_bind, List.append_assoc, List.cons_append, List.nil_append] using h6
    · have e : ∀ (α : Type) (f : Unit → M α), (grd p.g >>= f) S2 = .bad := fun α f => by
        show M.bind (grd p.g) f S2 = _
        unfold M.bind grd
        rw [if_neg hg]
      rw [e] at h2
      exact h2.elim
  · obtain rfl : i = p.items.length := by omega
    rw [List.drop_length] at h2
    unfold lcL at h2
    rw [M.assoc] at h2
    by_cases hg : p.g S2
    · refine .inl ⟨(r1 H2 ρ2 S2 e2 s2 hg).2, ?_⟩
      have h3 : Rg G U σ (VR G.K) (M.bind (grd p.g) (fun _ => alloc (.lst (ws ++ []))) S2) H1 ρ1 Q := h2
      unfold M.bind at h3
      rw [grd_ok hg, List.append_nil] at h3
      have e' : Ext G.K H1 ρ1 H2 (ρ2 ++ [D]) := {
        pre := fun n a h => by rw [List.getElem?_append_left (List.getElem?_eq_some_iff.mp (e2.pre n a h)).1]; exact e2.pre n a h
        keep := e2.keep
        new := fun a h => (List.mem_append.mp h).elim (e2.new a) fun z => by simp at z; subst z; exact .inr hD
        tups := e2.tups
        frzs := e2.frzs }
      refine h3 H2 (ρ2 ++ [D]) (.ref D) e' (s2.track hd nD rv) (.ref ?_)
      rw [← s2.len, List.getElem?_append_right (Nat.le_refl _)]
      simp
    · have e : ∀ (α : Type) (f : Unit → M α), (grd p.g >>= f) S2 = .bad := fun α f => by
        show M.bind (grd p.g) f S2 = _
        unfold M.bind grd
        rw [if_neg hg]
      rw [e] at h2
      exact h2.elim
theorem e_lc {elt tg iter : Expr} {ifs : List Expr} {scope : Scope} (own : List (Str × Nat)) {pos : Pos} {d : DI} {t : DT} {cnd : DB} {el : DE} (hi : IOk G c k tg iter d) (hg : GWk G (blkCtx c scope) k (own.map (·.2)) tg t) (hc : CsOk G (blkCtx c scope) k ifs cnd) (he : EOk G (blkCtx c scope) k elt el)
    (ok : blkC c.N c.sc scope own = true := by decide +kernel) (hs : ∀ env x, foldedSetIterable iter env x = pure x := by intro _ _; rfl) : EOk G c k (.ListComp elt [⟨tg, iter, ifs, 0⟩] scope pos) (dLc d t cnd el (own.map (·.2))) := fun X U F =>
  PE.imp (pe_lc F.calm F.nd (hi X U F) (by rw [F.N, F.sc]; exact blkOk_by ok) (fun s H C cl fp => hg _ _ (F.blk scope s H C cl fp)) (fun s H C cl fp => hc _ _ (F.blk scope s H C cl fp)) (fun s H C cl fp => he _ _ (F.blk scope s H C cl fp)) (hs _)) fun σ H Q h => lc_imp h
/-- y = [..] on one line -/
theorem s_lc (i : Nat) {y : Str} {py : Pos} {elt tg iter : Expr} {ifs : List Expr} {scope : Scope} (own : List (Str × Nat)) {pos spos : Pos} {d : DI} {t : DT} {cnd : DB} {el : DE} (hi : IOk G c k tg iter d) (hg : GWk G (blkCtx c scope) k (own.map (·.2)) tg t) (hc : CsOk G (blkCtx c scope) k ifs cnd) (he : EOk G (blkCtx c scope) k elt el)
    (hy : c.N[i]? = some y := by rfl) (hyl : c.sc.names.lookup y = some .local := by rfl) (hk : c.sc.kind = .function := by rfl) (hl : (py.line == pos.line) = true := by decide) (ha : (scope.names.any fun (n, k) => n == y && (k == .local || k == .cell)) = false := by decide +kernel)
    (ok : blkC c.N c.sc scope own = true := by decide +kernel) (hs : ∀ env x, foldedSetIterable iter env x = pure x := by intro _ _; rfl) : SOk G c k (.Assign [.Name y py] (.ListComp elt [⟨tg, iter, ifs, 0⟩] scope pos) spos) (dSet i (dLc d t cnd el (own.map (·.2)))) := fun X U F =>
  PS.imp (ps_setLc (i := i) F.calm F.nd (by rw [F.N]; exact hy) (by rw [F.sc]; exact hyl) (sw_true (by rw [F.sc]; exact hk) (by rw [F.sc]; exact hyl) hl ha) (hi X U F) (by rw [F.N, F.sc]; exact blkOk_by ok) (fun s H C cl fp => hg _ _ (F.blk scope s H C cl fp)) (fun s H C cl fp => hc _ _ (F.blk scope s H C cl fp)) (fun s H C cl fp => he _ _ (F.blk scope s H C cl fp)) (hs _))
    fun D σ H ⟨ρ, ε, S, ev, sr, h⟩ => lc_imp ⟨ρ, ε, S, ev, sr, (Rg_sBind ev h).mono fun v H' ⟨w, S', ρ', e', s', r', q⟩ => q H' ρ' _ Ext.refl s' ((ev.mono e').set i r')⟩
/-- the same at a name that a block holds: no exchange -/
theorem sw_cell {elt : Expr} {gs : List Comprehension} {scope : Scope} {pos py : Pos} {y : Str} {l : Nat} {env : Env} (hy : env.scope.names.lookup y = some .cell) : swapsWith (.ListComp elt gs scope pos) (some (.Name y py)) l env = pure false := by
  have ky : env.kindOf y = some .cell := hy
  unfold swapsWith
  simp only [ky]
  cases hb : (env.blockKind == .function) <;> rfl
theorem s_setCell (i : Nat) {y : Str} {py : Pos} {elt : Expr} {gs : List Comprehension} {scope : Scope} {pos spos : Pos} {d : DE} (he : EOk G c k (.ListComp elt gs scope pos) d) (hN : c.N[i]? = some y := by rfl) (hyl : c.sc.names.lookup y = some .cell := by rfl)
    (hf : c.fn y = true := by rfl) : SOk G c k (.Assign [.Name y py] (.ListComp elt gs scope pos) spos) (dSet i d) := fun X U F =>
  PS.imp (ps_set (i := i) F.nd (by rw [F.N]; exact hN) (by rw [F.sc]; exact .inr hyl) (he X U F) (sw_cell (by rw [F.sc]; exact hyl)) (.inl (F.fn y hf))) fun D σ H ⟨ρ, ε, S, ev, sr, h⟩ => ⟨ρ, ε, S, ev, sr, (Rg_sBind ev h).mono fun v H' ⟨w, S', ρ', e', s', r', q⟩ =>
    q H' ρ' _ Ext.refl s' ((ev.mono e').set i r')⟩
end
end
end N
namespace N
open PySem L2
open PyProof.Rows (envOfC)
noncomputable section
/-- a def's promise by its function -/
def spN (G : Top) (d : List W → M W) : Sp := fun vs H Q E => ∃ ws S ρ, VRs G.K H ρ ws vs ∧ SR G H ρ S ∧ wp (d ws S) (fun w S' => ∀ H' ρ' v, Ext G.K H ρ H' ρ' → SR G H' ρ' S' → VR G.K H' ρ' w v → Q v H') (fun x S' => ∀ H' ρ' cls dd, Ext G.K H ρ H' ρ' → SR G H' ρ' S' → XR G H' ρ' x cls dd → E cls dd H')
@[irreducible] def dfn (N n : Nat) (d : DS) (ws : List W) : M W := fun S => if ws.length = n then (match d (ws.map some ++ List.replicate (N - n) none) S with
  | .nx _ S' => .ok .non S'
  | .rt w S' => .ok w S'
  | .exc x _ S' => .exc x S'
  | _ => .bad) else .bad
/-- a def of the text as it stands behind the top, with or without defaults -/
structure FunX (K : PySem.W.Frag) (x qual : Str) (st : Stmt) (f : Addr) (fd : FuncData) : Prop where
  ex : ∃ (oc : Value) (od : Option Addr) (dV kV doc pm : Value) (an : Option Addr) (cdv ct : Value) (osl : Array (Option Value)),
    fd = PySem.W.fnOf x qual (defArgs st) (defBody st) (defScope st) dV kV doc pm an cdv ct ∧ K.lookup f = some ⟨oc, od, .func fd, osl⟩ ∧ PySem.W.codeIn K cdv qual = true
theorem funX_mk {K : PySem.W.Frag} {x qual : Str} {st : Stmt} {f : Addr} {oc dV kV doc pm cdv ct : Value} {od an : Option Addr} {osl : Array (Option Value)} (l : K.lookup f = some ⟨oc, od, .func (PySem.W.fnOf x qual (defArgs st) (defBody st) (defScope st) dV kV doc pm an cdv ct), osl⟩)
    (c : PySem.W.codeIn K cdv qual = true) : FunX K x qual st f (PySem.W.fnOf x qual (defArgs st) (defBody st) (defScope st) dV kV doc pm an cdv ct) := ⟨⟨oc, od, dV, kV, doc, pm, an, cdv, ct, osl, rfl, l, c⟩⟩
/-- a def keeps its promise, wherever no repr runs -/
structure FnG (G : Top) (k : Nat) (f : Addr) (fd : FuncData) (ps : List Str) (sp : Sp) : Prop where
  len : ∀ vs H Q E, sp vs H Q E → vs.length = ps.length
  run : ∀ (A : Around) (outer : List Env) (s : Shared) (H : Hp) (args : Args) (us : List Value) (vs : List V) (Q : VK) (E : XK), Room k A → A.guards = some [] → Env0 G.P G.w G.K G.mg G.base A outer s H → BindsTo s fd args (ps.zip us) → Vals vs us → sp vs H Q E →
    codeAny (model G.P G.w) A (.call (.ref f) args) (CR (L2.CX G.P G.w) outer G.P G.w H s Q E) s
theorem FnG.mono {G : Top} {j k : Nat} {f : Addr} {fd : FuncData} {ps : List Str} {sp : Sp} (F : FnG G j f fd ps sp) (h : j ≤ k) : FnG G k f fd ps sp :=
  ⟨F.len, fun A outer s H args us vs Q E hr => F.run A outer s H args us vs Q E (hr.mono h)⟩
/-- a body keeps the promise -/
theorem fnG_of {G : Top} {x qual : Str} {st : Stmt} {f : Addr} {fd : FuncData} {N ps : List Str} {k : Nat} {sp : Sp} (F : FunX G.K x qual st f fd) (S : FnScope N ps (defScope st)) (len : ∀ vs H Q E, sp vs H Q E → vs.length = ps.length)
    (hb : ∀ (cdv : Value) (A : Around) (outer : List Env) (s : Shared) (H : Hp) (vs : List V) (Q : VK) (E : XK), Room k (A.deeper (envOfC qual (defScope st) s.heap.objs.size f cdv)) → A.guards = some [] → sp vs H Q E →
      ∃ t, PSs (cxOf (L2.CX G.P G.w) G.P G.w G.K G.mg G.base N qual (defScope st) f cdv A outer s H E) (defBody st) t ∧ t { nx := fun _ H' => Q .non H', rt := Q } (L2.start N vs) H) : FnG G (k + 1) f fd ps sp := by
  obtain ⟨oc, od, dV, kV, doc, pm, an, cdv, ct, osl, rfl, lk, hcd⟩ := F.ex
  refine ⟨len, fun A outer s H args us vs Q E hr hgd e0 bd r h => ?_⟩
  have inK : G.K.In s.heap := e0.mod.kin.keeps fun b o e => (e0.bs b o e).1
  have lim : s.heap.NoLimit := e0.mod.nolimit.keeps fun b o e => (e0.bs b o e).1
  have kinds : ∀ y ∈ ps.zip us, (defScope st).names.lookup y.1 = some .local ∨ ((defScope st).names.lookup y.1 = some .cell ∧ ((cellsFrom (s.heap.objs.size + 1) (defScope st).names []).lookup y.1).isSome = true) := fun y hy =>
    (S.par y.1 (List.of_mem_zip hy).1).imp id fun q => ⟨q, PySem.W.cellsFrom_some _ _ _ (.inl q)⟩
  refine codeAny_call_function hr.depth (inK _ _ lk) rfl S.co S.gen rfl (PySem.W.codeRec_of inK hcd) (bd _ _ _ _ ?_)
  refine wpAny_newFunctionEnv_cells S.kind kinds fun env he s1 x => ?_
  subst he
  refine ⟨lim.keeps x.toInCall.keep, codeAny_func ?_⟩
  obtain ⟨t, ht, hq⟩ := hb cdv A outer s H vs Q E (hr.deeper _) hgd h
  refine wpAny_mono (ht.run [] s1 _ H _ (inv_start S hr.hd e0 (len _ _ _ _ h) r x) hq) (fun fl s' hs => ?_) fun e s' hs => hs
  cases fl with
  | ret u => obtain ⟨v, σ', H', J, rv, q⟩ := hs; exact ⟨v, H', J.os, J.bare, J.base, J.hok, rv, q⟩
  | next => obtain ⟨σ', H', J, q⟩ := hs; exact ⟨.non, H', J.os, J.bare, J.base, J.hok, rfl, q⟩
  | brk => obtain ⟨_, _, _, q⟩ := hs; exact q.elim
  | cont => obtain ⟨_, _, _, q⟩ := hs; exact q.elim
theorem fn_ok {G : Top} {x qual : Str} {st : Stmt} {f : Addr} {fd : FuncData} {N ps : List Str} {k n : Nat} {d : DS} (F : FunX G.K x qual st f fd) (S : FnScope N ps (defScope st)) (hn : ps.length = n) (hb : SsOk G ⟨N, defScope st, fun _ => true⟩ k (defBody st) d) :
    FnG G (k + 1) f fd ps (spN G (dfn N.length n d)) := by
  have len : ∀ vs H Q E, spN G (dfn N.length n d) vs H Q E → vs.length = n := fun vs H Q E ⟨ws, S, ρ, r, sr, h⟩ => by
    unfold dfn at h
    by_cases hl : ws.length = n
    · rw [← r.length]; exact hl
    · rw [if_neg hl] at h
      exact h.elim
  refine fnG_of F S (fun vs H Q E h => (len vs H Q E h).trans hn.symm) fun cdv A outer s H vs Q E hr hgd h => ?_
  have fit : Fit G ⟨N, defScope st, fun _ => true⟩ k (cxOf (L2.CX G.P G.w) G.P G.w G.K G.mg G.base N qual (defScope st) f cdv A outer s H E) (fun cls d _ H => E cls d H) := {
    P := rfl, w := rfl, K := rfl, mg := rfl, base := rfl, N := rfl, sc := rfl, nd := S.nd, calm := rfl, room := hr, gd := hgd, tk := takes_of rfl rfl rfl rfl, pass := passes_of rfl, fn := fun _ _ => rfl }
  refine ⟨_, hb _ _ fit, ?_⟩
  have hl := len _ _ _ _ h
  obtain ⟨ws, S0, ρ, r, sr, h⟩ := h
  have hw : ws.length = n := r.length.trans hl
  unfold dfn at h
  rw [if_pos hw] at h
  refine ⟨ρ, ws.map some ++ List.replicate (N.length - n) none, S0, ⟨?_, fun i w hi => ?_⟩, sr, ?_⟩
  · unfold L2.start
    simp [r.length, hl]
  · by_cases hlt : i < ws.length
    · rw [List.getElem?_append_left (by simpa using hlt), List.getElem?_map] at hi
      cases e : ws[i]? with
      | none => rw [e] at hi; cases hi
      | some w' =>
        rw [e] at hi
        cases hi
        obtain ⟨v, hv, rv⟩ := r.get e
        refine ⟨v, ?_, rv⟩
        unfold L2.start
        rw [List.getElem?_append_left (by rw [List.length_map, ← r.length]; exact hlt), List.getElem?_map, hv]
        rfl
    · rw [List.getElem?_append_right (by simpa using hlt), List.getElem?_replicate] at hi
      split at hi <;> cases hi
  · cases q : d (ws.map some ++ List.replicate (N.length - n) none) S0 with
    | nx ε S' => rw [q] at h; exact fun H' ρ' σ' e s v => h H' ρ' .non e s .non
    | rt w S' => rw [q] at h; exact fun H' ρ' v e s r => h H' ρ' v e s r
    | exc x ε S' => rw [q] at h; exact fun H' ρ' σ' cls dd e s v xr => h H' ρ' cls dd e s xr
    | bk ε S' => rw [q] at h; exact h.elim
    | ct ε S' => rw [q] at h; exact h.elim
    | bad => rw [q] at h; exact h.elim
/-- a def of the text, with its function; na: how many parameters -/
structure Def (G : Top) (k : Nat) (x : Str) (ps : List Str) (d : List W → M W) : Prop where
  ex : ∃ f fd, G.mg x = some (.ref f) ∧ PySem.W.keepIn G.K (.ref f) = true ∧ FnG G k f fd ps (spN G d) ∧ Binds G.K fd ps []
theorem Def.mono {G : Top} {j k : Nat} {x : Str} {ps : List Str} {d : List W → M W} (D : Def G j x ps d) (h : j ≤ k) : Def G k x ps d := by
  obtain ⟨f, fd, a, b, c, e⟩ := D.ex
  exact ⟨f, fd, a, b, c.mono h, e⟩
section
variable {G : Top} {c : Ctx} {k : Nat}
def dCall (d : List W → M W) (a : DA) : DE := fun ε => a ε >>= fun ws => d ws
/-- what a promise asks, from a reading's wish -/
theorem call_sp {U : WX} {σ : L2.St} {d : List W → M W} {ws : List W} {vs : List V} {S : Store} {H : Hp} {ρ : List Addr} {Q : VK} (h : Rg G U σ (VR G.K) (d ws S) H ρ Q) (sr : SR G H ρ S) (r : VRs G.K H ρ ws vs) : spN G d vs H Q (fun cls dd H' => U cls dd σ H') := ⟨ws, S, ρ, r, sr, h⟩
/-- the callee runs -/
theorem run_G {X : Cx} {U : WX} (F : Fit G c k X U) {j : Nat} {f : Addr} {fd : FuncData} {ps : List Str} {sp : Sp} (hf : FnG G j f fd ps sp) (hj : j ≤ k) {pins : List (Addr × Obj)} {σ : L2.St} {H : Hp} {s : Shared} {Q : VK} {args : Args} {us : List Value} {vs : List V} (I : Inv X pins σ H s)
    (b : BindsTo s fd args (ps.zip us)) (r : Vals vs us) (h : sp vs H Q (fun cls dd H' => U cls dd σ H')) : wpAny (model X.prog X.w) X.A (call (.ref f) args.pos args.kw) (EP X pins σ Q) X.xe s := by
  have e0 := I.env0
  rw [F.P, F.w, F.K, F.mg, F.base] at e0
  have z := hf.run X.A X.stack s H args us vs Q (fun cls dd H' => U cls dd σ H') (F.room.mono hj) F.gd e0 b r h
  rw [← F.P, ← F.w] at z
  refine wpAny_call (codeAny_mono z fun r s' hq => ?_)
  cases r with
  | error e => exact passAt F.tk σ pins H s e s' I hq
  | ok fl =>
    cases fl with
    | ret u => exact I.after hq
    | next => exact False.elim hq
    | brk => exact False.elim hq
    | cont => exact False.elim hq
theorem binds0 {K : PySem.W.Frag} {fd : FuncData} {ps : List Str} (hb : Binds K fd ps []) {s : Shared} {us : List Value} (inK : K.In s.heap) (hl : us.length = ps.length) : BindsTo s fd ⟨us, []⟩ (ps.zip us) := by
  have b := hb s us inK (by rw [List.append_nil]; exact hl)
  rw [List.append_nil] at b
  exact b
theorem e_call {j : Nat} {x : Str} {ps : List Str} {d : List W → M W} {e : Expr} {es : List Expr} {a : DA} {p pos : Pos} (D : Def G j x ps d) (hj : j ≤ k) (ha : AOk G c k (e :: es) a) (hg : c.sc.names.lookup x = some .globalImplicit := by rfl)
    (hdb : (x == ("__debug__" : Str)) = false := by decide) (he : ∀ env, starEach (e :: es) env = (false, eval e env) :: starEach es env := by intro _; rfl) (hpl : ∀ env, (backTo pos (starEach es env)).any (·.1) = false := by intro _; rfl) : EOk G c k (.Call (.Name x p) (e :: es) [] pos) (dCall d a) := fun X U F => by
  obtain ⟨f, fd, hm, hk, hf, hb⟩ := D.ex
  refine ⟨fun pins s σ H Q I h => ?_⟩
  obtain ⟨ρ, ε, S, ev, sr, h⟩ := h
  refine wpAny_Call_Name_kw (ld_glob I (glob_of F hg) (by rw [F.mg]; exact hm) ?_ hdb)
  refine PySem.W.callWith_K (h₀ := X.base) I.ok.mod.kin (by rw [F.K]; exact hk) (thn ((ha X U F).run pos pins s σ H _ I ⟨ρ, ε, S, ev, sr, Rg.bind h⟩) fun us s1 ⟨vs, H1, I1, r, ws, S1, ρ1, e1, s1', r1, h1⟩ => ⟨I1.kIn, ?_⟩) (he _) (hpl _)
  have sp := call_sp h1 s1' r1
  exact run_G F hf hj (args := ⟨us, []⟩) I1 (binds0 hb (by rw [← F.K]; exact I1.kIn) (by rw [← r.length]; exact hf.len _ _ _ _ sp)) r sp
/-- a call without arguments -/
theorem e_call0 {j : Nat} {x : Str} {ps : List Str} {d : List W → M W} {p pos : Pos} (D : Def G j x ps d) (hj : j ≤ k) (hg : c.sc.names.lookup x = some .globalImplicit := by rfl) (hdb : (x == ("__debug__" : Str)) = false := by decide) : EOk G c k (.Call (.Name x p) [] [] pos) (dCall d aNil) := fun X U F => by
  obtain ⟨f, fd, hm, hk, hf, hb⟩ := D.ex
  refine ⟨fun pins s σ H Q I h => ?_⟩
  obtain ⟨ρ, ε, S, ev, sr, h⟩ := h
  refine wpAny_Call_Name_kw (ld_glob I (glob_of F hg) (by rw [F.mg]; exact hm) ?_ hdb)
  have sp : spN G d [] H Q (fun cls dd H' => U cls dd σ H') := ⟨[], S, ρ, .nil, sr, h⟩
  exact PySem.W.callWith_K0 I.kIn (by rw [F.K]; exact hk) (run_G F hf hj (args := ⟨[], []⟩) (us := []) I (binds0 hb (by rw [← F.K]; exact I.kIn) (hf.len _ _ _ _ sp)) .nil sp)
/-- a call with keywords: perm tells the parameters' order: the places among the positional values and then the keywords' -/
def permW {α : Type} (perm : List Nat) (xs : List α) : Option (List α) := perm.mapM fun i => xs[i]?
/-- how a def binds a call: na positional values, the keywords ks; perm: the parameters' places among the positional values, the keywords' and the defaults -/
structure KB (K : PySem.W.Frag) (fd : FuncData) (ps ks : List Str) (na : Nat) (dW : List W) (perm : List Nat) : Prop where
  ex : ∃ (ds : List Value) (dV : List V), (∀ H ρ, VRs K H ρ dW dV) ∧ Vals dV ds ∧ ∀ (s : Shared) (us ws zs : List Value), K.In s.heap → us.length = na → ws.length = ks.length → permW perm (us ++ ws ++ ds) = some zs → BindsTo s fd ⟨us, ks.zip ws⟩ (ps.zip zs)
def dCallK (d : List W → M W) (na nk : Nat) (dW : List W) (perm : List Nat) (a b : DA) : DE := fun ε => a ε >>= fun ws => b ε >>= fun us => fun S => if ws.length = na ∧ us.length = nk then (match permW perm (ws ++ us ++ dW) with
  | some zs => d zs S
  | none => .bad) else .bad
def KOk (G : Top) (c : Ctx) (k : Nat) (kws : List Keyword) (d : DA) : Prop := ∀ X U, Fit G c k X U → PK X kws (tA G U d)
theorem PK.imp {X : Cx} {e : List Keyword} {t t' : TA} (h : PK X e t) (f : ∀ σ H Q, t' σ H Q → t σ H Q) : PK X e t' := ⟨fun p pins s σ H Q I q => h.run p pins s σ H Q I (f _ _ _ q)⟩
theorem k_nil : KOk G c k [] aNil := fun X U F => PK.imp pk_nil fun σ H Q ⟨ρ, ε, S, ev, sr, h⟩ => h H ρ [] Ext.refl sr .nil
theorem k_cons {nm : Option Str} {e : Expr} {kpos : Pos} {kws : List Keyword} {d : DE} {da : DA} (he : EOk G c k e d) (ha : KOk G c k kws da) : KOk G c k (⟨nm, e, kpos⟩ :: kws) (aCons d da) := fun X U F =>
  PK.imp (pk_cons (he X U F) (ha X U F)) fun σ H Q ⟨ρ, ε, S, ev, sr, h⟩ => ⟨ρ, ε, S, ev, sr, (Rg.bind h).mono fun v H1 ⟨w, S1, ρ1, e1, s1, r1, h1⟩ =>
    ⟨ρ1, ε, S1, ev.mono e1, s1, (Rg.bind h1).mono fun vs H2 ⟨ws, S2, ρ2, e2, s2, r2, h2⟩ => Rg.ret (rel := VRs G.K) h2 s2 (.cons (r1.mono e2) r2)⟩⟩
/-- values in another order -/
theorem permW_rel {α β : Type} {P : α → β → Prop} {xs : List α} {ys : List β} (hl : xs.length = ys.length) (h : ∀ (i : Nat) a, xs[i]? = some a → ∃ b, ys[i]? = some b ∧ P a b) : ∀ {perm : List Nat} {zs : List α}, permW perm xs = some zs → ∃ zs', permW perm ys = some zs' ∧ Paired P zs zs' := by
  intro perm
  induction perm with
  | nil =>
    intro zs e
    cases e
    exact ⟨[], rfl, .nil⟩
  | cons i perm ih =>
    intro zs e
    unfold permW at e
    rw [List.mapM_cons] at e
    cases hi : xs[i]? with
    | none => rw [hi] at e; cases e
    | some a =>
      rw [hi] at e
      cases hr : permW perm xs with
      | none =>
        have e' : (do let b ← permW perm xs; some (a :: b)) = some zs := e
        rw [hr] at e'
        cases e'
      | some r =>
        have e' : (do let b ← permW perm xs; some (a :: b)) = some zs := e
        rw [hr] at e'
        cases e'
        obtain ⟨b, hb, p⟩ := h i a hi
        obtain ⟨r', hr', q⟩ := ih hr
        refine ⟨b :: r', ?_, .cons p q⟩
        unfold permW
        rw [List.mapM_cons, hb]
        show (do let b' ← permW perm ys; some (b :: b')) = some (b :: r')
        rw [hr']
        rfl
theorem VRs.of_paired {K : PySem.W.Frag} {H : Hp} {ρ : List Addr} : ∀ {ws : List W} {vs : List V}, Paired (VR K H ρ) ws vs → VRs K H ρ ws vs
  | _, _, .nil => .nil
  | _, _, .cons h t => .cons h (VRs.of_paired t)
theorem vals_of_paired : ∀ {vs : List V} {us : List Value}, Paired RelV vs us → Vals vs us := fun h => h

/-- a def of the text that is called with keywords or defaults -/
structure DefK (G : Top) (k : Nat) (x : Str) (ps : List Str) (d : List W → M W) (ks : List Str) (na : Nat) (dW : List W) (perm : List Nat) : Prop where
  ex : ∃ f fd, G.mg x = some (.ref f) ∧ PySem.W.keepIn G.K (.ref f) = true ∧ FnG G k f fd ps (spN G d) ∧ KB G.K fd ps ks na dW perm
theorem VRs.paired {K : PySem.W.Frag} {H : Hp} {ρ : List Addr} : ∀ {ws : List W} {vs : List V}, VRs K H ρ ws vs → Paired (VR K H ρ) ws vs
  | _, _, .nil => .nil
  | _, _, .cons h t => .cons h (VRs.paired t)
theorem paired_get {α β : Type} {P : α → β → Prop} : ∀ {xs : List α} {ys : List β}, Paired P xs ys → ∀ (i : Nat) a, xs[i]? = some a → ∃ b, ys[i]? = some b ∧ P a b
  | _, _, .nil, i, a, e => by simp at e
  | _, _, .cons r _, 0, a, e => by simp at e; subst e; exact ⟨_, rfl, r⟩
  | _, _, .cons _ t, i + 1, a, e => by
    obtain ⟨b, h1, h2⟩ := paired_get t i a (by simpa using e)
    exact ⟨b, by simpa using h1, h2⟩
theorem run_K {X : Cx} {U : WX} (F : Fit G c k X U) {j : Nat} {f : Addr} {fd : FuncData} {ps ks : List Str} {na : Nat} {dW : List W} {perm : List Nat} {d : List W → M W} (hf : FnG G j f fd ps (spN G d)) (hj : j ≤ k) (hb : KB G.K fd ps ks na dW perm)
    {pins : List (Addr × Obj)} {σ : L2.St} {H : Hp} {ρ : List Addr} {S : Store} {s : Shared} {Q : VK} {ws us : List W} {vs zs : List V} {uv uz : List Value} (I : Inv X pins σ H s) (sr : SR G H ρ S) (r1 : VRs G.K H ρ ws vs) (r2 : VRs G.K H ρ us zs) (v1 : Vals vs uv) (v2 : Vals zs uz)
    (h : Rg G U σ (VR G.K) ((fun S => if ws.length = na ∧ us.length = ks.length then (match permW perm (ws ++ us ++ dW) with | some zs => d zs S | none => .bad) else .bad : M W) S) H ρ Q) :
    wpAny (model X.prog X.w) X.A (call (.ref f) uv (ks.zip uz)) (EP X pins σ Q) X.xe s := by
  obtain ⟨ds, dV, rd, vd, to⟩ := hb.ex
  by_cases hl : ws.length = na ∧ us.length = ks.length
  · simp only [if_pos hl] at h
    cases hp : permW perm (ws ++ us ++ dW) with
    | none => simp only [hp] at h; exact h.elim
    | some z =>
      simp only [hp] at h
      have ra := (r1.append r2).append (rd H ρ)
      have va := (v1.append v2).append vd
      obtain ⟨zv, e1, p1⟩ := permW_rel ra.length (paired_get ra.paired) hp
      obtain ⟨zu, e2, p2⟩ := permW_rel va.length (paired_get va) e1
      have sp := call_sp h sr (VRs.of_paired p1)
      have b := to s uv uz zu (by rw [← F.K]; exact I.kIn) (by rw [← v1.length, ← r1.length]; exact hl.1) (by rw [← v2.length, ← r2.length]; exact hl.2) e2
      exact run_G F hf hj (args := ⟨uv, ks.zip uz⟩) I b p2 sp
  · simp only [if_neg hl] at h
    exact h.elim
theorem e_callK {j : Nat} {x : Str} {ps ks : List Str} {na : Nat} {dW : List W} {perm : List Nat} {d : List W → M W} {e : Expr} {es : List Expr} {kws : List Keyword} {a b : DA} {p pos : Pos} (D : DefK G j x ps d ks na dW perm) (hj : j ≤ k) (ha : AOk G c k (e :: es) a) (hkw : KOk G c k kws b) (hg : c.sc.names.lookup x = some .globalImplicit := by rfl)
    (hall : ∀ env, (backToKw pos (keywordEach kws env)).all (·.1.isSome) = true := by intro _; rfl) (hks : ∀ env, (backToKw pos (keywordEach kws env)).filterMap (·.1) = ks := by intro _; rfl)
    (hdb : (x == ("__debug__" : Str)) = false := by decide) (he : ∀ env, starEach (e :: es) env = (false, eval e env) :: starEach es env := by intro _; rfl)
    (hpl : ∀ env, ((backTo pos (starEach (e :: es) env)).any (·.1) || (backToKw pos (keywordEach kws env)).any (·.1.isNone)) = false := by intro _; rfl) : EOk G c k (.Call (.Name x p) (e :: es) kws pos) (dCallK d na ks.length dW perm a b) := fun X U F => by
  obtain ⟨f, fd, hm, hk, hf, hb⟩ := D.ex
  refine ⟨fun pins s σ H Q I h => ?_⟩
  obtain ⟨ρ, ε, S, ev, sr, h⟩ := h
  refine wpAny_Call_Name_kw (ld_glob I (glob_of F hg) (by rw [F.mg]; exact hm) ?_ hdb)
  refine PySem.W.callWith_KW (h₀ := X.base) I.ok.mod.kin (by rw [F.K]; exact hk) (hall _) (thn ((ha X U F).run pos pins s σ H _ I ⟨ρ, ε, S, ev, sr, Rg.bind h⟩) fun us s1 ⟨vs, H1, I1, r, ws, S1, ρ1, e1, s1', r1, q1⟩ => ?_) (hpl _) (he _)
  refine thn ((hkw X U F).run pos pins s1 σ H1 _ I1 ⟨ρ1, ε, S1, ev.mono e1, s1', Rg.bind q1⟩) fun uz s2 ⟨zs, H2, I2, rz, us', S2, ρ2, e2, s2', r2, q2⟩ => ⟨I2.kIn, ?_⟩
  rw [hks]
  exact run_K F hf hj hb I2 s2' (r1.mono e2) r2 r rz q2
theorem e_callK0 {j : Nat} {x : Str} {ps ks : List Str} {dW : List W} {perm : List Nat} {d : List W → M W} {kws : List Keyword} {b : DA} {p pos : Pos} (D : DefK G j x ps d ks 0 dW perm) (hj : j ≤ k) (hkw : KOk G c k kws b) (hg : c.sc.names.lookup x = some .globalImplicit := by rfl)
    (hall : ∀ env, (backToKw pos (keywordEach kws env)).all (·.1.isSome) = true := by intro _; rfl) (hks : ∀ env, (backToKw pos (keywordEach kws env)).filterMap (·.1) = ks := by intro _; rfl)
    (hdb : (x == ("__debug__" : Str)) = false := by decide)
    (hpl : ∀ env, ((backTo pos (starEach [] env)).any (·.1) || (backToKw pos (keywordEach kws env)).any (·.1.isNone)) = false := by intro _; rfl) : EOk G c k (.Call (.Name x p) [] kws pos) (dCallK d 0 ks.length dW perm aNil b) := fun X U F => by
  obtain ⟨f, fd, hm, hk, hf, hb⟩ := D.ex
  refine ⟨fun pins s σ H Q I h => ?_⟩
  obtain ⟨ρ, ε, S, ev, sr, h⟩ := h
  refine wpAny_Call_Name_kw (ld_glob I (glob_of F hg) (by rw [F.mg]; exact hm) ?_ hdb)
  refine PySem.W.callWith_KW0 (h₀ := X.base) I.ok.mod.kin (by rw [F.K]; exact hk) (hall _) ?_ (hpl _)
  have h' : Rg G U σ (VR G.K) ((b ε >>= fun us => fun S => if ([] : List W).length = 0 ∧ us.length = ks.length then (match permW perm ([] ++ us ++ dW) with | some zs => d zs S | none => .bad) else .bad) S) H ρ Q := h
  refine thn ((hkw X U F).run pos pins s σ H _ I ⟨ρ, ε, S, ev, sr, Rg.bind h'⟩) fun uz s2 ⟨zs, H2, I2, rz, us', S2, ρ2, e2, s2', r2, q2⟩ => ⟨I2.kIn, ?_⟩
  rw [hks]
  exact run_K F hf hj hb I2 s2' .nil r2 (vs := []) (uv := []) .nil rz q2

end
/-! ### what a law's text gives -/
/-- a def of the module, by its statement -/
structure Mdef (G : Top) (x : Str) (st : Stmt) : Prop where
  ex : ∃ f fd, G.mg x = some (.ref f) ∧ PySem.W.keepIn G.K (.ref f) = true ∧ FunX G.K x x st f fd ∧ fd.defaults = .none
/-- .. with defaults -/
structure MdefD (G : Top) (x : Str) (st : Stmt) (its : List Value) : Prop where
  ex : ∃ f fd T o n, G.mg x = some (.ref f) ∧ PySem.W.keepIn G.K (.ref f) = true ∧ FunX G.K x x st f fd ∧ fd.defaults = .ref T ∧ G.K.lookup T = some o ∧ o.data = .seq its.toArray n
section
variable {G : Top}
theorem def_mk {x : Str} {st : Stmt} {N ps : List Str} {k n : Nat} {d : DS} (D : Mdef G x st) (S : FnScope N ps (defScope st)) (hn : ps.length = n) (hb : SsOk G ⟨N, defScope st, fun _ => true⟩ k (defBody st) d)
    (bind : ∀ (kV doc pm : Value) (an : Option Addr) (cdv ct : Value) (us : List Value), us.length = ps.length → bindArgs (PySem.W.fnOf x x (defArgs st) (defBody st) (defScope st) .none kV doc pm an cdv ct) ⟨us, []⟩ = pure (ps.zip us)) : Def G (k + 1) x ps (dfn N.length n d) := by
  obtain ⟨f, fd, h1, h2, F, hd⟩ := D.ex
  have hf := fn_ok F S hn hb
  obtain ⟨oc, od, dV, kV, doc, pm, an, cdv, ct, osl, rfl, lk, hcd⟩ := F.ex
  obtain rfl : dV = .none := hd
  exact ⟨f, _, h1, h2, hf, .all (bind kV doc pm an cdv ct)⟩
/-- a def that is never called so deep -/
theorem def_bad {x : Str} {st : Stmt} {ps : List Str} {k : Nat} (D : Mdef G x st) (bind : ∀ (kV doc pm : Value) (an : Option Addr) (cdv ct : Value) (us : List Value), us.length = ps.length → bindArgs (PySem.W.fnOf x x (defArgs st) (defBody st) (defScope st) .none kV doc pm an cdv ct) ⟨us, []⟩ = pure (ps.zip us)) : Def G k x ps (fun _ => bad) := by
  obtain ⟨f, fd, h1, h2, F, hd⟩ := D.ex
  obtain ⟨oc, od, dV, kV, doc, pm, an, cdv, ct, osl, rfl, lk, hcd⟩ := F.ex
  obtain rfl : dV = .none := hd
  refine ⟨f, _, h1, h2, ⟨fun vs H Q E h => ?_, fun A outer s H args us vs Q E hr hgd e0 bd r h => ?_⟩, .all (bind kV doc pm an cdv ct)⟩
  · obtain ⟨ws, S, ρ, h1, h2, h3⟩ := h
    exact h3.elim
  · obtain ⟨ws, S, ρ, h1, h2, h3⟩ := h
    exact h3.elim
/-- the same def called with keywords -/
theorem defK_mk {x : Str} {st : Stmt} {N ps ks : List Str} {k n na : Nat} {perm : List Nat} {d : DS} (D : Mdef G x st) (S : FnScope N ps (defScope st)) (hn : ps.length = n) (hb : SsOk G ⟨N, defScope st, fun _ => true⟩ k (defBody st) d)
    (bind : ∀ (kV doc pm : Value) (an : Option Addr) (cdv ct : Value) (us ws zs : List Value), us.length = na → ws.length = ks.length → permW perm (us ++ ws ++ []) = some zs → bindArgs (PySem.W.fnOf x x (defArgs st) (defBody st) (defScope st) .none kV doc pm an cdv ct) ⟨us, ks.zip ws⟩ = pure (ps.zip zs)) : DefK G (k + 1) x ps (dfn N.length n d) ks na [] perm := by
  obtain ⟨f, fd, h1, h2, F, hd⟩ := D.ex
  have hf := fn_ok F S hn hb
  obtain ⟨oc, od, dV, kV, doc, pm, an, cdv, ct, osl, rfl, lk, hcd⟩ := F.ex
  obtain rfl : dV = .none := hd
  exact ⟨f, _, h1, h2, hf, ⟨[], [], fun _ _ => .nil, .nil, fun s us ws zs _ l1 l2 e => .of_eq (bind kV doc pm an cdv ct us ws zs l1 l2 e)⟩⟩
/-- a def whose defaults are constants -/
theorem defD_mk {x : Str} {st : Stmt} {N ps ks : List Str} {k n na : Nat} {perm : List Nat} {d : DS} {its : List Value} {dV : List V} {dW : List W} (D : MdefD G x st its) (S : FnScope N ps (defScope st)) (hn : ps.length = n) (hb : SsOk G ⟨N, defScope st, fun _ => true⟩ k (defBody st) d)
    (rd : ∀ H ρ, VRs G.K H ρ dW dV) (vd : Vals dV its)
    (bind : ∀ (T : Addr) (kV doc pm : Value) (an : Option Addr) (cdv ct : Value) (us ws zs : List Value), us.length = na → ws.length = ks.length → permW perm (us ++ ws ++ its) = some zs → ∃ k, bindArgs (PySem.W.fnOf x x (defArgs st) (defBody st) (defScope st) (.ref T) kV doc pm an cdv ct) ⟨us, ks.zip ws⟩ = seqItems? (.ref T) >>= k ∧ k (some its.toArray) = pure (ps.zip zs)) : DefK G (k + 1) x ps (dfn N.length n d) ks na dW perm := by
  obtain ⟨f, fd, T, o, m, h1, h2, F, hd, lT, oT⟩ := D.ex
  have hf := fn_ok F S hn hb
  obtain ⟨oc, od, dV', kV, doc, pm, an, cdv, ct, osl, rfl, lk, hcd⟩ := F.ex
  obtain rfl : dV' = .ref T := hd
  refine ⟨f, _, h1, h2, hf, ⟨its, dV, rd, vd, fun s us ws zs inK l1 l2 e => ?_⟩⟩
  obtain ⟨k, e1, e2⟩ := bind T kV doc pm an cdv ct us ws zs l1 l2 e
  refine BindsTo.of_looks fun M => ?_
  rw [e1]
  exact looks_items inK lT oT (.of_pure e2)
variable {c : Ctx} {k : Nat}
theorem e_globS {x z : Str} {pos : Pos} (h : ∃ t, G.mg x = some (.str z t)) (hz : okS z = true := by decide +kernel) (hg : c.sc.names.lookup x = some .globalImplicit := by rfl) (hd : (x == ("__debug__" : Str)) = false := by decide) : EOk G c k (.Name x pos) (dC (.str z)) := by
  obtain ⟨t, h⟩ := h
  exact e_glob (w := .str z) (v := .str z) h (by simp [isC, hz]) ⟨t, rfl⟩ hg hd
theorem e_globI {x : Str} {z : Int} {pos : Pos} (h : ∃ t, G.mg x = some (.int z t)) (hg : c.sc.names.lookup x = some .globalImplicit := by rfl) (hd : (x == ("__debug__" : Str)) = false := by decide) : EOk G c k (.Name x pos) (dC (.int z)) := by
  obtain ⟨t, h⟩ := h
  exact e_glob (w := .int z) (v := .int z) h rfl ⟨t, rfl⟩ hg hd
/-! ### raise of an own class without __init__ -/
structure ExcC (G : Top) (x : Str) (i : Nat) : Prop where
  g : G.mg x = some (.ref (G.cl i))
  q : PySem.W.excIn G.K (G.cl i) [.type "ValueError", .type "Exception", .type "BaseException", .type "object"] "ValueError.__new__" = true
  kp : PySem.W.keepIn G.K (.ref (G.cl i)) = true
  sb : PySem.W.subIn G.K (.ref (G.cl i)) (.type "BaseException") = some true
  ty : PySem.W.typeIn G.K (.ref (G.cl i)) = some (.type "type")
def dRaise (i : Nat) : DS := fun ε S => .exc ⟨i, none⟩ ε S
theorem s_raise {x m : Str} {i j : Nat} {p p2 pos pos2 : Pos} (h : ExcC G x i) (hg : c.sc.names.lookup x = some .globalImplicit := by rfl) (hdb : (x == ("__debug__" : Str)) = false := by decide) : SOk G c k (.Raise (some (.Call (.Name x p) [.Constant (.str m) j p2] [] pos)) none pos2) (dRaise i) := fun X U F =>
  PS.imp (ps_raise F.calm F.tk (pmk_own (C := G.cl i) PySem.F.excBase_ValueError (by rw [F.K]; exact h.q) (by rw [F.mg]; exact h.g) (by rw [F.K]; exact h.kp) (raises_own (by rw [F.K]; exact h.sb) (by rw [F.K]; exact h.ty)) (glob_of F hg) hdb)) fun D σ H ⟨ρ, ε, S, ev, sr, q⟩ =>
    q H ρ σ _ _ Ext.refl sr ev ⟨rfl, rfl⟩
end
end
end N
namespace N
open PySem L2
noncomputable section
/-! ### ints -/
def mulOk (i j : Int) : Bool := decide (i.natAbs.log2 + j.natAbs.log2 < 100000000)
def powOk (i j : Int) : Bool := decide (0 ≤ j ∧ (i.natAbs.log2 + 1) * j.toNat ≤ 100000000)
def divOk (_ j : Int) : Bool := decide (0 < j ∧ j.natAbs.log2 < 9000)
theorem bits_le (i : Int) : Builtin.Int.intBits i ≤ i.natAbs.log2 + 1 := by
  unfold Builtin.Int.intBits
  split <;> omega
theorem mulOk_ok {i j : Int} (h : mulOk i j = true) : IntMulOk i j := by
  unfold IntMulOk
  have h1 := bits_le i
  have h2 := bits_le j
  have h3 : i.natAbs.log2 + j.natAbs.log2 < 100000000 := of_decide_eq_true h
  have e : bitsLine = 134217728 := by decide
  intro z
  have z2 := (Bool.and_eq_true_iff.mp z).2
  have z3 := of_decide_eq_true z2
  rw [e] at z3
  omega
def opAdd : Op2
  | .int i, .int j, S => some (.int (i + j), S)
  | .str x, .str y, S => if x.length + y.length ≤ sizeLine then some (.str (x ++ y), S) else none
  | .ref n, .ref m, S => match S[n]?, S[m]? with
    | some (.lst a), some (.lst b) => if a.length + b.length ≤ sizeLine then some (.ref S.length, S ++ [.lst (a ++ b)]) else none
    | _, _ => none
  | _, _, _ => none
def opSub : Op2
  | .int i, .int j, S => some (.int (i - j), S)
  | _, _, _ => none
def opMul : Op2
  | .int i, .int j, S => if mulOk i j then some (.int (i * j), S) else none
  | .ref n, .int k, S => match S[n]? with
    | some (.lst a) => if -(2 ^ 63) ≤ k ∧ k < 2 ^ 63 ∧ a.length * k.toNat ≤ sizeLine then some (.ref S.length, S ++ [.lst (List.replicate k.toNat a).flatten]) else none
    | _ => none
  | _, _, _ => none
def opFdiv : Op2
  | .int i, .int j, S => if divOk i j then some (.int (i / j), S) else none
  | _, _, _ => none
def opMod : Op2
  | .int i, .int j, S => if 0 < j then some (.int (i % j), S) else none
  | _, _, _ => none
def opPow : Op2
  | .int i, .int j, S => if powOk i j then some (.int (i ^ j.toNat), S) else none
  | _, _, _ => none
def opNeg : Op1
  | .int i, S => some (.int (-i), S)
  | _, _ => none
section
variable {G : Top} {c : Ctx} {k : Nat}
/-- the store as it was, a flat value -/
theorem Wish.flat {H : Hp} {ρ : List Addr} {S : Store} {w : W} {v : V} {Q : VK} (h : Wish G H ρ w S Q) (sr : SR G H ρ S) (r : VR G.K H ρ w v) : Q v H := h H ρ v Ext.refl sr r
theorem Wish.list {H : Hp} {ρ : List Addr} {S : Store} {ws : List W} {vs : List V} {Q : VK} (h : Wish G H ρ (.ref S.length) (S ++ [.lst ws]) Q) (sr : SR G H ρ S) (r : VRs G.K H ρ ws vs) {p : Addr} (hp : H p = none) : Q (.ref p) (upd H p (.lst vs)) := by
  have e : Ext G.K H ρ (upd H p (.lst vs)) (ρ ++ [p]) := Ext.snoc hp
  refine h _ _ _ e (sr.snoc hp ⟨vs, upd_same, r.mono e⟩) (.ref ?_)
  rw [← sr.len, List.getElem?_append_right (Nat.le_refl _)]
  simp
theorem Wish.tup {H : Hp} {ρ : List Addr} {S : Store} {ws : List W} {vs : List V} {Q : VK} (h : Wish G H ρ (.tup ws) S Q) (sr : SR G H ρ S) (r : VRs G.K H ρ ws vs) {p : Addr} (hp : H p = none) : Q (.ref p) (upd H p (.tup vs)) :=
  h _ _ _ (Ext.fresh hp) (sr.fresh hp) (.tup (.of upd_same) (r.mono (Ext.fresh hp)))
/-- the list at a reference -/
theorem VR.lst {H : Hp} {ρ : List Addr} {S : Store} {n : Nat} {v : V} {ws : List W} (r : VR G.K H ρ (.ref n) v) (sr : SR G H ρ S) (h : S[n]? = some (.lst ws)) : ∃ a vs, v = .ref a ∧ ρ[n]? = some a ∧ H a = some (.lst vs) ∧ VRs G.K H ρ ws vs := by
  cases r with
  | ref q =>
    obtain ⟨vs, z, t⟩ := sr.ob _ _ _ q h
    exact ⟨_, vs, rfl, q, z, t⟩
theorem okS_append {x y : Str} (hx : okS x = true) (hy : okS y = true) : okS (x ++ y) = true := by
  have e : (x ++ y).cps.toList = x.cps.toList ++ y.cps.toList := by
    show (x.cps ++ y.cps).toList = _
    simp
  unfold okS at *
  rw [e, List.all_append, hx, hy]
  rfl
theorem opAdd_ok : Op2Ok G (fun x y H Q => (∃ i j, x = .int i ∧ y = .int j ∧ Q (.int (i + j)) H) ∨ (∃ i j, x = .str i ∧ y = .str j ∧ i.length + j.length ≤ sizeLine ∧ Q (.str (i ++ j)) H) ∨ rCat x y H Q) opAdd := fun H ρ S a b x y w S' Q sr ra rb h q => by
  cases ra with
  | int i =>
    cases rb with
    | int j => cases h; exact .inl ⟨i, j, rfl, rfl, q.flat sr (.int _)⟩
    | _ => cases h
  | str hi =>
    cases rb with
    | str hj =>
      simp only [opAdd] at h
      split at h
      · cases h; exact .inr (.inl ⟨_, _, rfl, rfl, by assumption, q.flat sr (.str (okS_append hi hj))⟩)
      · cases h
    | _ => cases h
  | @ref n a hn =>
    cases rb with
    | @ref m b hm =>
      simp only [opAdd] at h
      split at h
      · rename_i l1 l2 e1 e2
        split at h
        · rename_i hz
          cases h
          obtain ⟨vs, z, t⟩ := sr.ob n a _ hn e1
          obtain ⟨us, z', t'⟩ := sr.ob m b _ hm e2
          exact .inr (.inr ⟨a, b, vs, us, rfl, rfl, z, z', by rw [← t.length, ← t'.length]; exact hz, fun p hp => q.list sr (t.append t') hp⟩)
        · cases h
      · cases h
    | _ => cases h
  | _ => cases h
theorem e_add {a b : Expr} {d e : DE} {pos : Pos} (ha : EOk G c k a d) (hb : EOk G c k b e) : EOk G c k (.BinOp a .Add b pos) (dOp opAdd d e) := e_bin (fun X U F => (op_add).or ((op_add_str).or op_cat)) opAdd_ok ha hb
theorem int2 {op : Op2} {C : Int → Int → Prop} {g : Int → Int → Int} (h : ∀ a b S w S', op a b S = some (w, S') → ∃ i j, a = .int i ∧ b = .int j ∧ C i j ∧ w = .int (g i j) ∧ S' = S) : Op2Ok G (rI C fun i j => .int (g i j)) op := fun H ρ S a b x y w S' Q sr ra rb e q => by
  obtain ⟨i, j, rfl, rfl, hc, rfl, rfl⟩ := h _ _ _ _ _ e
  cases ra
  cases rb
  exact ⟨i, j, rfl, rfl, hc, q.flat sr (.int _)⟩
theorem e_sub {a b : Expr} {d e : DE} {pos : Pos} (ha : EOk G c k a d) (hb : EOk G c k b e) : EOk G c k (.BinOp a .Sub b pos) (dOp opSub d e) :=
  e_bin (r := rI (fun _ _ => True) fun i j => .int (i - j)) (fun X U F => L2.opI fun _ _ _ _ _ _ _ _ q => PyProof.Rows.sub_int q) (int2 fun a b S w S' h => by
    unfold opSub at h
    split at h
    · cases h; exact ⟨_, _, rfl, rfl, trivial, rfl, rfl⟩
    · cases h) ha hb
theorem e_fdiv {a b : Expr} {d e : DE} {pos : Pos} (ha : EOk G c k a d) (hb : EOk G c k b e) : EOk G c k (.BinOp a .FloorDiv b pos) (dOp opFdiv d e) :=
  e_bin (r := rI CDivW fun i j => .int (i / j)) (fun X U F => op_fdivW) (int2 fun a b S w S' h => by
    unfold opFdiv at h
    split at h
    · split at h
      · rename_i hd
        cases h; exact ⟨_, _, rfl, rfl, by have z := of_decide_eq_true hd; exact z, rfl, rfl⟩
      · cases h
    · cases h) ha hb
theorem e_mod {a b : Expr} {d e : DE} {pos : Pos} (ha : EOk G c k a d) (hb : EOk G c k b e) : EOk G c k (.BinOp a .Mod b pos) (dOp opMod d e) :=
  e_bin (r := rI (fun _ j => 0 < j) fun i j => .int (i % j)) (fun X U F => op_mod) (int2 fun a b S w S' h => by
    unfold opMod at h
    split at h
    · split at h
      · cases h; exact ⟨_, _, rfl, rfl, by assumption, rfl, rfl⟩
      · cases h
    · cases h) ha hb
theorem e_pow {a b : Expr} {d e : DE} {pos : Pos} (ha : EOk G c k a d) (hb : EOk G c k b e) : EOk G c k (.BinOp a .Pow b pos) (dOp opPow d e) :=
  e_bin (r := rI (fun i j => powOk i j = true) fun i j => .int (i ^ j.toNat)) (fun X U F => L2.opI fun i j _ _ _ _ _ hc q => by
    have h := of_decide_eq_true hc
    have hb := bits_le i
    refine PyProof.Rows.pow_int h.1 ?_ q
    have e : (j.toNat : Int) = j := Int.toNat_of_nonneg h.1
    have h1 : Builtin.Int.intBits i * j.toNat ≤ (i.natAbs.log2 + 1) * j.toNat := Nat.mul_le_mul_right _ hb
    have h2 : Builtin.Int.intBits i * j.toNat ≤ 134217728 := Nat.le_trans h1 (Nat.le_trans h.2 (by omega))
    have h3 : ((Builtin.Int.intBits i * j.toNat : Nat) : Int) ≤ 134217728 := by omega
    rw [Int.natCast_mul, e] at h3
    have e2 : (2 : Int) ^ 27 = 134217728 := by decide
    rw [e2]
    exact h3) (int2 fun a b S w S' h => by
    unfold opPow at h
    split at h
    · split at h
      · cases h; exact ⟨_, _, rfl, rfl, by assumption, rfl, rfl⟩
      · cases h
    · cases h) ha hb
theorem opMul_ok : Op2Ok G (fun x y H Q => rI (fun i j => mulOk i j = true) (fun i j => .int (i * j)) x y H Q ∨ rRep x y H Q) opMul := fun H ρ S a b x y w S' Q sr ra rb h q => by
  cases ra with
  | int i =>
    cases rb with
    | int j =>
      simp only [opMul] at h
      split at h
      · cases h; exact .inl ⟨i, j, rfl, rfl, by assumption, q.flat sr (.int _)⟩
      · cases h
    | _ => cases h
  | @ref n a hn =>
    cases rb with
    | int j =>
      simp only [opMul] at h
      split at h
      · rename_i l1 e1
        split at h
        · rename_i hz
          cases h
          obtain ⟨vs, z, t⟩ := sr.ob n a _ hn e1
          refine .inr ⟨a, j, vs, rfl, rfl, z, hz.1, hz.2.1, by rw [← t.length]; exact hz.2.2, fun p hp => q.list sr ?_ hp⟩
          have : ∀ m : Nat, VRs G.K H ρ (List.replicate m l1).flatten (List.replicate m vs).flatten := fun m => by
            induction m with
            | zero => exact .nil
            | succ m ih => rw [List.replicate_succ, List.replicate_succ, List.flatten_cons, List.flatten_cons]; exact t.append ih
          exact this _
        · cases h
      · cases h
    | _ => cases h
  | _ => cases h
theorem e_mul {a b : Expr} {d e : DE} {pos : Pos} (ha : EOk G c k a d) (hb : EOk G c k b e) : EOk G c k (.BinOp a .Mult b pos) (dOp opMul d e) :=
  e_bin (fun X U F => OpR.or (L2.opI fun _ _ _ _ _ _ _ hc q => PyProof.Rows.mul_int q (mulOk_ok hc)) op_rep) opMul_ok ha hb
theorem e_neg {a : Expr} {d : DE} {pos : Pos} (ha : EOk G c k a d) : EOk G c k (.UnaryOp .USub a pos) (dUn opNeg d) :=
  e_un (fun X U F => un_neg) (fun H ρ S a x w S' Q sr ra h q => by
    cases ra with
    | int i => cases h; exact ⟨i, rfl, q.flat sr (.int _)⟩
    | _ => cases h) ha
/-! ### order -/
def opCmp (p : Int → Int → Bool) (q : List Nat → List Nat → Bool) : Op2
  | .int i, .int j, S => some (.bl (p i j), S)
  | .str x, .str y, S => some (.bl (q x.cps.toList y.cps.toList), S)
  | _, _, _ => none
abbrev opLt : Op2 := opCmp (fun i j => decide (i < j)) fun x y => decide (x < y)
abbrev opLe : Op2 := opCmp (fun i j => decide (i ≤ j)) fun x y => !decide (y < x)
abbrev opGt : Op2 := opCmp (fun i j => decide (j < i)) fun x y => decide (y < x)
abbrev opGe : Op2 := opCmp (fun i j => decide (j ≤ i)) fun x y => !decide (x < y)
theorem opCmp_ok {p : Int → Int → Bool} {q : List Nat → List Nat → Bool} : Op2Ok G (fun x y H Q => (∃ i j, x = .int i ∧ y = .int j ∧ Q (.bl (p i j)) H) ∨ (∃ i j, x = .str i ∧ y = .str j ∧ Q (.bl (q i.cps.toList j.cps.toList)) H)) (opCmp p q) := fun H ρ S a b x y w S' Q sr ra rb h z => by
  cases ra with
  | int i =>
    cases rb with
    | int j => cases h; exact .inl ⟨i, j, rfl, rfl, z.flat sr (.bl _)⟩
    | _ => cases h
  | str hi =>
    cases rb with
    | str hj => cases h; exact .inr ⟨_, _, rfl, rfl, z.flat sr (.bl _)⟩
    | _ => cases h
  | _ => cases h
theorem r_lt : ∀ X W, Fit G c k X W → OpR X (compareOp .Lt) (fun x y H Q => (∃ i j, x = .int i ∧ y = .int j ∧ Q (.bl (decide (i < j))) H) ∨ (∃ i j, x = .str i ∧ y = .str j ∧ Q (.bl (decide (i.cps.toList < j.cps.toList))) H)) := fun X W F => op_lt.or op_lt_str
theorem r_le : ∀ X W, Fit G c k X W → OpR X (compareOp .LtE) (fun x y H Q => (∃ i j, x = .int i ∧ y = .int j ∧ Q (.bl (decide (i ≤ j))) H) ∨ (∃ i j, x = .str i ∧ y = .str j ∧ Q (.bl (!decide (j.cps.toList < i.cps.toList))) H)) := fun X W F => op_le.or op_le_str
theorem r_gt : ∀ X W, Fit G c k X W → OpR X (compareOp .Gt) (fun x y H Q => (∃ i j, x = .int i ∧ y = .int j ∧ Q (.bl (decide (j < i))) H) ∨ (∃ i j, x = .str i ∧ y = .str j ∧ Q (.bl (decide (j.cps.toList < i.cps.toList))) H)) := fun X W F => op_gt.or op_gt_str
theorem r_ge : ∀ X W, Fit G c k X W → OpR X (compareOp .GtE) (fun x y H Q => (∃ i j, x = .int i ∧ y = .int j ∧ Q (.bl (decide (j ≤ i))) H) ∨ (∃ i j, x = .str i ∧ y = .str j ∧ Q (.bl (!decide (i.cps.toList < j.cps.toList))) H)) := fun X W F => op_ge.or op_ge_str
theorem o_lt : Op2Ok G (fun x y H Q => (∃ i j, x = .int i ∧ y = .int j ∧ Q (.bl (decide (i < j))) H) ∨ (∃ i j, x = .str i ∧ y = .str j ∧ Q (.bl (decide (i.cps.toList < j.cps.toList))) H)) opLt := opCmp_ok
theorem o_le : Op2Ok G (fun x y H Q => (∃ i j, x = .int i ∧ y = .int j ∧ Q (.bl (decide (i ≤ j))) H) ∨ (∃ i j, x = .str i ∧ y = .str j ∧ Q (.bl (!decide (j.cps.toList < i.cps.toList))) H)) opLe := opCmp_ok
theorem o_gt : Op2Ok G (fun x y H Q => (∃ i j, x = .int i ∧ y = .int j ∧ Q (.bl (decide (j < i))) H) ∨ (∃ i j, x = .str i ∧ y = .str j ∧ Q (.bl (decide (j.cps.toList < i.cps.toList))) H)) opGt := opCmp_ok
theorem o_ge : Op2Ok G (fun x y H Q => (∃ i j, x = .int i ∧ y = .int j ∧ Q (.bl (decide (j ≤ i))) H) ∨ (∃ i j, x = .str i ∧ y = .str j ∧ Q (.bl (!decide (i.cps.toList < j.cps.toList))) H)) opGe := opCmp_ok
end
end
end N
namespace N
open PySem L2
noncomputable section
/-! ### what a value reads as -/
def mapO {α β : Type} (f : α → Option β) : List α → Option (List β)
  | [] => some []
  | x :: xs => match f x, mapO f xs with
    | some y, some ys => some (y :: ys)
    | _, _ => none
def toD (S : Store) : Nat → W → Option PyData
  | 0, _ => none
  | _ + 1, .non => some .none
  | _ + 1, .bl b => some (.bool b)
  | _ + 1, .int i => some (.int i)
  | _ + 1, .str x => some (.str x)
  | n + 1, .tup ws => (mapO (toD S n) ws).map .tuple
  | n + 1, .rl ws => (mapO (toD S n) ws).map .list
  | n + 1, .ref m => match S[m]? with
    | some (.lst ws) => (mapO (toD S n) ws).map .list
    | _ => none
theorem okS_strOk {x : Str} (h : okS x = true) : PyData.strOk x = true := by
  unfold okS at h
  unfold PyData.strOk
  rw [← Array.all_toList]
  exact h
section
variable {G : Top} {c : Ctx} {k : Nat}
theorem toD_ok {H : Hp} {ρ : List Addr} {S : Store} (sr : SR G H ρ S) : ∀ (n : Nat) {w : W} {v : V} {d : PyData}, VR G.K H ρ w v → toD S n w = some d → Dp G.K H v d ∧ d.canLay0 = true ∧ d.depth ≤ n
  | 0, w, v, d, r, e => by simp [toD] at e
  | n + 1, w, v, d, r, e => by
    have all : ∀ {ws : List W} {vs : List V} {ds : List PyData}, VRs G.K H ρ ws vs → mapO (toD S n) ws = some ds → DpAll G.K H vs ds ∧ PyData.canLayAll0 ds = true ∧ PyData.depthAll ds ≤ n := by
      intro ws
      induction ws with
      | nil =>
        intro vs ds r e
        cases r
        cases e
        exact ⟨.nil, rfl, by rw [PyData.depthAll]; omega⟩
      | cons w ws ih =>
        intro vs ds r e
        cases r with
        | cons r rs =>
          unfold mapO at e
          cases h1 : toD S n w with
          | none => simp [h1] at e
          | some d1 =>
            cases h2 : mapO (toD S n) ws with
            | none => simp [h1, h2] at e
            | some ds1 =>
              simp only [h1, h2, Option.some.injEq] at e
              subst e
              obtain ⟨a1, b1, c1⟩ := toD_ok sr n r h1
              obtain ⟨a2, b2, c2⟩ := ih rs h2
              refine ⟨.cons a1 a2, by simp [PyData.canLayAll0, b1, b2], ?_⟩
              rw [PyData.depthAll]
              omega
    cases r with
    | non => cases e; exact ⟨.non, rfl, by rw [PyData.depth]; omega⟩
    | bl b => cases e; exact ⟨.bl b, rfl, by rw [PyData.depth]; omega⟩
    | int i => cases e; exact ⟨.int i, rfl, by rw [PyData.depth]; omega⟩
    | str hx => cases e; exact ⟨.str _, by rw [PyData.canLay0]; exact okS_strOk hx, by rw [PyData.depth]; omega⟩
    | @tup ws a vs q t =>
      rw [toD] at e
      cases h : mapO (toD S n) ws with
      | none => rw [h] at e; cases e
      | some ds =>
        rw [h] at e
        cases e
        obtain ⟨x, y, z⟩ := all t h
        exact ⟨.tup q x, by rw [PyData.canLay0]; exact y, by rw [PyData.depth]; omega⟩
    | @rl ws a vs q t =>
      rw [toD] at e
      cases h : mapO (toD S n) ws with
      | none => rw [h] at e; cases e
      | some ds =>
        rw [h] at e
        cases e
        obtain ⟨x, y, z⟩ := all t h
        exact ⟨.lst q.sq x, by rw [PyData.canLay0]; exact y, by rw [PyData.depth]; omega⟩
    | @ref m a q =>
      rw [toD] at e
      cases ho : S[m]? with
      | none => rw [ho] at e; cases e
      | some o =>
        rw [ho] at e
        have ob := sr.ob m a o q ho
        cases o with
        | lst ws =>
          obtain ⟨vs, z, t⟩ := ob
          cases h : mapO (toD S n) ws with
          | none => simp only [h] at e; cases e
          | some ds =>
            simp only [h, Option.map_some, Option.some.injEq] at e
            cases e
            obtain ⟨x, y, z'⟩ := all t h
            exact ⟨.lst (.of z) x, by rw [PyData.canLay0]; exact y, by rw [PyData.depth]; omega⟩
        | dct kvs => cases e
        | ins c fs => cases e
        | fdct kvs => cases e
/-- how deep data may lie -/
abbrev deep : Nat := 50
theorem toD_shaped {H : Hp} {ρ : List Addr} {S : Store} (sr : SR G H ρ S) {w : W} {v : V} {d : PyData} (r : VR G.K H ρ w v) (e : toD S deep w = some d) : Dp G.K H v d ∧ SeqAt.shaped d = true := by
  obtain ⟨a, b, c⟩ := toD_ok sr deep r e
  refine ⟨a, ?_⟩
  unfold SeqAt.shaped
  rw [b, Bool.true_and]
  exact decide_eq_true (Nat.le_trans c (by decide))
def opEq : Op2 := fun a b S => match toD S deep a, toD S deep b with
  | some d, some e => some (.bl (PyData.eqv d e), S)
  | _, _ => none
def opNe : Op2 := fun a b S => match toD S deep a, toD S deep b with
  | some d, some e => some (.bl (!PyData.eqv d e), S)
  | _, _ => none
theorem r_eq : ∀ X W, Fit G c k X W → OpR X (compareOp .Eq) (rEqD G.K) := fun X W F => by rw [← F.K]; exact op_eqD F.room.units
theorem r_ne : ∀ X W, Fit G c k X W → OpR X (compareOp .NotEq) (rNeD G.K) := fun X W F => by rw [← F.K]; exact op_neD F.room.units
theorem o_eq : Op2Ok G (rEqD G.K) opEq := fun H ρ S a b x y w S' Q sr ra rb h q => by
  unfold opEq at h
  split at h
  · rename_i d e hd he
    cases h
    obtain ⟨d1, d2⟩ := toD_shaped sr ra hd
    obtain ⟨e1, e2⟩ := toD_shaped sr rb he
    exact ⟨d, e, d1, e1, d2, e2, q.flat sr (.bl _)⟩
  · cases h
theorem o_ne : Op2Ok G (rNeD G.K) opNe := fun H ρ S a b x y w S' Q sr ra rb h q => by
  unfold opNe at h
  split at h
  · rename_i d e hd he
    cases h
    obtain ⟨d1, d2⟩ := toD_shaped sr ra hd
    obtain ⟨e1, e2⟩ := toD_shaped sr rb he
    exact ⟨d, e, d1, e1, d2, e2, q.flat sr (.bl _)⟩
  · cases h
/-! ### is None, is True -/
def isNon : W → Bool
  | .non => true
  | _ => false
def opIsN : Op2 := fun a b S => match b with
  | .non => some (.bl (isNon a), S)
  | _ => none
def opNotN : Op2 := fun a b S => match b with
  | .non => some (.bl (!isNon a), S)
  | _ => none
theorem isN_dec {H : Hp} {ρ : List Addr} {a : W} {x : V} (r : VR G.K H ρ a x) : decide (x = .non) = isNon a := by
  cases r <;> rfl
theorem r_isN : ∀ X W, Fit G c k X W → OpR X (compareOp .Is) (fun x y H Q => y = .non ∧ Q (.bl (decide (x = .non))) H) := fun X W F => op_isN
theorem r_notN : ∀ X W, Fit G c k X W → OpR X (compareOp .IsNot) (fun x y H Q => y = .non ∧ Q (.bl (!decide (x = .non))) H) := fun X W F => op_notN
theorem o_isN : Op2Ok G (fun x y H Q => y = .non ∧ Q (.bl (decide (x = .non))) H) opIsN := fun H ρ S a b x y w S' Q sr ra rb h q => by
  unfold opIsN at h
  split at h
  · cases rb
    cases h
    refine ⟨rfl, ?_⟩
    rw [isN_dec ra]
    exact q.flat sr (.bl _)
  · cases h
theorem o_notN : Op2Ok G (fun x y H Q => y = .non ∧ Q (.bl (!decide (x = .non))) H) opNotN := fun H ρ S a b x y w S' Q sr ra rb h q => by
  unfold opNotN at h
  split at h
  · cases rb
    cases h
    refine ⟨rfl, ?_⟩
    rw [isN_dec ra]
    exact q.flat sr (.bl _)
  · cases h
/-! ### in -/
def inStr (x y : Str) : Bool := !(Builtin.Str.occurrences y x 0 y.length 1).isEmpty
def inW (a b : W) (S : Store) : Option Bool := match a, b with
  | .str x, .str y => match x with
    | ⟨⟨[c]⟩⟩ => some (decide (c ∈ y.cps.toList))
    | _ => some (inStr x y)
  | a, b => match toD S deep a, toD S deep b with
    | some d, some (.list ds) => some (ds.any fun z => PyData.eqv z d)
    | _, _ => none
def opIn : Op2 := fun a b S => (inW a b S).map fun z => (.bl z, S)
def opNotIn : Op2 := fun a b S => (inW a b S).map fun z => (.bl (!z), S)
theorem r_in : ∀ X W, Fit G c k X W → OpR X (compareOp .In) (fun x y H Q => (∃ (c : Nat) (z : Str), x = .str ⟨#[c]⟩ ∧ y = .str z ∧ Q (.bl (decide (c ∈ z.cps.toList))) H) ∨ (∃ i j, x = .str i ∧ y = .str j ∧ Q (.bl (inStr i j)) H) ∨ rInD G.K x y H Q) := fun X W F => by
  rw [← F.K]
  exact op_in_sign.or (op_in_str.or (op_inD (by have := F.room.un; omega)))
theorem r_notIn : ∀ X W, Fit G c k X W → OpR X (compareOp .NotIn) (fun x y H Q => (∃ (c : Nat) (z : Str), x = .str ⟨#[c]⟩ ∧ y = .str z ∧ Q (.bl (!decide (c ∈ z.cps.toList))) H) ∨ (∃ i j, x = .str i ∧ y = .str j ∧ Q (.bl (!inStr i j)) H) ∨ rNotInD G.K x y H Q) := fun X W F => by
  rw [← F.K]
  exact op_notIn_sign.or (op_notIn_str.or (op_notInD (by have := F.room.un; omega)))
theorem inW_ok {H : Hp} {ρ : List Addr} {S : Store} {a b : W} {x y : V} {z : Bool} (sr : SR G H ρ S) (ra : VR G.K H ρ a x) (rb : VR G.K H ρ b y) (h : inW a b S = some z) :
    (∃ (c : Nat) (s : Str), x = .str ⟨#[c]⟩ ∧ y = .str s ∧ z = decide (c ∈ s.cps.toList)) ∨ (∃ i j, x = .str i ∧ y = .str j ∧ z = inStr i j) ∨ ∃ d ds, Dp G.K H x d ∧ Dp G.K H y (.list ds) ∧ SeqAt.shaped d = true ∧ SeqAt.shaped (.list ds) = true ∧ z = ds.any fun z => PyData.eqv z d := by
  unfold inW at h
  split at h
  · rename_i s1 s2
    cases ra
    cases rb
    split at h
    · rename_i ch _
      cases h
      exact .inl ⟨ch, s2, rfl, rfl, rfl⟩
    · cases h
      exact .inr (.inl ⟨_, _, rfl, rfl, rfl⟩)
  · split at h
    · rename_i d ds hd hds
      cases h
      obtain ⟨a1, a2⟩ := toD_shaped sr ra hd
      obtain ⟨b1, b2⟩ := toD_shaped sr rb hds
      exact .inr (.inr ⟨d, ds, a1, b1, a2, b2, rfl⟩)
    · cases h
theorem o_in : Op2Ok G (fun x y H Q => (∃ (c : Nat) (z : Str), x = .str ⟨#[c]⟩ ∧ y = .str z ∧ Q (.bl (decide (c ∈ z.cps.toList))) H) ∨ (∃ i j, x = .str i ∧ y = .str j ∧ Q (.bl (inStr i j)) H) ∨ rInD G.K x y H Q) opIn := fun H ρ S a b x y w S' Q sr ra rb h q => by
  unfold opIn at h
  cases e : inW a b S with
  | none => rw [e] at h; cases h
  | some z =>
    rw [e] at h
    cases h
    rcases inW_ok sr ra rb e with ⟨c, s, rfl, rfl, rfl⟩ | ⟨i, j, rfl, rfl, rfl⟩ | ⟨d, ds, h1, h2, h3, h4, rfl⟩
    · exact .inl ⟨c, s, rfl, rfl, q.flat sr (.bl _)⟩
    · exact .inr (.inl ⟨i, j, rfl, rfl, q.flat sr (.bl _)⟩)
    · exact .inr (.inr ⟨d, ds, h1, h2, h3, h4, q.flat sr (.bl _)⟩)
theorem o_notIn : Op2Ok G (fun x y H Q => (∃ (c : Nat) (z : Str), x = .str ⟨#[c]⟩ ∧ y = .str z ∧ Q (.bl (!decide (c ∈ z.cps.toList))) H) ∨ (∃ i j, x = .str i ∧ y = .str j ∧ Q (.bl (!inStr i j)) H) ∨ rNotInD G.K x y H Q) opNotIn := fun H ρ S a b x y w S' Q sr ra rb h q => by
  unfold opNotIn at h
  cases e : inW a b S with
  | none => rw [e] at h; cases h
  | some z =>
    rw [e] at h
    cases h
    rcases inW_ok sr ra rb e with ⟨c, s, rfl, rfl, rfl⟩ | ⟨i, j, rfl, rfl, rfl⟩ | ⟨d, ds, h1, h2, h3, h4, rfl⟩
    · exact .inl ⟨c, s, rfl, rfl, q.flat sr (.bl _)⟩
    · exact .inr (.inl ⟨i, j, rfl, rfl, q.flat sr (.bl _)⟩)
    · exact .inr (.inr ⟨d, ds, h1, h2, h3, h4, q.flat sr (.bl _)⟩)
/-! ### subscripts and slices -/
def seqW (w : W) (S : Store) : Option (List W) := match w with
  | .tup ws => some ws
  | .rl ws => some ws
  | .ref n => match S[n]? with
    | some (.lst ws) => some ws
    | _ => none
  | _ => none
theorem seqW_ok {H : Hp} {ρ : List Addr} {S : Store} {w : W} {v : V} {ws : List W} (sr : SR G H ρ S) (r : VR G.K H ρ w v) (h : seqW w S = some ws) : ∃ a vs, v = .ref a ∧ VRs G.K H ρ ws vs ∧ (SqL G.K H a vs ∨ SqT G.K H a vs) := by
  unfold seqW at h
  cases r with
  | tup q t => cases h; exact ⟨_, _, rfl, t, .inr q⟩
  | rl q t => cases h; exact ⟨_, _, rfl, t, .inl q.sq⟩
  | @ref n a q =>
    simp only at h
    split at h
    · rename_i e
      cases h
      obtain ⟨vs, z, t⟩ := sr.ob n a _ q e
      exact ⟨_, vs, rfl, t, .inl (.of z)⟩
    · cases h
  | _ => cases h
def opIx : Op2 := fun a i S => match i with
  | .int i => match a with
    | .str x => if x.length ≤ sizeLine then (atI x.cps.toList i).map fun c => (.str ⟨#[c]⟩, S) else none
    | a => (seqW a S).bind fun ws => (atI ws i).map fun w => (w, S)
  | _ => none
theorem VRs.atI {H : Hp} {ρ : List Addr} {ws : List W} {vs : List V} {i : Int} {w : W} (r : VRs G.K H ρ ws vs) (h : L2.atI ws i = some w) : ∃ v, L2.atI vs i = some v ∧ VR G.K H ρ w v := by
  unfold L2.atI at *
  rw [← r.length]
  cases e : ixN ws.length i with
  | none => rw [e] at h; cases h
  | some j =>
    rw [e] at h
    exact r.get h
theorem okS_sign {x : Str} {i : Int} {ch : Nat} (hx : okS x = true) (h : L2.atI x.cps.toList i = some ch) : okS ⟨#[ch]⟩ = true := by
  unfold okS at *
  obtain ⟨j, _, h2, _⟩ := L2.atI_get h
  have := List.all_eq_true.mp hx ch (List.mem_of_getElem? h2)
  simp only [List.all_cons, List.all_nil, Bool.and_true]
  exact this
theorem o_ix : Op2Ok G (rIx G.K) opIx := fun H ρ S a b x y w S' Q sr ra rb h q => by
  unfold opIx at h
  cases rb with
  | int i =>
    simp only at h
    split at h
    · rename_i st
      cases ra with
      | str hx =>
        split at h
        · rename_i hz
          cases e : L2.atI st.cps.toList i with
          | none => rw [e] at h; cases h
          | some ch =>
            rw [e] at h
            cases h
            exact .inr (.inr ⟨st, i, ch, rfl, rfl, hz, e, q.flat sr (.str (okS_sign hx e))⟩)
        · cases h
    · cases e : seqW a S with
      | none => rw [e] at h; cases h
      | some ws =>
        rw [e] at h
        simp only [Option.bind_some] at h
        cases e2 : L2.atI ws i with
        | none => rw [e2] at h; cases h
        | some w1 =>
          rw [e2] at h
          cases h
          obtain ⟨p, vs, rfl, t, hs⟩ := seqW_ok sr ra e
          obtain ⟨v, hv, rv⟩ := t.atI e2
          rcases hs with hs | hs
          · exact .inl ⟨p, vs, i, v, rfl, rfl, hs, hv, q.flat sr rv⟩
          · exact .inr (.inl ⟨p, vs, i, v, rfl, rfl, hs, hv, q.flat sr rv⟩)
  | _ => cases h
theorem e_ix {a b : Expr} {d e : DE} {pos : Pos} (ha : EOk G c k a d) (hb : EOk G c k b e) (hs : PlainIx b := by intro _ _; rfl) : EOk G c k (.Subscript a b pos) (dOp opIx d e) := fun X U F =>
  PE.imp (pe_ix ix_seq (ha X U F) (hb X U F) hs) fun σ H Q q => by rw [F.K]; exact op_imp o_ix q
end
end
end N
namespace N
open PySem L2
noncomputable section
theorem char_lt (ch : Char) : ch.toNat < 1114112 := by
  have := ch.valid
  unfold UInt32.isValidChar Nat.isValidChar at this
  show ch.val.toNat < _
  omega
theorem okS_cps {x : Str} (h : ∀ c ∈ x.cps.toList, c < 1114112) : okS x = true := by
  unfold okS
  rw [List.all_eq_true]
  exact fun c hc => decide_eq_true (h c hc)
theorem okS_mem {x : Str} (h : okS x = true) : ∀ c ∈ x.cps.toList, c < 1114112 := fun c hc => by
  unfold okS at h
  exact of_decide_eq_true (List.all_eq_true.mp h c hc)
theorem okS_of (s : String) : okS (Str.ofString s) = true := okS_cps fun c hc => by
  rw [Str.ofString_eq_toList] at hc
  simp only [List.mem_map] at hc
  obtain ⟨ch, _, rfl⟩ := hc
  exact char_lt ch
theorem digits_lt (n : Nat) : ∀ d ∈ (Nat.toDigits 16 n).map Char.toNat, d < 1114112 := fun d hd => by
  obtain ⟨ch, _, rfl⟩ := List.mem_map.mp hd
  exact char_lt ch
theorem reprChar_ok {q c : Nat} (hc : c < 1114112) : ∀ d ∈ Builtin.Str.reprChar q c, d < 1114112 := fun d hd => by
  unfold Builtin.Str.reprChar at hd
  have hx : ∀ m, d ∈ List.replicate m 48 ++ (Nat.toDigits 16 c).map Char.toNat → d < 1114112 := fun m h => by
    rcases List.mem_append.mp h with h | h
    · rw [List.eq_of_mem_replicate h]; omega
    · exact digits_lt c d h
  simp only at hd
  split at hd
  · simp at hd; omega
  split at hd
  · simp at hd; omega
  split at hd
  · simp at hd; omega
  split at hd
  · simp at hd; omega
  split at hd
  · simp at hd; omega
  split at hd
  · rcases List.mem_append.mp hd with h | h
    · simp at h; omega
    · exact hx _ h
  split at hd
  · rcases List.mem_append.mp hd with h | h
    · simp at h; omega
    · exact hx _ h
  · rcases List.mem_append.mp hd with h | h
    · simp at h; omega
    · exact hx _ h
theorem reprFold_ok {q : Nat} : ∀ (l : List Nat) (acc : Array Nat), (∀ c ∈ l, c < 1114112) → (∀ c ∈ acc.toList, c < 1114112) → ∀ c ∈ (l.foldl (fun out c => out ++ (Builtin.Str.reprChar q c).toArray) acc).toList, c < 1114112
  | [], acc, _, h => h
  | x :: l, acc, hl, h => by
    refine reprFold_ok l _ (fun c hc => hl c (List.mem_cons_of_mem _ hc)) fun c hc => ?_
    rw [Array.toList_append] at hc
    rcases List.mem_append.mp hc with z | z
    · exact h c z
    · exact reprChar_ok (hl x List.mem_cons_self) c z
theorem okS_repr {x : Str} (h : okS x = true) : okS (PySem.reprText x) = true := okS_cps fun c hc => by
  have hq : PySem.reprQuote x < 1114112 := by
    unfold PySem.reprQuote
    split <;> omega
  unfold PySem.reprText at hc
  rw [Array.toList_push] at hc
  rcases List.mem_append.mp hc with z | z
  · rw [← Array.foldl_toList] at z
    exact reprFold_ok _ _ (okS_mem h) (fun c hc => by simp at hc; omega) c z
  · simp at z; omega
theorem okS_from : ∀ (ts : List Str) (j : Nat) (acc : Str), okS acc = true → (∀ t ∈ ts, okS t = true) → okS (textFrom j acc ts) = true
  | [], _, _, h, _ => h
  | t :: ts, j, acc, h, ht => by
    unfold textFrom
    refine okS_from ts _ _ (okS_append (okS_append h ?_) (ht t List.mem_cons_self)) fun u hu => ht u (List.mem_cons_of_mem _ hu)
    split <;> exact okS_of _
theorem okS_join {sep : Str} (hs : okS sep = true) : ∀ ts : List Str, (∀ t ∈ ts, okS t = true) → okS (Str.join sep ts) = true
  | [], _ => rfl
  | [t], h => h t List.mem_cons_self
  | t :: u :: ts, h => by
    rw [Str.join]
    exact okS_append (okS_append (h t List.mem_cons_self) hs) (okS_join hs (u :: ts) fun z hz => h z (List.mem_cons_of_mem _ hz))
    intro z; cases z
theorem strOk_okS {x : Str} (h : PyData.strOk x = true) : okS x = true := by
  unfold PyData.strOk at h
  rw [← Array.all_toList] at h
  exact h
mutual
theorem okS_shown : ∀ d : PyData, d.canLay0 = true → okS d.shown = true
  | .none, _ => by rw [PyData.shown_none]; exact okS_of _
  | .bool b, _ => by rw [PyData.shown_bool]; split <;> exact okS_of _
  | .int i, _ => by rw [PyData.shown_int]; exact okS_of _
  | .str x, h => by rw [PyData.shown_str]; exact okS_repr (strOk_okS (by rw [PyData.canLay0] at h; exact h))
  | .list xs, h => by
    rw [PyData.shown_list]
    exact okS_append (okS_append (okS_of _) (okS_join (okS_of _) _ (okS_shownAll xs (by rw [PyData.canLay0] at h; exact h)))) (okS_of _)
  | .tuple xs, h => by
    rw [PyData.shown_tuple]
    refine okS_append (okS_append (okS_of _) (okS_join (okS_of _) _ (okS_shownAll xs (by rw [PyData.canLay0] at h; exact h)))) ?_
    split <;> exact okS_of _
  | .dict _, h => by rw [PyData.canLay0] at h; cases h
theorem okS_shownAll : ∀ ds : List PyData, PyData.canLayAll0 ds = true → ∀ t ∈ PyData.shownAll ds, okS t = true
  | [], _ => fun t ht => by rw [PyData.shownAll_nil] at ht; cases ht
  | d :: ds, h => fun t ht => by
    rw [PyData.canLayAll0, Bool.and_eq_true] at h
    rw [PyData.shownAll_cons] at ht
    rcases List.mem_cons.mp ht with e | ht
    · rw [e]; exact okS_shown d h.1
    · exact okS_shownAll ds h.2 t ht
end
/-! ### repr -/
def opRepr : OpA := fun ws S => match ws with
  | [w] => (toD S deep w).bind fun d => if d.showable = true ∧ d.shown.length ≤ sizeLine then some (.str d.shown, S) else none
  | _ => none
def rRepr (K : PySem.W.Frag) : List V → Hp → VK → Prop := fun xs H Q => ∃ v d, xs = [v] ∧ Dp K H v d ∧ d.canLay0 = true ∧ d.depth ≤ 60 ∧ d.showable = true ∧ d.shown.length ≤ sizeLine ∧ Q (.str d.shown) H
section
variable {G : Top} {c : Ctx} {k : Nat}
theorem cr_repr {X : Cx} {U : WX} (F : Fit G c k X U) : CallR X (.builtin "repr") (rRepr X.K) := by
  intro pins s σ H xs us Q I r h
  obtain ⟨v, d, rfl, hd, hc, hdep, hs, hz, q⟩ := h
  obtain ⟨u, rfl, ru⟩ := vals1 r
  obtain ⟨as, rd⟩ := Dp.reads I d v u hd ru
  have nd := PyData.hasDict_of_canLay d hc
  have un := F.room.un
  cases hd with
  | non =>
    cases ru
    refine PySem.P.repr_of_none ⟨.str _, H, I.tok _, ⟨_, rfl⟩, ?_⟩
    rw [PyData.shown_none] at q; exact q
  | bl b =>
    cases ru
    refine PySem.P.repr_of_bool ⟨.str _, H, I.tok _, ⟨_, rfl⟩, ?_⟩
    rw [PyData.shown_bool] at q; exact q
  | int i =>
    obtain ⟨t, rfl⟩ := ru
    refine PySem.P.repr_of_int (of_decide_eq_true (by rw [PyData.showable] at hs; exact hs)) ⟨.str _, H, I.tok _, ⟨_, rfl⟩, ?_⟩
    rw [PyData.shown_int] at q; exact q
  | str x =>
    obtain ⟨t, rfl⟩ := ru
    rw [PyData.shown_str] at q hz
    exact PySem.P.repr_of_str ⟨.str _, H, I.tok _, ⟨_, rfl⟩, q⟩ hz
  | lst hl ha =>
    cases ru
    exact PySem.repr_of_reads' rd hs (PyData.noDict_hsm nd) F.gd (by omega) (fun _ _ e => e) (fun h' u tk hk => ⟨.str _, H, I.kept hk, ⟨_, rfl⟩, q⟩) hz
  | tup hl ha =>
    cases ru
    exact PySem.repr_of_reads' rd hs (PyData.noDict_hsm nd) F.gd (by omega) (fun _ _ e => e) (fun h' u tk hk => ⟨.str _, H, I.kept hk, ⟨_, rfl⟩, q⟩) hz
theorem o_repr : OpAOk G (rRepr G.K) opRepr := fun H ρ S ws vs w S' Q sr r h q => by
  unfold opRepr at h
  split at h
  · rename_i w0
    cases r with
    | cons r rs =>
      cases rs
      cases e : toD S deep w0 with
      | none => rw [e] at h; cases h
      | some d =>
        rw [e] at h
        simp only [Option.bind_some] at h
        split at h
        · rename_i hh
          cases h
          obtain ⟨a, b, c⟩ := toD_ok sr deep r e
          exact ⟨_, d, rfl, a, b, Nat.le_trans c (by decide), hh.1, hh.2, q.flat sr (.str (okS_shown d b))⟩
        · cases h
  · cases h
theorem e_repr {e : Expr} {d : DE} {p pos : Pos} (he : EOk G c k e d) (hm : G.mg "repr" = none) (hg : c.sc.names.lookup ("repr" : Str) = some .globalImplicit := by rfl) (hp : plainE e = true := by rfl) : EOk G c k (.Call (.Name "repr" p) [e] [] pos) (dFn opRepr (aCons d aNil)) :=
  e_blt (fun X U F => by rw [← F.K]; exact cr_repr F) o_repr hm (by decide +kernel) (a_cons he a_nil hp) hg (by decide) (by decide) (fun env => starEach_plain hp _ _)
/-! ### len, abs, max, min, sum, any, all -/
def lenW (w : W) (S : Store) : Option Nat := match w with
  | .str x => if x.length ≤ sizeLine then some x.length else none
  | .ref n => match S[n]? with
    | some (.lst ws) => some ws.length
    | some (.dct kvs) => some kvs.length
    | _ => none
  | w => (seqW w S).map (·.length)
def opLen : OpA := fun ws S => match ws with
  | [w] => (lenW w S).map fun n => (.int n, S)
  | _ => none
theorem paired_len {α β : Type} {P : α → β → Prop} {xs : List α} {ys : List β} (h : Paired P xs ys) : xs.length = ys.length := Paired.length h
theorem o_len : OpAOk G (fun xs H Q => (∃ x n, xs = [x] ∧ LenV G.K x H n ∧ Q (.int n) H) ∨ ∃ d kvs, xs = [.ref d] ∧ H d = some (.dK kvs) ∧ Q (.int kvs.length) H) opLen := fun H ρ S ws vs w S' Q sr r h q => by
  unfold opLen at h
  split at h
  · rename_i w0
    cases r with
    | cons r rs =>
      cases rs
      unfold lenW at h
      cases r with
      | str hx =>
        simp only at h
        split at h
        · rename_i hz
          cases h
          exact .inl ⟨_, _, rfl, ⟨hz, rfl⟩, q.flat sr (.int _)⟩
        · cases h
      | @ref n a hn =>
        simp only at h
        split at h
        · rename_i l e
          cases h
          obtain ⟨vs, z, t⟩ := sr.ob n a _ hn e
          exact .inl ⟨_, vs.length, rfl, .inl ⟨vs, .of z, rfl⟩, by rw [← t.length]; exact q.flat sr (.int _)⟩
        · rename_i l e
          cases h
          obtain ⟨vs, z, t⟩ := sr.ob n a _ hn e
          exact .inr ⟨a, vs, rfl, z, by rw [← paired_len t]; exact q.flat sr (.int _)⟩
        · cases h
      | tup hq t => cases h; exact .inl ⟨_, _, rfl, .inr ⟨_, hq, rfl⟩, by rw [← t.length]; exact q.flat sr (.int _)⟩
      | rl hq t => cases h; exact .inl ⟨_, _, rfl, .inl ⟨_, hq.sq, rfl⟩, by rw [← t.length]; exact q.flat sr (.int _)⟩
      | _ => cases h
  · cases h
theorem e_len {e : Expr} {d : DE} {p pos : Pos} (he : EOk G c k e d) (hm : G.mg "len" = none) (hg : c.sc.names.lookup ("len" : Str) = some .globalImplicit := by rfl) (hp : plainE e = true := by rfl) : EOk G c k (.Call (.Name "len" p) [e] [] pos) (dFn opLen (aCons d aNil)) :=
  e_blt (fun X U F => by rw [← F.K]; exact call_len.or (by
    intro pins s σ H xs us Q I r ⟨d, kvs, e, hd, q⟩
    exact call_lenD pins s σ H xs us Q I r ⟨d, kvs, e, hd, q⟩)) o_len hm boot_len (a_cons he a_nil hp) hg (by decide) (by decide) (fun env => starEach_plain hp _ _)
def opAbs : OpA := fun ws S => match ws with
  | [.int i] => some (.int (if i < 0 then -i else i), S)
  | _ => none
def opMax2 : OpA := fun ws S => match ws with
  | [.int i, .int j] => some (.int (if j > i then j else i), S)
  | _ => none
def opMin2 : OpA := fun ws S => match ws with
  | [.int i, .int j] => some (.int (if j < i then j else i), S)
  | _ => none
theorem o_abs : OpAOk G (fun xs H Q => ∃ i, xs = [.int i] ∧ Q (.int (if i < 0 then -i else i)) H) opAbs := fun H ρ S ws vs w S' Q sr r h q => by
  unfold opAbs at h
  split at h
  · cases h
    cases r with
    | cons r rs =>
      cases rs
      cases r
      exact ⟨_, rfl, q.flat sr (.int _)⟩
  · cases h
theorem o_max2 : OpAOk G (fun xs H Q => ∃ i j, xs = [.int i, .int j] ∧ Q (.int (if j > i then j else i)) H) opMax2 := fun H ρ S ws vs w S' Q sr r h q => by
  unfold opMax2 at h
  split at h
  · cases h
    cases r with
    | cons r rs =>
      cases rs with
      | cons r2 rs =>
        cases rs
        cases r
        cases r2
        exact ⟨_, _, rfl, q.flat sr (.int _)⟩
  · cases h
theorem o_min2 : OpAOk G (fun xs H Q => ∃ i j, xs = [.int i, .int j] ∧ Q (.int (if j < i then j else i)) H) opMin2 := fun H ρ S ws vs w S' Q sr r h q => by
  unfold opMin2 at h
  split at h
  · cases h
    cases r with
    | cons r rs =>
      cases rs with
      | cons r2 rs =>
        cases rs
        cases r
        cases r2
        exact ⟨_, _, rfl, q.flat sr (.int _)⟩
  · cases h
theorem e_abs {e : Expr} {d : DE} {p pos : Pos} (he : EOk G c k e d) (hm : G.mg "abs" = none) (hg : c.sc.names.lookup ("abs" : Str) = some .globalImplicit := by rfl) (hp : plainE e = true := by rfl) : EOk G c k (.Call (.Name "abs" p) [e] [] pos) (dFn opAbs (aCons d aNil)) :=
  e_blt (fun X U F => call_abs) o_abs hm (by decide +kernel) (a_cons he a_nil hp) hg (by decide) (by decide) (fun env => starEach_plain hp _ _)
theorem e_max2 {e f : Expr} {d g : DE} {p pos : Pos} (he : EOk G c k e d) (hf : EOk G c k f g) (hm : G.mg "max" = none) (hg : c.sc.names.lookup ("max" : Str) = some .globalImplicit := by rfl) (hp : plainE e = true := by rfl) (hq : plainE f = true := by rfl) : EOk G c k (.Call (.Name "max" p) [e, f] [] pos) (dFn opMax2 (aCons d (aCons g aNil))) :=
  e_blt (fun X U F => call_max2 F.calm) o_max2 hm (by decide +kernel) (a_cons he (a_cons hf a_nil hq) hp) hg (by decide) (by decide) (fun env => starEach_plain hp _ _) (fun env => by rw [starEach_plain hq]; rfl)
theorem e_min2 {e f : Expr} {d g : DE} {p pos : Pos} (he : EOk G c k e d) (hf : EOk G c k f g) (hm : G.mg "min" = none) (hg : c.sc.names.lookup ("min" : Str) = some .globalImplicit := by rfl) (hp : plainE e = true := by rfl) (hq : plainE f = true := by rfl) : EOk G c k (.Call (.Name "min" p) [e, f] [] pos) (dFn opMin2 (aCons d (aCons g aNil))) :=
  e_blt (fun X U F => call_min2 F.calm) o_min2 hm (by decide +kernel) (a_cons he (a_cons hf a_nil hq) hp) hg (by decide) (by decide) (fun env => starEach_plain hp _ _) (fun env => by rw [starEach_plain hq]; rfl)
/-- items that are bools, ints -/
def blsOf : List W → Option (List Bool) := mapO fun w => match w with
  | .bl b => some b
  | _ => none
def intsOf : List W → Option (List Int) := mapO fun w => match w with
  | .int b => some b
  | _ => none
def strsOf : List W → Option (List Str) := mapO fun w => match w with
  | .str b => some b
  | _ => none
theorem blsOf_ok {H : Hp} {ρ : List Addr} : ∀ {ws : List W} {vs : List V} {bs : List Bool}, VRs G.K H ρ ws vs → blsOf ws = some bs → vs = bs.map V.bl
  | _, _, _, .nil, e => by cases e; rfl
  | _, _, bs, @VRs.cons _ _ _ w v ws vs r rs, e => by
    unfold blsOf mapO at e
    cases r with
    | bl b =>
      cases h2 : mapO (fun w => match w with | .bl b => some b | _ => none) ws with
      | none => simp only [h2] at e; cases e
      | some bs' =>
        simp only [h2, Option.some.injEq] at e
        subst e
        rw [blsOf_ok rs h2]
        rfl
    | _ => cases e
theorem intsOf_ok {H : Hp} {ρ : List Addr} : ∀ {ws : List W} {vs : List V} {bs : List Int}, VRs G.K H ρ ws vs → intsOf ws = some bs → vs = bs.map V.int
  | _, _, _, .nil, e => by cases e; rfl
  | _, _, bs, @VRs.cons _ _ _ w v ws vs r rs, e => by
    unfold intsOf mapO at e
    cases r with
    | int b =>
      cases h2 : mapO (fun w => match w with | .int b => some b | _ => none) ws with
      | none => simp only [h2] at e; cases e
      | some bs' =>
        simp only [h2, Option.some.injEq] at e
        subst e
        rw [intsOf_ok rs h2]
        rfl
    | _ => cases e
theorem strsOf_ok {H : Hp} {ρ : List Addr} : ∀ {ws : List W} {vs : List V} {bs : List Str}, VRs G.K H ρ ws vs → strsOf ws = some bs → vs = bs.map V.str ∧ ∀ x ∈ bs, okS x = true
  | _, _, _, .nil, e => by cases e; exact ⟨rfl, fun x h => by cases h⟩
  | _, _, bs, @VRs.cons _ _ _ w v ws vs r rs, e => by
    unfold strsOf mapO at e
    cases r with
    | str hx =>
      cases h2 : mapO (fun w => match w with | .str b => some b | _ => none) ws with
      | none => simp only [h2] at e; cases e
      | some bs' =>
        simp only [h2, Option.some.injEq] at e
        subst e
        obtain ⟨e1, e2⟩ := strsOf_ok rs h2
        refine ⟨by rw [e1]; rfl, fun x h => ?_⟩
        rcases List.mem_cons.mp h with z | z
        · rw [z]; exact hx
        · exact e2 x z
    | _ => cases e
def listW (w : W) (S : Store) : Option (List W) := match w with
  | .rl ws => some ws
  | .ref n => match S[n]? with
    | some (.lst ws) => some ws
    | _ => none
  | _ => none
theorem listW_ok {H : Hp} {ρ : List Addr} {S : Store} {w : W} {v : V} {ws : List W} (sr : SR G H ρ S) (r : VR G.K H ρ w v) (h : listW w S = some ws) : ∃ a vs, v = .ref a ∧ VRs G.K H ρ ws vs ∧ SqL G.K H a vs := by
  unfold listW at h
  cases r with
  | rl q t => cases h; exact ⟨_, _, rfl, t, q.sq⟩
  | @ref n a q =>
    simp only at h
    split at h
    · rename_i e
      cases h
      obtain ⟨vs, z, t⟩ := sr.ob n a _ q e
      exact ⟨_, vs, rfl, t, .of z⟩
    · cases h
  | _ => cases h
def opAll : OpA := fun ws S => match ws with
  | [w] => (listW w S).bind fun l => (blsOf l).map fun bs => (.bl (bs.all id), S)
  | _ => none
def opAny : OpA := fun ws S => match ws with
  | [w] => (listW w S).bind fun l => (blsOf l).map fun bs => (.bl (bs.any id), S)
  | _ => none
def opSum : OpA := fun ws S => match ws with
  | [w] => (listW w S).bind fun l => (intsOf l).map fun bs => (.int bs.sum, S)
  | _ => none
theorem bools_op {g : List Bool → Bool} {r : List V → Hp → VK → Prop} {op : OpA} (hr : ∀ H Q a bs, SqL G.K H a (bs.map V.bl) → Q (.bl (g bs)) H → r [.ref a] H Q) (ho : ∀ ws S, op ws S = match ws with | [w] => (listW w S).bind fun l => (blsOf l).map fun bs => (.bl (g bs), S) | _ => none) : OpAOk G r op := fun H ρ S ws vs w S' Q sr ra h q => by
  rw [ho] at h
  split at h
  · rename_i w0
    cases ra with
    | cons r rs =>
      cases rs
      cases e : listW w0 S with
      | none => rw [e] at h; cases h
      | some l =>
        rw [e] at h
        simp only [Option.bind_some] at h
        cases e2 : blsOf l with
        | none => rw [e2] at h; cases h
        | some bs =>
          rw [e2] at h
          cases h
          obtain ⟨a, us, rfl, t, hs⟩ := listW_ok sr r e
          rw [blsOf_ok t e2] at hs
          exact hr H Q a bs hs (q.flat sr (.bl _))
  · cases h
theorem o_all : OpAOk G (rAll G.K) opAll := bools_op (g := fun bs => bs.all id) (fun H Q a bs hs q => ⟨a, bs, rfl, hs, q⟩) fun ws S => rfl
theorem o_any : OpAOk G (rAny G.K) opAny := bools_op (g := fun bs => bs.any id) (fun H Q a bs hs q => ⟨a, bs, rfl, hs, q⟩) fun ws S => rfl
theorem e_all {e : Expr} {d : DE} {p pos : Pos} (he : EOk G c k e d) (hm : G.mg "all" = none) (hg : c.sc.names.lookup ("all" : Str) = some .globalImplicit := by rfl) (hp : plainE e = true := by rfl) : EOk G c k (.Call (.Name "all" p) [e] [] pos) (dFn opAll (aCons d aNil)) :=
  e_blt (fun X U F => by rw [← F.K]; exact cr_all F.calm) o_all hm (by decide +kernel) (a_cons he a_nil hp) hg (by decide) (by decide) (fun env => starEach_plain hp _ _)
theorem e_any {e : Expr} {d : DE} {p pos : Pos} (he : EOk G c k e d) (hm : G.mg "any" = none) (hg : c.sc.names.lookup ("any" : Str) = some .globalImplicit := by rfl) (hp : plainE e = true := by rfl) : EOk G c k (.Call (.Name "any" p) [e] [] pos) (dFn opAny (aCons d aNil)) :=
  e_blt (fun X U F => by rw [← F.K]; exact cr_any F.calm) o_any hm (by decide +kernel) (a_cons he a_nil hp) hg (by decide) (by decide) (fun env => starEach_plain hp _ _)
end
end
end N
namespace N
open PySem L2
noncomputable section
theorem PI.or {X : Cx} {tg e : Expr} {t t' : TI} (h : PI X tg e t) (h' : PI X tg e t') : PI X tg e (fun σ H R => t σ H R ∨ t' σ H R) := ⟨fun pins s σ H R I q => q.elim (h.run pins s σ H R I) (h'.run pins s σ H R I)⟩
/-- the value of a reading, ahead of its walk -/
theorem Rg.okD {α β : Type} {G : Top} {U : WX} {σ : L2.St} {rel : Hp → List Addr → α → β → Prop} {r : R α} {H : Hp} {ρ : List Addr} {Q : β → Hp → Prop} {a : α} {S' : Store} (e : r = .ok a S') (h : ∀ H' ρ' b, Ext G.K H ρ H' ρ' → SR G H' ρ' S' → rel H' ρ' a b → Q b H') : Rg G U σ rel r H ρ Q := by
  subst e
  exact h
section
variable {G : Top} {c : Ctx} {k : Nat}
/-! ### sequences and texts -/
def srcW (w : W) (S : Store) : Option Src := match w with
  | .str x => some ⟨x.cps.toList.map fun c => .str ⟨#[c]⟩, fun _ => True⟩
  | .tup ws => some ⟨ws, fun _ => True⟩
  | .rl ws => some ⟨ws, fun _ => True⟩
  | .ref n => match S[n]? with
    | some (.lst ws) => some ⟨ws, fun S' => S'[n]? = some (.lst ws)⟩
    | _ => none
  | _ => none
def dSrc (d : DE) : DI := fun ε => d ε >>= fun w => fun S => match srcW w S with
  | some p => .ok p S
  | none => .bad
theorem good_list {H : Hp} {ρ : List Addr} {n : Nat} {a : Addr} {ws : List W} (hn : ρ[n]? = some a) : Good G H ρ ⟨ws, fun S' => S'[n]? = some (.lst ws)⟩ (Itl G.K a) := fun H2 ρ2 S2 e sr g => by
  obtain ⟨vs, z, t⟩ := sr.ob n a _ (e.pre n a hn) g
  refine ⟨fun i w hi => ?_, ⟨vs, .of z, by rw [← t.length]; exact Nat.le_refl _⟩⟩
  obtain ⟨v, hv, r⟩ := t.get hi
  refine ⟨⟨vs, v, .of z, hv⟩, fun x H3 hy => ?_⟩
  obtain ⟨rfl, hx⟩ := hy
  have := hx vs (.of z)
  rw [hv] at this
  cases this
  exact ⟨Ext.refl, sr, r⟩
theorem good_rl {H : Hp} {ρ : List Addr} {a : Addr} {ws : List W} {vs : List V} (q : FzL G.K H a vs) (t : VRs G.K H ρ ws vs) : Good G H ρ ⟨ws, fun _ => True⟩ (Itl G.K a) := fun H2 ρ2 S2 e sr g => by
  have q2 := (e.fz _ _ q).sq
  have t2 := t.mono e
  refine ⟨fun i w hi => ?_, ⟨vs, q2, by rw [← t2.length]; exact Nat.le_refl _⟩⟩
  obtain ⟨v, hv, r⟩ := t2.get hi
  refine ⟨⟨vs, v, q2, hv⟩, fun x H3 hy => ?_⟩
  obtain ⟨rfl, hx⟩ := hy
  have := hx vs q2
  rw [hv] at this
  cases this
  exact ⟨Ext.refl, sr, r⟩
theorem good_tup {H : Hp} {ρ : List Addr} {a : Addr} {ws : List W} {vs : List V} (q : SqT G.K H a vs) (t : VRs G.K H ρ ws vs) : Good G H ρ ⟨ws, fun _ => True⟩ (Itt G.K a) := fun H2 ρ2 S2 e sr g => by
  have q2 := e.tups _ _ q
  have t2 := t.mono e
  refine ⟨fun i w hi => ?_, ⟨vs, q2, by rw [← t2.length]; exact Nat.le_refl _⟩⟩
  obtain ⟨v, hv, r⟩ := t2.get hi
  refine ⟨⟨vs, v, q2, hv⟩, fun x H3 hy => ?_⟩
  obtain ⟨rfl, hx⟩ := hy
  have := hx vs q2
  rw [hv] at this
  cases this
  exact ⟨Ext.refl, sr, r⟩
theorem good_str {H : Hp} {ρ : List Addr} {x : Str} (hx : okS x = true) : Good G H ρ ⟨x.cps.toList.map fun c => .str ⟨#[c]⟩, fun _ => True⟩ (Its x) := fun H2 ρ2 S2 e sr g => by
  refine ⟨fun i w hi => ?_, ?_⟩
  · rw [List.getElem?_map] at hi
    cases ee : x.cps.toList[i]? with
    | none => rw [ee] at hi; cases hi
    | some ch =>
      rw [ee] at hi
      cases hi
      have hl : i < x.cps.size := by
        have := (List.getElem?_eq_some_iff.mp ee).1
        simpa using this
      refine ⟨hl, fun v H3 hy => ?_⟩
      obtain ⟨rfl, c', hc, rfl⟩ := hy
      have e' : x.cps[i]? = some ch := by
        rw [← Array.getElem?_toList]; exact ee
      rw [e'] at hc
      cases hc
      refine ⟨Ext.refl, sr, .str ?_⟩
      unfold okS
      simp only [List.all_cons, List.all_nil, Bool.and_true]
      exact decide_eq_true (okS_mem hx ch (List.mem_of_getElem? ee))
  · show x.cps.size ≤ (List.map _ x.cps.toList).length
    simp
theorem i_seq {tg e : Expr} {d : DE} (he : EOk G c k e d) : IOk G c k tg e (dSrc d) := fun X U F =>
  PI.imp (PI.or (pi_list (he X U F)) (PI.or (pi_tup (he X U F)) (pi_str (he X U F)))) fun σ H Q ⟨ρ, ε, S, ev, sr, h⟩ => by
    have h' : Rg G U σ (Good G) (M.bind (d ε) (fun w => fun S => match srcW w S with | some p => R.ok p S | none => R.bad) S) H ρ Q := h
    unfold M.bind at h'
    cases q : d ε S with
    | bad => rw [q] at h'; exact h'.elim
    | exc x S1 =>
      rw [q] at h'
      exact .inl ⟨ρ, ε, S, ev, sr, by rw [q]; exact h'⟩
    | ok w S1 =>
      rw [q] at h'
      simp only at h'
      cases hs : srcW w S1 with
      | none => rw [hs] at h'; exact h'.elim
      | some p =>
        rw [hs] at h'
        have h2 : ∀ H' ρ' b, Ext G.K H ρ H' ρ' → SR G H' ρ' S1 → Good G H' ρ' p b → Q b H' := h'
        unfold srcW at hs
        cases w with
        | str x =>
          cases hs
          refine .inr (.inr ⟨ρ, ε, S, ev, sr, Rg.okD q fun H' ρ' v e' s' r => ?_⟩)
          cases r with
          | str hx => exact ⟨x, rfl, h2 H' ρ' _ e' s' (good_str hx)⟩
        | tup ws =>
          cases hs
          refine .inr (.inl ⟨ρ, ε, S, ev, sr, Rg.okD q fun H' ρ' v e' s' r => ?_⟩)
          rw [F.K]
          cases r with
          | tup z t => exact ⟨_, rfl, ⟨_, z⟩, h2 H' ρ' _ e' s' (good_tup z t)⟩
        | rl ws =>
          cases hs
          refine .inl ⟨ρ, ε, S, ev, sr, Rg.okD q fun H' ρ' v e' s' r => ?_⟩
          rw [F.K]
          cases r with
          | rl z t => exact ⟨_, rfl, ⟨_, z.sq⟩, h2 H' ρ' _ e' s' (good_rl z t)⟩
        | ref n =>
          simp only at hs
          split at hs
          · rename_i ws eo
            cases hs
            refine .inl ⟨ρ, ε, S, ev, sr, Rg.okD q fun H' ρ' v e' s' r => ?_⟩
            rw [F.K]
            cases r with
            | ref hn =>
              obtain ⟨vs, z, t⟩ := s'.ob _ _ _ hn eo
              exact ⟨_, rfl, ⟨_, .of z⟩, h2 H' ρ' _ e' s' (good_list hn)⟩
          · cases hs
        | non => cases hs
        | bl b => cases hs
        | int i => cases hs
/-! ### ranges -/
def bnd (i : Int) : Bool := decide (-(2 ^ 62) ≤ i ∧ i < 2 ^ 62)
def rngW (lo : Int) (n : Nat) : List W := (List.range n).map fun i : Nat => W.int (lo + (i : Int))
def dRng1 (a : DA) : DI := fun ε => a ε >>= fun ws => fun S => match ws with
  | [.int j] => if bnd j then .ok ⟨rngW 0 j.toNat, fun _ => True⟩ S else .bad
  | _ => .bad
def dRng2 (a : DA) : DI := fun ε => a ε >>= fun ws => fun S => match ws with
  | [.int i, .int j] => if bnd i && bnd j then .ok ⟨rngW i (j - i).toNat, fun _ => True⟩ S else .bad
  | _ => .bad
theorem good_rng {H : Hp} {ρ : List Addr} (lo : Int) (n : Nat) : Good G H ρ ⟨rngW lo n, fun _ => True⟩ (Itr lo n) := fun H2 ρ2 S2 e sr g => by
  refine ⟨fun i w hi => ?_, ?_⟩
  · unfold rngW at hi
    rw [List.getElem?_map] at hi
    have hl : i < n := by
      have := (List.getElem?_eq_some_iff.mp (show ((List.range n).map fun i : Nat => W.int (lo + (i : Int)))[i]? = some w by rw [List.getElem?_map]; exact hi)).1
      simpa using this
    rw [List.getElem?_range hl] at hi
    cases hi
    refine ⟨hl, fun v H3 hy => ?_⟩
    obtain ⟨rfl, rfl⟩ := hy
    exact ⟨Ext.refl, sr, .int _⟩
  · show n ≤ (rngW lo n).length
    simp [rngW]
theorem i_rng1 {tg e : Expr} {d : DE} {p pos : Pos} (he : EOk G c k e d) (hm : G.mg "range" = none) (hg : c.sc.names.lookup ("range" : Str) = some .globalImplicit := by rfl) (hp : plainE e = true := by rfl) : IOk G c k tg (.Call (.Name "range" p) [e] [] pos) (dRng1 (aCons d aNil)) := fun X U F =>
  PI.imp (pi_range1 (glob_of F hg) (by rw [F.mg]; exact hm) (a_cons he a_nil hp X U F) (starEach_plain hp _ _)) fun σ H Q ⟨ρ, ε, S, ev, sr, h⟩ => ⟨ρ, ε, S, ev, sr, (Rg.bind h).mono fun vs H1 ⟨ws, S1, ρ1, e1, s1, r1, h1⟩ => by
    split at h1
    · rename_i j
      cases r1 with
      | cons r rs =>
        cases rs
        cases r
        split at h1
        · rename_i hb
          have hb := of_decide_eq_true hb
          exact ⟨j, rfl, hb.1, hb.2, h1 H1 ρ1 _ Ext.refl s1 (good_rng 0 j.toNat)⟩
        · exact h1.elim
    · exact h1.elim⟩
theorem i_rng2 {tg e f : Expr} {d g : DE} {p pos : Pos} (he : EOk G c k e d) (hf : EOk G c k f g) (hm : G.mg "range" = none) (hg : c.sc.names.lookup ("range" : Str) = some .globalImplicit := by rfl) (hp : plainE e = true := by rfl) (hq : plainE f = true := by rfl) : IOk G c k tg (.Call (.Name "range" p) [e, f] [] pos) (dRng2 (aCons d (aCons g aNil))) := fun X U F =>
  PI.imp (pi_range2 (glob_of F hg) (by rw [F.mg]; exact hm) (a_cons he (a_cons hf a_nil hq) hp X U F) (by rw [starEach_plain hp, starEach_plain hq]; rfl) (by rw [starEach_plain hq]; rfl)) fun σ H Q ⟨ρ, ε, S, ev, sr, h⟩ => ⟨ρ, ε, S, ev, sr, (Rg.bind h).mono fun vs H1 ⟨ws, S1, ρ1, e1, s1, r1, h1⟩ => by
    split at h1
    · rename_i i j
      cases r1 with
      | cons r rs =>
        cases rs with
        | cons r2 rs =>
          cases rs
          cases r
          cases r2
          split at h1
          · rename_i hb
            rw [Bool.and_eq_true] at hb
            have h2 := of_decide_eq_true hb.1
            have h3 := of_decide_eq_true hb.2
            exact ⟨i, j, rfl, ⟨h2.1, h2.2, h3.1, h3.2⟩, h1 H1 ρ1 _ Ext.refl s1 (good_rng i (j - i).toNat)⟩
          · exact h1.elim
    · exact h1.elim⟩
/-! ### enumerate, zip of lists (zip of tuples) -/
def enumL (ws : List W) : List W := (List.range ws.length).zipWith (fun i w => .tup [.int (i : Nat), w]) ws
def dEnum (a : DA) : DI := fun ε => a ε >>= fun ws => fun S => match ws with
  | [.ref n] => (match S[n]? with
    | some (.lst l) => .ok ⟨enumL l, fun S' => S'[n]? = some (.lst l)⟩ S
    | _ => .bad)
  | _ => .bad
theorem enumL_get {ws : List W} {i : Nat} {w : W} (h : (enumL ws)[i]? = some w) : ∃ x, ws[i]? = some x ∧ w = .tup [.int (i : Nat), x] := by
  unfold enumL at h
  rw [List.getElem?_zipWith] at h
  cases e : ws[i]? with
  | none => rw [e] at h; simp at h
  | some x =>
    have hl := (List.getElem?_eq_some_iff.mp e).1
    rw [e, List.getElem?_range hl] at h
    simp at h
    exact ⟨x, rfl, h.symm⟩
theorem good_enum {H : Hp} {ρ : List Addr} {n : Nat} {a : Addr} {ws : List W} (hn : ρ[n]? = some a) : Good G H ρ ⟨enumL ws, fun S' => S'[n]? = some (.lst ws)⟩ (Ite G.K a) := fun H2 ρ2 S2 e sr g => by
  obtain ⟨vs, z, t⟩ := sr.ob n a _ (e.pre n a hn) g
  refine ⟨fun i w hi => ?_, ⟨vs, .of z, by rw [← t.length]; simp [enumL]⟩⟩
  obtain ⟨x, hx, rfl⟩ := enumL_get hi
  obtain ⟨v, hv, r⟩ := t.get hx
  refine ⟨⟨vs, v, .of z, hv⟩, fun y H3 hy => ?_⟩
  obtain ⟨T, x', rfl, hT, rfl, hx'⟩ := hy
  have := hx' vs (.of z)
  rw [hv] at this
  cases this
  exact ⟨Ext.fresh hT, sr.fresh hT, .tup (.of upd_same) (.cons (.int _) (.cons (r.mono (Ext.fresh hT)) .nil))⟩
theorem i_enum {e : Expr} {elts : List Expr} {kk : Nat} {tpos : Pos} {d : DE} {p pos : Pos} (he : EOk G c k e d) (hm : G.mg "enumerate" = none) (hg : c.sc.names.lookup ("enumerate" : Str) = some .globalImplicit := by rfl) (hp : plainE e = true := by rfl) : IOk G c k (.Tuple elts kk tpos) (.Call (.Name "enumerate" p) [e] [] pos) (dEnum (aCons d aNil)) := fun X U F =>
  PI.imp (pi_enum (glob_of F hg) (by rw [F.mg]; exact hm) (a_cons he a_nil hp X U F) (starEach_plain hp _ _)) fun σ H Q ⟨ρ, ε, S, ev, sr, h⟩ => ⟨ρ, ε, S, ev, sr, (Rg.bind h).mono fun vs H1 ⟨ws, S1, ρ1, e1, s1, r1, h1⟩ => by
    rw [F.K]
    split at h1
    · rename_i n
      cases r1 with
      | cons r rs =>
        cases rs
        cases r with
        | ref hn =>
          split at h1
          · rename_i l eo
            obtain ⟨us, z, t⟩ := s1.ob _ _ _ hn eo
            exact ⟨_, us, rfl, .of z, h1 H1 ρ1 _ Ext.refl s1 (good_enum hn)⟩
          · exact h1.elim
    · exact h1.elim⟩
def zipL (xs ys : List W) : List W := xs.zipWith (fun x y => .tup [x, y]) ys
def gdW (w : W) (ws : List W) (S : Store) : Prop := match w with
  | .ref n => S[n]? = some (.lst ws)
  | _ => True
def zipW (a b : W) (S : Store) : Option Src := match a, b with
  | .tup xs, .tup ys => some ⟨zipL xs ys, fun _ => True⟩
  | .ref n, .ref m => match S[n]?, S[m]? with
    | some (.lst xs), some (.lst ys) => some ⟨zipL xs ys, fun S' => S'[n]? = some (.lst xs) ∧ S'[m]? = some (.lst ys)⟩
    | _, _ => none
  | _, _ => none
def dZip (a : DA) : DI := fun ε => a ε >>= fun ws => fun S => match ws with
  | [x, y] => (match zipW x y S with
    | some p => .ok p S
    | none => .bad)
  | _ => .bad
theorem zipL_get {xs ys : List W} {i : Nat} {w : W} (h : (zipL xs ys)[i]? = some w) : ∃ x y, xs[i]? = some x ∧ ys[i]? = some y ∧ w = .tup [x, y] := by
  unfold zipL at h
  rw [List.getElem?_zipWith] at h
  cases e : xs[i]? with
  | none => rw [e] at h; simp at h
  | some x =>
    cases e2 : ys[i]? with
    | none => rw [e, e2] at h; simp at h
    | some y =>
      rw [e, e2] at h
      simp at h
      exact ⟨x, y, rfl, rfl, h.symm⟩
theorem good_zipT {H : Hp} {ρ : List Addr} {a b : Addr} {ws us : List W} {vs zs : List V} (q : SqT G.K H a vs) (t : VRs G.K H ρ ws vs) (q' : SqT G.K H b zs) (t' : VRs G.K H ρ us zs) : Good G H ρ ⟨zipL ws us, fun _ => True⟩ (RZ.ItzT G.K a b) := fun H2 ρ2 S2 e sr g => by
  have q2 := e.tups _ _ q
  have t2 := t.mono e
  have q2' := e.tups _ _ q'
  have t2' := t'.mono e
  refine ⟨fun i w hi => ?_, ⟨vs, zs, q2, q2', ?_⟩⟩
  · obtain ⟨x, y, hx, hy, rfl⟩ := zipL_get hi
    obtain ⟨v, hv, r⟩ := t2.get hx
    obtain ⟨z, hz, r'⟩ := t2'.get hy
    refine ⟨⟨vs, zs, v, z, q2, q2', hv, hz⟩, fun u H3 hu => ?_⟩
    obtain ⟨T, x', y', rfl, hT, rfl, h1, h2⟩ := hu
    have e1 := h1 vs q2
    have e2 := h2 zs q2'
    rw [hv] at e1
    rw [hz] at e2
    cases e1
    cases e2
    exact ⟨Ext.fresh hT, sr.fresh hT, .tup (.of upd_same) (.cons (r.mono (Ext.fresh hT)) (.cons (r'.mono (Ext.fresh hT)) .nil))⟩
  · rw [← t2.length, ← t2'.length]
    simp only [zipL, List.length_zipWith]
    omega
theorem good_zipL {H : Hp} {ρ : List Addr} {n m : Nat} {a b : Addr} {ws us : List W} (hn : ρ[n]? = some a) (hm : ρ[m]? = some b) : Good G H ρ ⟨zipL ws us, fun S' => S'[n]? = some (.lst ws) ∧ S'[m]? = some (.lst us)⟩ (Itz G.K a b) := fun H2 ρ2 S2 e sr g => by
  obtain ⟨vs, z1, t2⟩ := sr.ob n a _ (e.pre n a hn) g.1
  obtain ⟨zs, z2, t2'⟩ := sr.ob m b _ (e.pre m b hm) g.2
  refine ⟨fun i w hi => ?_, ⟨vs, zs, .of z1, .of z2, ?_⟩⟩
  · obtain ⟨x, y, hx, hy, rfl⟩ := zipL_get hi
    obtain ⟨v, hv, r⟩ := t2.get hx
    obtain ⟨z, hz, r'⟩ := t2'.get hy
    refine ⟨⟨vs, zs, v, z, .of z1, .of z2, hv, hz⟩, fun u H3 hu => ?_⟩
    obtain ⟨T, x', y', rfl, hT, rfl, h1, h2⟩ := hu
    have e1 := h1 vs (.of z1)
    have e2 := h2 zs (.of z2)
    rw [hv] at e1
    rw [hz] at e2
    cases e1
    cases e2
    exact ⟨Ext.fresh hT, sr.fresh hT, .tup (.of upd_same) (.cons (r.mono (Ext.fresh hT)) (.cons (r'.mono (Ext.fresh hT)) .nil))⟩
  · rw [← t2.length, ← t2'.length]
    simp only [zipL, List.length_zipWith]
    omega
theorem i_zip {e f : Expr} {elts : List Expr} {kk : Nat} {tpos : Pos} {d g : DE} {p pos : Pos} (he : EOk G c k e d) (hf : EOk G c k f g) (hm : G.mg "zip" = none) (hg : c.sc.names.lookup ("zip" : Str) = some .globalImplicit := by rfl) (hp : plainE e = true := by rfl) (hq : plainE f = true := by rfl) : IOk G c k (.Tuple elts kk tpos) (.Call (.Name "zip" p) [e, f] [] pos) (dZip (aCons d (aCons g aNil))) := fun X U F =>
  PI.imp (RZ.pi_zipA (glob_of F hg) (by rw [F.mg]; exact hm) (a_cons he (a_cons hf a_nil hq) hp X U F) (starEach_plain hp _ _) (by rw [starEach_plain hq]; rfl)) fun σ H Q ⟨ρ, ε, S, ev, sr, h⟩ => ⟨ρ, ε, S, ev, sr, (Rg.bind h).mono fun vs H1 ⟨ws, S1, ρ1, e1, s1, r1, h1⟩ => by
    rw [F.K]
    split at h1
    · rename_i x y
      split at h1
      · rename_i p0 hz
        cases r1 with
        | cons r rs =>
          cases rs with
          | cons r2 rs =>
            cases rs
            unfold zipW at hz
            split at hz
            · cases hz
              cases r with
              | tup q t =>
                cases r2 with
                | tup q' t' => exact ⟨_, _, _, _, rfl, .inr ⟨q, q', h1 H1 ρ1 _ Ext.refl s1 (good_zipT q t q' t')⟩⟩
            · split at hz
              · rename_i l1 l2 e3 e4
                cases hz
                cases r with
                | ref hn =>
                  cases r2 with
                  | ref hm =>
                    obtain ⟨us, z, t⟩ := s1.ob _ _ _ hn e3
                    obtain ⟨us', z', t'⟩ := s1.ob _ _ _ hm e4
                    exact ⟨_, _, us, us', rfl, .inl ⟨.of z, .of z', h1 H1 ρ1 _ Ext.refl s1 (good_zipL hn hm)⟩⟩
              · cases hz
            · cases hz
      · exact h1.elim
    · exact h1.elim⟩
end
end
end N
namespace N
open PySem L2
noncomputable section
section
variable {G : Top} {c : Ctx} {k : Nat}
/-! ### slices -/
abbrev DO := Ev → M (Option Int)
def tOp (G : Top) (U : WX) (d : DO) : TO := fun σ H Q => ∃ ρ ε S, EvR G.K H ρ ε σ ∧ SR G H ρ S ∧ Rg G U σ (fun _ _ (a b : Option Int) => a = b) (d ε S) H ρ Q
def OOk (G : Top) (c : Ctx) (k : Nat) (e : Option Expr) (d : DO) : Prop := ∀ X U, Fit G c k X U → PO X e (tOp G U d)
theorem PO.imp {X : Cx} {e : Option Expr} {t t' : TO} (h : PO X e t) (f : ∀ σ H Q, t' σ H Q → t σ H Q) : PO X e t' := ⟨fun pins s σ H R I q => h.run pins s σ H R I (f _ _ _ q)⟩
def oN : DO := fun _ => M.ret none
def oS (d : DE) : DO := fun ε => d ε >>= fun w => match w with
  | .int i => M.ret (some i)
  | _ => bad
theorem o_none : OOk G c k none oN := fun X U F => PO.imp po_none fun σ H Q ⟨ρ, ε, S, ev, sr, h⟩ => h H ρ none Ext.refl sr rfl
theorem o_some {e : Expr} {d : DE} (he : EOk G c k e d) : OOk G c k (some e) (oS d) := fun X U F => PO.imp (po_some (he X U F)) fun σ H Q ⟨ρ, ε, S, ev, sr, h⟩ => ⟨ρ, ε, S, ev, sr, (Rg.bind h).mono fun x H1 ⟨w, S1, ρ1, e1, s1, r1, h1⟩ => by
  cases r1 with
  | int i => exact ⟨i, rfl, h1 H1 ρ1 _ Ext.refl s1 rfl⟩
  | _ => exact h1.elim⟩
/-- xs[lo:hi] -/
def cutL {α : Type} (xs : List α) (lo hi : Option Int) : List α := (xs.drop (HT.sIx xs.length 0 lo)).take (HT.sIx xs.length xs.length hi - HT.sIx xs.length 0 lo)
theorem VRs.cut {H : Hp} {ρ : List Addr} {ws : List W} {vs : List V} (r : VRs G.K H ρ ws vs) (lo hi : Option Int) : VRs G.K H ρ (cutL ws lo hi) (cutV vs lo hi) := by
  unfold cutL cutV
  rw [r.length]
  exact (r.drop _).take _
def opSl (w : W) (lo hi : Option Int) (S : Store) : Option (W × Store) := match w with
  | .str z => if z.length ≤ sizeLine then some (.str (cutS z lo hi), S) else none
  | .tup ws => if HT.sIx ws.length 0 lo = 0 ∧ HT.sIx ws.length ws.length hi = ws.length then none else some (.tup (cutL ws lo hi), S)
  | w => (listW w S).map fun ws => (.ref S.length, S ++ [.lst (cutL ws lo hi)])
def dSl (d : DE) (l h : DO) : DE := fun ε => d ε >>= fun w => l ε >>= fun lo => h ε >>= fun hi => lift (opSl w lo hi)
theorem okS_cut {z : Str} (h : okS z = true) (lo hi : Option Int) : okS (cutS z lo hi) = true := okS_cps fun c hc => okS_mem h c (by
  unfold cutS at hc
  exact List.mem_of_mem_drop (List.mem_of_mem_take hc))
theorem SlR.or3 {X : Cx} {r r' r'' : V → Option Int → Option Int → Hp → VK → Prop} (h : SlR X r) (h' : SlR X r') (h'' : SlR X r'') : SlR X (fun x lo hi H Q => r x lo hi H Q ∨ r' x lo hi H Q ∨ r'' x lo hi H Q) := h.or (h'.or h'')
theorem o_sl {H : Hp} {ρ : List Addr} {S : Store} {a w : W} {x : V} {lo hi : Option Int} {S' : Store} {Q : VK} (sr : SR G H ρ S) (ra : VR G.K H ρ a x) (h : opSl a lo hi S = some (w, S')) (q : Wish G H ρ w S' Q) : rSlS x lo hi H Q ∨ rSlT G.K x lo hi H Q ∨ rSlL G.K x lo hi H Q := by
  unfold opSl at h
  cases ra with
  | str hx =>
    simp only at h
    split at h
    · rename_i hz
      cases h
      exact .inl ⟨_, rfl, hz, q.flat sr (.str (okS_cut hx lo hi))⟩
    · cases h
  | tup z t =>
    simp only at h
    split at h
    · cases h
    · rename_i hn
      cases h
      refine .inr (.inl ⟨_, _, rfl, z, by rw [← t.length]; exact hn, fun p hp => q.tup sr (t.cut lo hi) hp⟩)
  | rl z t =>
    cases h
    exact .inr (.inr ⟨_, _, rfl, z.sq, fun p hp => q.list sr (t.cut lo hi) hp⟩)
  | @ref n a hn =>
    simp only [listW] at h
    split at h
    · rename_i ws eo
      cases h
      obtain ⟨vs, z, t⟩ := sr.ob _ _ _ hn eo
      exact .inr (.inr ⟨_, _, rfl, .of z, fun p hp => q.list sr (t.cut lo hi) hp⟩)
    · cases h
  | _ => cases h
theorem e_sl {e : Expr} {lo hi : Option Expr} {d : DE} {l h : DO} {p2 pos : Pos} (he : EOk G c k e d) (hl : OOk G c k lo l) (hh : OOk G c k hi h) : EOk G c k (.Subscript e (.Slice lo hi none p2) pos) (dSl d l h) := fun X U F =>
  PE.imp (pe_slice (SlR.or3 sl_str sl_tup sl_list) (he X U F) (hl X U F) (hh X U F)) fun σ H Q ⟨ρ, ε, S, ev, sr, q⟩ => ⟨ρ, ε, S, ev, sr, (Rg.bind q).mono fun x H1 ⟨w, S1, ρ1, e1, s1, r1, q1⟩ =>
    ⟨ρ1, ε, S1, ev.mono e1, s1, (Rg.bind q1).mono fun a H2 ⟨a', S2, ρ2, e2, s2, r2, q2⟩ => by
      obtain rfl : a' = a := r2
      refine ⟨ρ2, ε, S2, ev.mono (e1.trans e2), s2, (Rg.bind q2).mono fun b H3 ⟨b', S3, ρ3, e3, s3, r3, q3⟩ => ?_⟩
      obtain rfl : b' = b := r3
      obtain ⟨w', S4, hw, q4⟩ := Rg.lift q3
      rw [F.K]
      exact o_sl s3 (r1.mono (e2.trans e3)) hw q4⟩⟩
/-! ### types -/
def tyN (w : W) (S : Store) : Option String := match w with
  | .non => some "NoneType"
  | .bl _ => some "bool"
  | .int _ => some "int"
  | .str _ => some "str"
  | .tup _ => some "tuple"
  | .rl _ => some "list"
  | .ref n => match S[n]? with
    | some (.lst _) => some "list"
    | some (.dct _) => some "dict"
    | _ => none
theorem tyN_ok {H : Hp} {ρ : List Addr} {S : Store} {w : W} {v : V} {T : String} (sr : SR G H ρ S) (r : VR G.K H ρ w v) (h : tyN w S = some T) : TyX G.K H v (.type T) := by
  unfold tyN at h
  cases r with
  | non => cases h; exact .base .non
  | bl b => cases h; exact .base (.bl b)
  | int i => cases h; exact .base (.int i)
  | str hx => cases h; exact .base (.str _)
  | tup q t =>
    cases h
    rcases q with (q | ⟨o, q⟩) | ⟨o, its, n, q1, q2, _⟩
    · exact .base (.tup q)
    · exact .fTuple q
    · exact .kTuple q1 q2
  | rl q t =>
    cases h
    rcases q with ⟨o, q⟩ | ⟨o, its, n, q1, q2, _⟩
    · exact .base (.frz q)
    · exact .kList q1 q2
  | ref hn =>
    simp only at h
    split at h
    · rename_i e
      cases h
      obtain ⟨vs, z, t⟩ := sr.ob _ _ _ hn e
      exact .base (.lst z)
    · rename_i e
      cases h
      obtain ⟨vs, z, t⟩ := sr.ob _ _ _ hn e
      exact .base (.dK z)
    · cases h
/-- is a value of the type a one of the type b (types that stand here) -/
def isT (a b : String) : Bool := a == b || (a == "bool" && b == "int")
def kitOk (b : String) : Bool := ["NoneType", "bool", "int", "str", "tuple", "list", "dict"].all fun a => decide (kitB a b = some (isT a b))
theorem tyN_mem {w : W} {S : Store} {T : String} (h : tyN w S = some T) : T ∈ ["NoneType", "bool", "int", "str", "tuple", "list", "dict"] := by
  unfold tyN at h
  split at h <;> first | (cases h; decide) | skip
  split at h <;> first | (cases h; decide) | cases h
def dIsi (T : String) (d : DE) : DE := fun ε => d ε >>= fun w => lift fun S => (tyN w S).map fun t => (.bl (isT t T), S)
theorem e_isi (T : String) {x : Str} {e : Expr} {d : DE} {p p2 pos : Pos} (he : EOk G c k e d) (hm : G.mg "isinstance" = none) (hx : G.mg x = none) (hb : bootBuiltins x = some (.type T) := by decide +kernel) (hk : kitOk T = true := by decide +kernel) (hg : c.sc.names.lookup ("isinstance" : Str) = some .globalImplicit := by rfl) (hgx : c.sc.names.lookup x = some .globalImplicit := by rfl)
    (hp : plainE e = true := by rfl) (hn : x ≠ "__name__" := by decide) (hd : (x == ("__debug__" : Str)) = false := by decide) : EOk G c k (.Call (.Name "isinstance" p) [e, .Name x p2] [] pos) (dIsi T d) := fun X U F =>
  PE.imp (pe_callB (call_isi) (glob_of F hg) (by rw [F.mg]; exact hm) (by decide +kernel) (pa_cons (he X U F) (pa_cons (pe_bltn (v := .ty T) (glob_of F hgx) (by rw [F.mg]; exact hx) hb rfl hn hd) pa_nil) (starEach_plain hp _ _)) (by decide) (by decide) (starEach_plain hp _ _)) fun σ H Q ⟨ρ, ε, S, ev, sr, q⟩ => ⟨ρ, ε, S, ev, sr, (Rg.bind q).mono fun v H1 ⟨w, S1, ρ1, e1, s1, r1, q1⟩ => by
    obtain ⟨w', S2, hw, q2⟩ := Rg.lift q1
    cases et : tyN w S1 with
    | none => rw [et] at hw; cases hw
    | some t =>
      rw [et] at hw
      cases hw
      have hk2 := of_decide_eq_true (List.all_eq_true.mp hk t (tyN_mem et))
      refine ⟨v, .ty T, .type t, .type T, isT t T, rfl, .ty T, ?_, ?_, q2 H1 ρ1 _ Ext.refl s1 (.bl _)⟩
      · rw [F.K]; exact tyN_ok s1 r1 et
      · exact kit_ty hk2⟩
/-- isinstance(e, (T1, T2)) -/
def dIsi2 (T1 T2 : String) (d : DE) : DE := fun ε => d ε >>= fun w => lift fun S => (tyN w S).map fun t => (.bl (isT t T1 || isT t T2), S)
theorem e_isi2 (T1 T2 : String) {x y : Str} {e : Expr} {d : DE} {p p2 p3 pt pos : Pos} {kt : Nat} (he : EOk G c k e d) (hm : G.mg "isinstance" = none) (hx : G.mg x = none) (hy : G.mg y = none) (hb : bootBuiltins x = some (.type T1) := by decide +kernel) (hb2 : bootBuiltins y = some (.type T2) := by decide +kernel)
    (hk : kitOk T1 = true := by decide +kernel) (hk2 : kitOk T2 = true := by decide +kernel) (hg : c.sc.names.lookup ("isinstance" : Str) = some .globalImplicit := by rfl) (hgx : c.sc.names.lookup x = some .globalImplicit := by rfl) (hgy : c.sc.names.lookup y = some .globalImplicit := by rfl)
    (hp : plainE e = true := by rfl) (hn : x ≠ "__name__" := by decide) (hd : (x == ("__debug__" : Str)) = false := by decide) (hn2 : y ≠ "__name__" := by decide) (hd2 : (y == ("__debug__" : Str)) = false := by decide) :
    EOk G c k (.Call (.Name "isinstance" p) [e, .Tuple [.Name x p2, .Name y p3] kt pt] [] pos) (dIsi2 T1 T2 d) := fun X U F =>
  PE.imp (pe_callB (call_isiT) (glob_of F hg) (by rw [F.mg]; exact hm) (by decide +kernel) (pa_cons (he X U F) (pa_cons (pe_tup (pa_cons (pe_bltn (v := .ty T1) (glob_of F hgx) (by rw [F.mg]; exact hx) hb rfl hn hd) (pa_cons (pe_bltn (v := .ty T2) (glob_of F hgy) (by rw [F.mg]; exact hy) hb2 rfl hn2 hd2) pa_nil))) pa_nil) (starEach_plain hp _ _)) (by decide) (by decide) (starEach_plain hp _ _)) fun σ H Q ⟨ρ, ε, S, ev, sr, q⟩ => ⟨ρ, ε, S, ev, sr, (Rg.bind q).mono fun v H1 ⟨w, S1, ρ1, e1, s1, r1, q1⟩ => by
    obtain ⟨w', S2, hw, q2⟩ := Rg.lift q1
    cases et : tyN w S1 with
    | none => rw [et] at hw; cases hw
    | some t =>
      rw [et] at hw
      cases hw
      have h1 := of_decide_eq_true (List.all_eq_true.mp hk t (tyN_mem et))
      have h2 := of_decide_eq_true (List.all_eq_true.mp hk2 t (tyN_mem et))
      refine ⟨by show 2 ≤ sizeLine; decide, fun p0 hp0 => ?_⟩
      have ex : Ext G.K H1 ρ1 (upd H1 p0 (.tup [.ty T1, .ty T2])) ρ1 := Ext.fresh hp0
      refine ⟨v, p0, [.ty T1, .ty T2], .type t, [.type T1, .type T2], isT t T1 || isT t T2, rfl, upd_same, .cons (.ty T1) (.cons (.ty T2) .nil), ?_, ?_, q2 _ ρ1 _ ex (s1.fresh hp0) (.bl _)⟩
      · rw [F.K]; exact tyN_ok (s1.fresh hp0) (r1.mono ex) et
      · refine kitAny_cons (kit_ty h1) (fun hb => ?_) fun hb => by rw [hb]; rfl
        rw [hb, Bool.false_or]
        exact kitAny_cons (kit_ty h2) (fun hb => by rw [hb]; exact kitAny_nil) fun hb => hb⟩
/-! ### int, str, list, tuple -/
def opInt : OpA := fun ws S => match ws with
  | [.int i] => some (.int i, S)
  | [.bl b] => some (.int (if b then 1 else 0), S)
  | _ => none
theorem o_int : OpAOk G (fun xs H Q => (∃ i, xs = [.int i] ∧ Q (.int i) H) ∨ ∃ k, xs = [.bl k] ∧ Q (.int (if k then 1 else 0)) H) opInt := fun H ρ S ws vs w S' Q sr r h q => by
  unfold opInt at h
  split at h
  · cases h
    cases r with
    | cons r rs =>
      cases rs
      cases r
      exact .inl ⟨_, rfl, q.flat sr (.int _)⟩
  · cases h
    cases r with
    | cons r rs =>
      cases rs
      cases r
      exact .inr ⟨_, rfl, q.flat sr (.int _)⟩
  · cases h
theorem e_intC {e : Expr} {d : DE} {p pos : Pos} (he : EOk G c k e d) (hm : G.mg "int" = none) (hg : c.sc.names.lookup ("int" : Str) = some .globalImplicit := by rfl) (hp : plainE e = true := by rfl) : EOk G c k (.Call (.Name "int" p) [e] [] pos) (dFn opInt (aCons d aNil)) :=
  e_ty (fun X U F => call_int1) o_int hm (by decide +kernel) (a_cons he a_nil hp) hg (by decide) (by decide) (fun env => starEach_plain hp _ _)
def opList : OpA := fun ws S => match ws with
  | [w] => (seqW w S).map fun l => (.ref S.length, S ++ [.lst l])
  | _ => none
theorem o_list : OpAOk G (fun xs H Q => ∃ p ys, xs = [.ref p] ∧ (SqL G.K H p ys ∨ SqT G.K H p ys) ∧ ∀ l, H l = none → Q (.ref l) (upd H l (.lst ys))) opList := fun H ρ S ws vs w S' Q sr r h q => by
  unfold opList at h
  split at h
  · rename_i w0
    cases r with
    | cons r rs =>
      cases rs
      cases e : seqW w0 S with
      | none => rw [e] at h; cases h
      | some l =>
        rw [e] at h
        cases h
        obtain ⟨a, us, rfl, t, hs⟩ := seqW_ok sr r e
        exact ⟨a, us, rfl, hs, fun p hp => q.list sr t hp⟩
  · cases h
theorem e_listC {e : Expr} {d : DE} {p pos : Pos} (he : EOk G c k e d) (hm : G.mg "list" = none) (hg : c.sc.names.lookup ("list" : Str) = some .globalImplicit := by rfl) (hp : plainE e = true := by rfl) : EOk G c k (.Call (.Name "list" p) [e] [] pos) (dFn opList (aCons d aNil)) :=
  e_ty (fun X U F => by rw [← F.K]; exact call_list_of) o_list hm (by decide +kernel) (a_cons he a_nil hp) hg (by decide) (by decide) (fun env => starEach_plain hp _ _)
def opTuple : OpA := fun ws S => match ws with
  | [w] => (seqW w S).map fun l => (.tup l, S)
  | _ => none
theorem o_tuple : OpAOk G (fun xs H Q => ∃ p ys, xs = [.ref p] ∧ ((SqL G.K H p ys ∧ ∀ l, H l = none → Q (.ref l) (upd H l (.tup ys))) ∨ (SqT G.K H p ys ∧ Q (.ref p) H))) opTuple := fun H ρ S ws vs w S' Q sr r h q => by
  unfold opTuple at h
  split at h
  · rename_i w0
    cases r with
    | cons r rs =>
      cases rs
      cases e : seqW w0 S with
      | none => rw [e] at h; cases h
      | some l =>
        rw [e] at h
        cases h
        obtain ⟨a, us, rfl, t, hs⟩ := seqW_ok sr r e
        rcases hs with hs | hs
        · exact ⟨a, us, rfl, .inl ⟨hs, fun p hp => q.tup sr t hp⟩⟩
        · exact ⟨a, us, rfl, .inr ⟨hs, q.flat sr (.tup hs t)⟩⟩
  · cases h
theorem e_tupleC {e : Expr} {d : DE} {p pos : Pos} (he : EOk G c k e d) (hm : G.mg "tuple" = none) (hg : c.sc.names.lookup ("tuple" : Str) = some .globalImplicit := by rfl) (hp : plainE e = true := by rfl) : EOk G c k (.Call (.Name "tuple" p) [e] [] pos) (dFn opTuple (aCons d aNil)) :=
  e_ty (fun X U F => by rw [← F.K]; exact call_tuple_of) o_tuple hm (by decide +kernel) (a_cons he a_nil hp) hg (by decide) (by decide) (fun env => starEach_plain hp _ _)
def opStrI : OpA := fun ws S => match ws with
  | [.int i] => if i.natAbs.log2 < 1920 then some (.str (Str.ofString (toString i)), S) else none
  | _ => none
theorem o_strI : OpAOk G (fun xs H Q => ∃ i, xs = [.int i] ∧ i.natAbs.log2 < 1920 ∧ Q (.str (toString i)) H) opStrI := fun H ρ S ws vs w S' Q sr r h q => by
  unfold opStrI at h
  split at h
  · split at h
    · rename_i hz
      cases h
      cases r with
      | cons r rs =>
        cases rs
        cases r
        exact ⟨_, rfl, hz, q.flat sr (.str (okS_of _))⟩
    · cases h
  · cases h
theorem e_strC {e : Expr} {d : DE} {p pos : Pos} (he : EOk G c k e d) (hm : G.mg "str" = none) (hg : c.sc.names.lookup ("str" : Str) = some .globalImplicit := by rfl) (hp : plainE e = true := by rfl) : EOk G c k (.Call (.Name "str" p) [e] [] pos) (dFn opStrI (aCons d aNil)) :=
  e_ty (fun X U F => call_str_int) o_strI hm (by decide +kernel) (a_cons he a_nil hp) hg (by decide) (by decide) (fun env => starEach_plain hp _ _)
/-! ### methods -/
abbrev OpM := W → List W → Store → Option (W × Store)
def tyM (T : String) (w : W) (S : Store) : Bool := match w with
  | .str _ => T == "str"
  | .rl _ => T == "list"
  | .ref n => match S[n]? with
    | some (.lst _) => T == "list"
    | some (.dct _) => T == "dict"
    | _ => false
  | _ => false
theorem tyM_ok {H : Hp} {ρ : List Addr} {S : Store} {w : W} {v : V} {T : String} (sr : SR G H ρ S) (r : VR G.K H ρ w v) (h : tyM T w S = true) : tyV G.K T v H := by
  unfold tyM at h
  cases r with
  | str hx => exact eq_of_beq h
  | rl q t => exact .inl ⟨eq_of_beq h, _, q.sq⟩
  | ref hn =>
    simp only at h
    split at h
    · rename_i e
      obtain ⟨vs, z, t⟩ := sr.ob _ _ _ hn e
      exact .inl ⟨eq_of_beq h, vs, .of z⟩
    · rename_i e
      obtain ⟨vs, z, t⟩ := sr.ob _ _ _ hn e
      exact .inr (.inr (.inl ⟨eq_of_beq h, .inl ⟨vs, z⟩⟩))
    · cases h
  | _ => cases h
def chkT (T : String) (w : W) : M Unit := fun S => if tyM T w S = true then .ok () S else .bad
theorem Rg.chkT {α β : Type} {U : WX} {σ : L2.St} {rel : Hp → List Addr → α → β → Prop} {T : String} {w : W} {f : Unit → M α} {S : Store} {H : Hp} {ρ : List Addr} {Q : β → Hp → Prop} (h : Rg G U σ rel ((N.chkT T w >>= f) S) H ρ Q) : tyM T w S = true ∧ Rg G U σ rel (f () S) H ρ Q := by
  have h' : Rg G U σ rel (M.bind (N.chkT T w) f S) H ρ Q := h
  unfold M.bind N.chkT at h'
  by_cases e : tyM T w S = true
  · rw [if_pos e] at h'
    exact ⟨e, h'⟩
  · rw [if_neg e] at h'
    exact h'.elim
def dMt (T : String) (op : OpM) (d : DE) (a : DA) : DE := fun ε => d ε >>= fun w => chkT T w >>= fun _ => a ε >>= fun ws => lift (op w ws)
def OpMOk (G : Top) (r : V → List V → Hp → VK → Prop) (op : OpM) : Prop := ∀ H ρ S a ws x xs w S' Q, SR G H ρ S → VR G.K H ρ a x → VRs G.K H ρ ws xs → op a ws S = some (w, S') → Wish G H ρ w S' Q → r x xs H Q
theorem e_mt {T id : String} {name : Str} {r : V → List V → Hp → VK → Prop} {op : OpM} {o e : Expr} {es : List Expr} {d : DE} {a : DA} {apos cpos : Pos} (pa : PlainAttrs T) (slot : Slot T name id) (hty : typeOf (.builtin id) = pure (.type "method_descriptor")) (hm : ∀ X U, Fit G c k X U → MtR X id r) (ho : OpMOk G r op) (he : EOk G c k o d) (ha : AOk G c k (e :: es) a)
    (hbase : ∀ env, attributeBase o name env (eval o env) = eval o env := by intro _; rfl)
    (hfew : ∀ env, ((backTo cpos (starEach (e :: es) env)).all (fun x => !x.1) && (backToKw cpos (keywordEach [] env)).all (fun x => x.1.isSome)
      && decide ((e :: es).length + ([] : List Keyword).length + (if ([] : List Keyword).isEmpty then 0 else 1) < 30)) = true := by intro _; rfl)
    (hline : (apos.endLine == cpos.line) = true := by rfl) (hs : ∀ env, starEach (e :: es) env = (false, eval e env) :: starEach es env := by intro _; rfl) (hpl : ∀ env, (backTo cpos (starEach es env)).any (·.1) = false := by intro _; rfl) :
    EOk G c k (.Call (.Attribute o name apos) (e :: es) [] cpos) (dMt T op d a) := fun X U F =>
  PE.imp (pe_bm pa slot hty (hm X U F) (he X U F) (ha X U F) (hbase _) (hfew _) hline (hs _) (hpl _)) fun σ H Q ⟨ρ, ε, S, ev, sr, q⟩ => ⟨ρ, ε, S, ev, sr, (Rg.bind q).mono fun x H1 ⟨w, S1, ρ1, e1, s1, r1, q1⟩ => by
    obtain ⟨ht, q2⟩ := Rg.chkT q1
    refine ⟨by rw [F.K]; exact tyM_ok s1 r1 ht, ρ1, ε, S1, ev.mono e1, s1, (Rg.bind q2).mono fun xs H2 ⟨ws, S2, ρ2, e2, s2, r2, q3⟩ => ?_⟩
    obtain ⟨w', S3, hw, q4⟩ := Rg.lift q3
    exact ho H2 ρ2 S2 w ws x xs w' S3 Q s2 (r1.mono e2) r2 hw q4⟩
theorem e_mt0 {T id : String} {name : Str} {r : V → List V → Hp → VK → Prop} {op : OpM} {o : Expr} {d : DE} {apos cpos : Pos} (pa : PlainAttrs T) (slot : Slot T name id) (hty : typeOf (.builtin id) = pure (.type "method_descriptor")) (hm : ∀ X U, Fit G c k X U → MtR X id r) (ho : OpMOk G r op) (he : EOk G c k o d)
    (hbase : ∀ env, attributeBase o name env (eval o env) = eval o env := by intro _; rfl) (hline : (apos.endLine == cpos.line) = true := by rfl) :
    EOk G c k (.Call (.Attribute o name apos) [] [] cpos) (dMt T op d aNil) := fun X U F =>
  PE.imp (pe_bm0 pa slot hty (hm X U F) (he X U F) (hbase _) hline) fun σ H Q ⟨ρ, ε, S, ev, sr, q⟩ => ⟨ρ, ε, S, ev, sr, (Rg.bind q).mono fun x H1 ⟨w, S1, ρ1, e1, s1, r1, q1⟩ => by
    obtain ⟨ht, q2⟩ := Rg.chkT q1
    have q3 : Rg G U σ (VR G.K) (lift (op w []) S1) H1 ρ1 Q := q2
    obtain ⟨w', S3, hw, q4⟩ := Rg.lift q3
    exact ⟨by rw [F.K]; exact tyM_ok s1 r1 ht, ho H1 ρ1 S1 w [] x [] w' S3 Q s1 r1 .nil hw q4⟩⟩
/-- a list of the store written -/
theorem Wish.put {H : Hp} {ρ : List Addr} {S : Store} {n : Nat} {a : Addr} {ws' : List W} {vs vs' : List V} {w : W} {v : V} {Q : VK} (q : Wish G H ρ w (S.set n (.lst ws')) Q) (sr : SR G H ρ S) (hn : ρ[n]? = some a) (h : H a = some (.lst vs)) (r' : VRs G.K H ρ ws' vs') (rw : VR G.K H ρ w v) : Q v (upd H a (.lst vs')) := by
  have e : Ext G.K H ρ (upd H a (.lst vs')) ρ := Ext.upd hn h trivial
  exact q _ ρ v e (sr.upd hn h trivial ⟨vs', upd_same, r'.mono e⟩) (rw.mono e)
def mAppend : OpM := fun a ws S => match a, ws with
  | .ref n, [w] => match S[n]? with
    | some (.lst l) => if l.length < sizeLine then some (.non, S.set n (.lst (l ++ [w]))) else none
    | _ => none
  | _, _ => none
theorem o_append : OpMOk G rAppend mAppend := fun H ρ S a ws x xs w S' Q sr ra rs h q => by
  unfold mAppend at h
  split at h
  · split at h
    · rename_i l eo
      split at h
      · rename_i hz
        cases h
        cases ra with
        | ref hn =>
          cases rs with
          | cons r rs =>
            cases rs
            obtain ⟨vs, z, t⟩ := sr.ob _ _ _ hn eo
            exact ⟨_, vs, _, rfl, rfl, z, by rw [← t.length]; exact hz, q.put sr hn z (t.append (.cons r .nil)) .non⟩
      · cases h
    · cases h
  · cases h
theorem e_append {o e : Expr} {d f : DE} {apos cpos : Pos} (he : EOk G c k o d) (ha : EOk G c k e f) (hbase : ∀ env, attributeBase o "append" env (eval o env) = eval o env := by intro _; rfl) (hline : (apos.endLine == cpos.line) = true := by rfl) (hp : plainE e = true := by rfl) :
    EOk G c k (.Call (.Attribute o "append" apos) [e] [] cpos) (dMt "list" mAppend d (aCons f aNil)) :=
  e_mt PySem.F.plainAttrs_list PySem.F.slot_list_append PySem.F.type_list_append (fun X U F => mt_append) o_append he (a_cons ha a_nil hp) hbase (fun env => by rw [starEach_plain hp]; rfl) hline (fun env => starEach_plain hp _ _)
/-- xs[i] = v -/
def setIx (o i v : W) (S : Store) : Option Store := match o, i with
  | .ref n, .int j => match S[n]? with
    | some (.lst l) => (ixN l.length j).map fun m => S.set n (.lst (l.set m v))
    | _ => none
  | _, _ => none
def dPut (d o i : DE) : DS := fun ε S => sBind (d ε) ε S fun v S1 => sBind (o ε) ε S1 fun w S2 => sBind (i ε) ε S2 fun j S3 => match setIx w j v S3 with
  | some S4 => .nx ε S4
  | none => .bad
theorem s_put {o i e : Expr} {d d0 di : DE} {spos pos : Pos} (he : EOk G c k e d) (ho : EOk G c k o d0) (hi : EOk G c k i di)
    (ha : ∀ env v, assign (.Subscript o i spos) env v = (do
      let ov ← holding [v] (eval o env)
      let iv ← holding [v, ov] (eval i env)
      standAt spos
      holding [v, ov, iv] (setItem ov iv v)
      release [v, ov, iv] []) := by intro _ _; rfl) (hs : ∀ env, swapsWithSole [.Subscript o i spos] e pos.line env = pure false := by intro _; rfl) (hw : ∀ env, swappedStores [.Subscript o i spos] e env = pure none := by intro _; rfl)
    (h1 : ∀ env, (assignEach [.Subscript o i spos] env).map (·.2) = [assign (.Subscript o i spos) env] := by intro _; rfl) : SOk G c k (.Assign [.Subscript o i spos] e pos) (dPut d d0 di) := fun X U F =>
  PS.imp (ps_asg (he X U F) (pg_sub (ho X U F) (hi X U F) set_list (ha _)) (hs _) (hw _) (h1 _)) fun D σ H ⟨ρ, ε, S, ev, sr, h⟩ => ⟨ρ, ε, S, ev, sr, (Rg_sBind ev h).mono fun v H1 ⟨wv, S1, ρ1, e1, s1, r1, q1⟩ =>
    ⟨ρ1, ε, S1, ev.mono e1, s1, (Rg_sBind (ev.mono e1) q1).mono fun x H2 ⟨wo, S2, ρ2, e2, s2, r2, q2⟩ =>
      ⟨ρ2, ε, S2, (ev.mono e1).mono e2, s2, (Rg_sBind ((ev.mono e1).mono e2) q2).mono fun y H3 ⟨wi, S3, ρ3, e3, s3, r3, q3⟩ => by
        cases hz : setIx wo wi wv S3 with
        | none => simp only [hz] at q3; exact q3.elim
        | some S4 =>
          simp only [hz] at q3
          unfold setIx at hz
          split at hz
          · split at hz
            · rename_i l eo
              cases hj : ixN l.length _ with
              | none => rw [hj] at hz; cases hz
              | some m =>
                rw [hj] at hz
                cases hz
                cases r3
                have r2' := r2.mono e3
                cases r2' with
                | ref hn =>
                  obtain ⟨vs, z, t⟩ := s3.ob _ _ _ hn eo
                  have rv := (r1.mono e2).mono e3
                  refine ⟨_, vs, _, m, rfl, rfl, z, by rw [← t.length]; exact hj, ?_⟩
                  have e : Ext G.K H3 ρ3 (upd H3 _ (.lst (vs.set m v))) ρ3 := Ext.upd hn z trivial
                  exact q3 _ ρ3 σ e (s3.upd hn z trivial ⟨_, upd_same, (t.set rv m).mono e⟩) (((ev.mono e1).mono e2).mono (e3.trans e))
            · cases hz
          · cases hz⟩⟩⟩
end
end
end N
namespace N
open PySem PySem.Spec PyProof.Rows L2
noncomputable section
section
variable {G : Top} {c : Ctx} {k : Nat}
/-! ### what is never reached -/
theorem e_bad {e : Expr} : EOk G c k e (fun _ => bad) := fun X U F => ⟨fun pins s σ H Q I ⟨ρ, ε, S, ev, sr, q⟩ => (q : False).elim⟩
theorem s_bad {st : Stmt} : SOk G c k st (fun _ _ => .bad) := fun X U F => ⟨fun pins s σ H D I ⟨ρ, ε, S, ev, sr, q⟩ => (q : False).elim⟩
theorem i_bad {tg e : Expr} : IOk G c k tg e (fun _ => bad) := fun X U F => ⟨fun pins s σ H R I ⟨ρ, ε, S, ev, sr, q⟩ => (q : False).elim⟩
/-! ### is of bools -/
def opIsB : Op2
  | .bl a, .bl b, S => some (.bl (a == b), S)
  | _, _, _ => none
theorem r_isB : ∀ X W, Fit G c k X W → OpR X (compareOp .Is) rIsB := fun X W F => op_isBl
theorem o_isB : Op2Ok G rIsB opIsB := fun H ρ S a b x y w S' Q sr ra rb h q => by
  unfold opIsB at h
  split at h
  · cases h
    cases ra; cases rb
    refine ⟨_, _, rfl, rfl, ?_⟩
    have e : ∀ a b : Bool, decide (a = b) = (a == b) := by decide
    rw [e]
    exact q.flat sr (.bl _)
  · cases h
/-! ### methods of lists -/
theorem VRs.dropLast {K : PySem.W.Frag} {H : Hp} {ρ : List Addr} {ws : List W} {vs : List V} (r : VRs K H ρ ws vs) : VRs K H ρ ws.dropLast vs.dropLast := by
  rw [List.dropLast_eq_take, List.dropLast_eq_take, r.length]
  exact r.take _
def mPop : OpM := fun a ws S => match a, ws with
  | .ref n, [] => match S[n]? with
    | some (.lst l) => (l[l.length - 1]?).map fun w => (w, S.set n (.lst l.dropLast))
    | _ => none
  | .ref n, [.int i] => match S[n]? with
    | some (.lst l) => if -(2 ^ 63) ≤ i ∧ i < 2 ^ 63 then (ixN l.length i).bind fun j => (l[j]?).map fun w => (w, S.set n (.lst (l.eraseIdx j))) else none
    | _ => none
  | _, _ => none
theorem o_pop : OpMOk G (fun x xs H Q => rPop x xs H Q ∨ rPopAt x xs H Q) mPop := fun H ρ S a ws x xs w S' Q sr ra rs h q => by
  unfold mPop at h
  split at h
  · split at h
    · rename_i l eo
      rw [Option.map_eq_some_iff] at h
      obtain ⟨w1, e1, h⟩ := h
      cases h
      cases ra with
      | ref hn =>
        cases rs
        obtain ⟨vs, z, t⟩ := sr.ob _ _ _ hn eo
        obtain ⟨y, e2, r2⟩ := t.get e1
        exact .inl ⟨_, vs, y, rfl, rfl, z, by rw [← t.length]; exact e2, q.put sr hn z t.dropLast r2⟩
    · cases h
  · split at h
    · rename_i l eo
      split at h
      · rename_i hb
        rw [Option.bind_eq_some_iff] at h
        obtain ⟨j, e0, h⟩ := h
        rw [Option.map_eq_some_iff] at h
        obtain ⟨w1, e1, h⟩ := h
        cases h
        cases ra with
        | ref hn =>
          cases rs with
          | cons r rs =>
            cases rs
            cases r
            obtain ⟨vs, z, t⟩ := sr.ob _ _ _ hn eo
            obtain ⟨y, e2, r2⟩ := t.get e1
            exact .inr ⟨_, vs, _, j, y, rfl, rfl, z, hb.1, hb.2, by rw [← t.length]; exact (ixN_seq e0).1, e2, q.put sr hn z (t.eraseIdx j) r2⟩
      · cases h
    · cases h
  · cases h
theorem mt_popB {X : Cx} : MtR X "list.pop" (fun x xs H Q => rPop x xs H Q ∨ rPopAt x xs H Q) := fun pins s σ H x vs v us Q I rx rv h => by
  rcases h with h | h
  · exact mt_pop pins s σ H x vs v us Q I rx rv h
  · exact mt_popAt pins s σ H x vs v us Q I rx rv h
theorem e_pop {o e : Expr} {d f : DE} {apos cpos : Pos} (he : EOk G c k o d) (ha : EOk G c k e f) (hbase : ∀ env, attributeBase o "pop" env (eval o env) = eval o env := by intro _; rfl) (hline : (apos.endLine == cpos.line) = true := by rfl) (hp : plainE e = true := by rfl) :
    EOk G c k (.Call (.Attribute o "pop" apos) [e] [] cpos) (dMt "list" mPop d (aCons f aNil)) :=
  e_mt PySem.F.plainAttrs_list PySem.F.slot_list_pop PySem.F.type_list_pop (fun X U F => mt_popB) o_pop he (a_cons ha a_nil hp) hbase (fun env => by rw [starEach_plain hp]; rfl) hline (fun env => starEach_plain hp _ _)
theorem e_pop0 {o : Expr} {d : DE} {apos cpos : Pos} (he : EOk G c k o d) (hbase : ∀ env, attributeBase o "pop" env (eval o env) = eval o env := by intro _; rfl) (hline : (apos.endLine == cpos.line) = true := by rfl) :
    EOk G c k (.Call (.Attribute o "pop" apos) [] [] cpos) (dMt "list" mPop d aNil) :=
  e_mt0 PySem.F.plainAttrs_list PySem.F.slot_list_pop PySem.F.type_list_pop (fun X U F => mt_popB) o_pop he hbase hline
def mInsert : OpM := fun a ws S => match a, ws with
  | .ref n, [.int i, w] => match S[n]? with
    | some (.lst l) => if l.length < sizeLine ∧ 0 ≤ i ∧ i < 2 ^ 63 then some (.non, S.set n (.lst (l.take i.toNat ++ [w] ++ l.drop i.toNat))) else none
    | _ => none
  | _, _ => none
theorem o_insert : OpMOk G (fun x vs H Q => ∃ (l : Addr) (xs : List V) (i : Int) (y : V), x = .ref l ∧ vs = [.int i, y] ∧ H l = some (.lst xs) ∧ xs.length < sizeLine ∧ 0 ≤ i ∧ i < 2 ^ 63 ∧
    Q .non (upd H l (.lst (xs.take i.toNat ++ [y] ++ xs.drop i.toNat)))) mInsert := fun H ρ S a ws x xs w S' Q sr ra rs h q => by
  unfold mInsert at h
  split at h
  · split at h
    · rename_i l eo
      split at h
      · rename_i hz
        cases h
        cases ra with
        | ref hn =>
          cases rs with
          | cons r rs =>
            cases rs with
            | cons r2 rs =>
              cases rs
              cases r
              obtain ⟨vs, z, t⟩ := sr.ob _ _ _ hn eo
              exact ⟨_, vs, _, _, rfl, rfl, z, by rw [← t.length]; exact hz.1, hz.2.1, hz.2.2, q.put sr hn z (((t.take _).append (.cons r2 .nil)).append (t.drop _)) .non⟩
      · cases h
    · cases h
  · cases h
theorem e_insert {o e e2 : Expr} {d f f2 : DE} {apos cpos : Pos} (he : EOk G c k o d) (ha : EOk G c k e f) (ha2 : EOk G c k e2 f2) (hbase : ∀ env, attributeBase o "insert" env (eval o env) = eval o env := by intro _; rfl) (hline : (apos.endLine == cpos.line) = true := by rfl) (hp : plainE e = true := by rfl) (hp2 : plainE e2 = true := by rfl) :
    EOk G c k (.Call (.Attribute o "insert" apos) [e, e2] [] cpos) (dMt "list" mInsert d (aCons f (aCons f2 aNil))) :=
  e_mt PySem.F.plainAttrs_list PySem.F.slot_list_insert PySem.F.type_list_insert (fun X U F => mt_insert) o_insert he (a_cons ha (a_cons ha2 a_nil hp2) hp) hbase (fun env => by rw [starEach_plain hp, starEach_plain hp2]; rfl) hline (fun env => starEach_plain hp _ _) (fun env => by rw [starEach_plain hp2]; rfl)
def mExtend : OpM := fun a ws S => match a, ws with
  | .ref n, [.ref m] => match S[n]?, S[m]? with
    | some (.lst l), some (.lst r) => if l.length + r.length ≤ sizeLine then some (.non, S.set n (.lst (l ++ r))) else none
    | _, _ => none
  | _, _ => none
theorem o_extend : OpMOk G rExtend mExtend := fun H ρ S a ws x xs w S' Q sr ra rs h q => by
  unfold mExtend at h
  split at h
  · split at h
    · rename_i l r0 eo eo2
      split at h
      · rename_i hz
        cases h
        cases ra with
        | ref hn =>
          cases rs with
          | cons r rs =>
            cases rs
            cases r with
            | ref hm =>
              obtain ⟨vs, z, t⟩ := sr.ob _ _ _ hn eo
              obtain ⟨vs2, z2, t2⟩ := sr.ob _ _ _ hm eo2
              exact ⟨_, _, vs, vs2, rfl, rfl, z, z2, by rw [← t.length, ← t2.length]; exact hz, q.put sr hn z (t.append t2) .non⟩
      · cases h
    · cases h
  · cases h
theorem e_extend {o e : Expr} {d f : DE} {apos cpos : Pos} (he : EOk G c k o d) (ha : EOk G c k e f) (hbase : ∀ env, attributeBase o "extend" env (eval o env) = eval o env := by intro _; rfl) (hline : (apos.endLine == cpos.line) = true := by rfl) (hp : plainE e = true := by rfl) :
    EOk G c k (.Call (.Attribute o "extend" apos) [e] [] cpos) (dMt "list" mExtend d (aCons f aNil)) :=
  e_mt PySem.F.plainAttrs_list PySem.F.slot_list_extend PySem.F.type_list_extend (fun X U F => mt_extend) o_extend he (a_cons ha a_nil hp) hbase (fun env => by rw [starEach_plain hp]; rfl) hline (fun env => starEach_plain hp _ _)
def mClear : OpM := fun a ws S => match a, ws with
  | .ref n, [] => match S[n]? with
    | some (.lst l) => some (.non, S.set n (.lst []))
    | _ => none
  | _, _ => none
theorem o_clear : OpMOk G rClear mClear := fun H ρ S a ws x xs w S' Q sr ra rs h q => by
  unfold mClear at h
  split at h
  · split at h
    · rename_i l eo
      cases h
      cases ra with
      | ref hn =>
        cases rs
        obtain ⟨vs, z, t⟩ := sr.ob _ _ _ hn eo
        exact ⟨_, vs, rfl, rfl, z, q.put sr hn z .nil .non⟩
    · cases h
  · cases h
theorem e_clear {o : Expr} {d : DE} {apos cpos : Pos} (he : EOk G c k o d) (hbase : ∀ env, attributeBase o "clear" env (eval o env) = eval o env := by intro _; rfl) (hline : (apos.endLine == cpos.line) = true := by rfl) :
    EOk G c k (.Call (.Attribute o "clear" apos) [] [] cpos) (dMt "list" mClear d aNil) :=
  e_mt0 PySem.F.plainAttrs_list PySem.F.slot_list_clear PySem.F.type_list_clear (fun X U F => mt_clear) o_clear he hbase hline
/-- the first place of an equal item -/
def findD (ds : List PyData) (d : PyData) : Option Nat := ds.findIdx? fun z => PyData.eqv z d
def mIndex : OpM := fun a ws S => match a, ws with
  | .ref n, [w] => match toD S deep (.ref n), toD S deep w with
    | some (.list ds), some d => (findD ds d).map fun j => (.int (j : Nat), S)
    | _, _ => none
  | _, _ => none
theorem o_index : OpMOk G (rIndexD G.K) mIndex := fun H ρ S a ws x xs w S' Q sr ra rs h q => by
  unfold mIndex at h
  split at h
  · split at h
    · rename_i ds d e1 e2
      rw [Option.map_eq_some_iff] at h
      obtain ⟨j, ej, h⟩ := h
      cases h
      cases rs with
      | cons r rs =>
        cases rs
        have s1 := toD_shaped sr ra e1
        have s2 := toD_shaped sr r e2
        unfold findD at ej
        rw [List.findIdx?_eq_some_iff_getElem] at ej
        obtain ⟨hj, hz, hno⟩ := ej
        cases ra with
        | ref hn =>
          refine ⟨_, _, d, ds, j, ds[j], rfl, rfl, s1.1, s2.1, s1.2, s2.2, List.getElem?_eq_getElem hj, hz, fun m z' hm ez => ?_, q.flat sr (.int _)⟩
          obtain ⟨hm2, rfl⟩ := List.getElem?_eq_some_iff.mp ez
          have := hno m hm
          simpa using this
    · cases h
  · cases h
theorem e_index {o e : Expr} {d f : DE} {apos cpos : Pos} (he : EOk G c k o d) (ha : EOk G c k e f) (hbase : ∀ env, attributeBase o "index" env (eval o env) = eval o env := by intro _; rfl) (hline : (apos.endLine == cpos.line) = true := by rfl) (hp : plainE e = true := by rfl) :
    EOk G c k (.Call (.Attribute o "index" apos) [e] [] cpos) (dMt "list" mIndex d (aCons f aNil)) :=
  e_mt PySem.F.plainAttrs_list PySem.F.slot_list_index PySem.F.type_list_index (fun X U F => by rw [← F.K]; exact mt_indexD (by have := F.room.un; omega)) o_index he (a_cons ha a_nil hp) hbase (fun env => by rw [starEach_plain hp]; rfl) hline (fun env => starEach_plain hp _ _)
/-! ### texts -/
def mJoin : OpM := fun a ws S => match a, ws with
  | .str x, [w] => (seqW w S).bind fun l => (strsOf l).bind fun ys => if (ys.map (·.length)).sum + ys.length * x.length ≤ 16777216 ∧ okS (Txt.join x ys) = true then some (.str (Txt.join x ys), S) else none
  | _, _ => none
theorem o_join : OpMOk G (fun x xs H Q => ∃ a p, ∃ ys : List Str, x = .str a ∧ xs = [.ref p] ∧ (SqL G.K H p (ys.map V.str) ∨ SqT G.K H p (ys.map V.str)) ∧
    (ys.map (·.length)).sum + ys.length * a.length ≤ 16777216 ∧ Q (.str (Txt.join a ys)) H) mJoin := fun H ρ S a ws x xs w S' Q sr ra rs h q => by
  unfold mJoin at h
  split at h
  · rw [Option.bind_eq_some_iff] at h
    obtain ⟨l, e1, h⟩ := h
    rw [Option.bind_eq_some_iff] at h
    obtain ⟨ys, e2, h⟩ := h
    split at h
    · rename_i hz
      cases h
      cases ra
      cases rs with
      | cons r rs =>
        cases rs
        obtain ⟨p, vs, rfl, t, hs⟩ := seqW_ok sr r e1
        obtain ⟨e3, _⟩ := strsOf_ok t e2
        subst e3
        exact ⟨_, p, ys, rfl, rfl, hs, hz.1, q.flat sr (.str hz.2)⟩
    · cases h
  · cases h
theorem e_join {o e : Expr} {d f : DE} {apos cpos : Pos} (he : EOk G c k o d) (ha : EOk G c k e f) (hbase : ∀ env, attributeBase o "join" env (eval o env) = eval o env := by intro _; rfl) (hline : (apos.endLine == cpos.line) = true := by rfl) (hp : plainE e = true := by rfl) :
    EOk G c k (.Call (.Attribute o "join" apos) [e] [] cpos) (dMt "str" mJoin d (aCons f aNil)) :=
  e_mt PySem.F.plainAttrs_str PySem.F.slot_str_join PySem.F.type_str_join (fun X U F => by rw [← F.K]; exact mt_join) o_join he (a_cons ha a_nil hp) hbase (fun env => by rw [starEach_plain hp]; rfl) hline (fun env => starEach_plain hp _ _)
def mSplit : OpM := fun a ws S => match a, ws with
  | .str x, [.str y] => if (y.length == 0) = false ∧ x.length + 2 ≤ sizeLine ∧ (Txt.split x y).all okS = true then some (.ref S.length, S ++ [.lst ((Txt.split x y).map W.str)]) else none
  | _, _ => none
theorem VRs.strs {K : PySem.W.Frag} {H : Hp} {ρ : List Addr} : ∀ {ys : List Str}, ys.all okS = true → VRs K H ρ (ys.map W.str) (ys.map V.str)
  | [], _ => .nil
  | y :: ys, h => by
    simp only [List.all_cons, Bool.and_eq_true] at h
    exact .cons (.str h.1) (VRs.strs h.2)
theorem o_split : OpMOk G (fun x xs H Q => ∃ a b, x = .str a ∧ xs = [.str b] ∧ (b.length == 0) = false ∧ a.length + 2 ≤ sizeLine ∧ rNewStrs (Txt.split a b) H Q) mSplit := fun H ρ S a ws x xs w S' Q sr ra rs h q => by
  unfold mSplit at h
  split at h
  · split at h
    · rename_i hz
      cases h
      cases ra
      cases rs with
      | cons r rs =>
        cases rs
        cases r
        exact ⟨_, _, rfl, rfl, hz.1, hz.2.1, fun p hp => q.list sr (VRs.strs hz.2.2) hp⟩
    · cases h
  · cases h
theorem e_split {o e : Expr} {d f : DE} {apos cpos : Pos} (he : EOk G c k o d) (ha : EOk G c k e f) (hbase : ∀ env, attributeBase o "split" env (eval o env) = eval o env := by intro _; rfl) (hline : (apos.endLine == cpos.line) = true := by rfl) (hp : plainE e = true := by rfl) :
    EOk G c k (.Call (.Attribute o "split" apos) [e] [] cpos) (dMt "str" mSplit d (aCons f aNil)) :=
  e_mt PySem.F.plainAttrs_str PySem.F.slot_str_split PySem.F.type_str_split (fun X U F => mt_split) o_split he (a_cons ha a_nil hp) hbase (fun env => by rw [starEach_plain hp]; rfl) hline (fun env => starEach_plain hp _ _)
/-! ### sorted, max, min, sum -/
def leI (i j : Int) : Bool := decide (i ≤ j)
def opSorted : OpA := fun ws S => match ws with
  | [w] => (listW w S).bind fun l => match intsOf l with
    | some ns => some (.ref S.length, S ++ [.lst ((ns.mergeSort leI).map W.int)])
    | none => none
  | _ => none
theorem leI_sorted (ns : List Int) : (ns.mergeSort leI).Pairwise (· ≤ ·) := by
  have := List.pairwise_mergeSort (le := leI) (fun a b c h1 h2 => by simp only [leI, decide_eq_true_eq] at *; omega) (fun a b => by simp only [leI, Bool.or_eq_true, decide_eq_true_eq]; omega) ns
  exact this.imp fun h => by simpa [leI] using h
theorem perm_sorted_eq : ∀ {as bs : List Int}, as.Perm bs → as.Pairwise (· ≤ ·) → bs.Pairwise (· ≤ ·) → as = bs := fun h h1 h2 =>
  h.eq_of_pairwise (fun a b _ _ => Int.le_antisymm) h1 h2
theorem o_sorted : OpAOk G (rSortedI G.K) opSorted := fun H ρ S ws vs w S' Q sr ra h q => by
  unfold opSorted at h
  split at h
  · rename_i w0
    cases ra with
    | cons r rs =>
      cases rs
      rw [Option.bind_eq_some_iff] at h
      obtain ⟨l, e1, h⟩ := h
      split at h
      · rename_i ns e2
        cases h
        obtain ⟨a, us, rfl, t, hs⟩ := listW_ok sr r e1
        have e3 := intsOf_ok t e2
        subst e3
        refine ⟨a, ns, rfl, hs, fun ns' p hp hw hn => ?_⟩
        have e : ns' = ns.mergeSort leI := perm_sorted_eq (hp.trans (List.mergeSort_perm ns leI).symm) hw (leI_sorted ns)
        subst e
        exact q.list sr (VRs.ints _) hn
      · cases h
  · cases h
theorem e_sorted {e : Expr} {d : DE} {p pos : Pos} (he : EOk G c k e d) (hm : G.mg "sorted" = none) (hg : c.sc.names.lookup ("sorted" : Str) = some .globalImplicit := by rfl) (hp : plainE e = true := by rfl) : EOk G c k (.Call (.Name "sorted" p) [e] [] pos) (dFn opSorted (aCons d aNil)) :=
  e_blt (fun X U F => by rw [← F.K]; exact cr_sortedI) o_sorted hm (by decide +kernel) (a_cons he a_nil hp) hg (by decide) (by decide) (fun env => starEach_plain hp _ _)
def maxI : List Int → Int
  | [] => 0
  | [x] => x
  | x :: y :: r => let m := maxI (y :: r); if x ≤ m then m else x
def minI : List Int → Int
  | [] => 0
  | [x] => x
  | x :: y :: r => let m := minI (y :: r); if x ≤ m then x else m
theorem maxI_spec : ∀ (ns : List Int), ns ≠ [] → maxI ns ∈ ns ∧ ∀ y ∈ ns, y ≤ maxI ns
  | [], h => absurd rfl h
  | [x], _ => ⟨List.mem_cons_self .., fun y hy => by rw [List.mem_singleton.mp hy]; exact Int.le_refl _⟩
  | x :: y :: r, _ => by
    have ih := maxI_spec (y :: r) (by simp)
    by_cases h : x ≤ maxI (y :: r)
    · have e : maxI (x :: y :: r) = maxI (y :: r) := if_pos h
      rw [e]
      exact ⟨List.mem_cons_of_mem _ ih.1, fun z hz => by
        rcases List.mem_cons.mp hz with rfl | hz
        · exact h
        · exact ih.2 z hz⟩
    · have e : maxI (x :: y :: r) = x := if_neg h
      rw [e]
      exact ⟨List.mem_cons_self .., fun z hz => by
        rcases List.mem_cons.mp hz with rfl | hz
        · exact Int.le_refl _
        · have := ih.2 z hz; omega⟩
theorem minI_spec : ∀ (ns : List Int), ns ≠ [] → minI ns ∈ ns ∧ ∀ y ∈ ns, minI ns ≤ y
  | [], h => absurd rfl h
  | [x], _ => ⟨List.mem_cons_self .., fun y hy => by rw [List.mem_singleton.mp hy]; exact Int.le_refl _⟩
  | x :: y :: r, _ => by
    have ih := minI_spec (y :: r) (by simp)
    by_cases h : x ≤ minI (y :: r)
    · have e : minI (x :: y :: r) = x := if_pos h
      rw [e]
      exact ⟨List.mem_cons_self .., fun z hz => by
        rcases List.mem_cons.mp hz with rfl | hz
        · exact Int.le_refl _
        · have := ih.2 z hz; omega⟩
    · have e : minI (x :: y :: r) = minI (y :: r) := if_neg h
      rw [e]
      exact ⟨List.mem_cons_of_mem _ ih.1, fun z hz => by
        rcases List.mem_cons.mp hz with rfl | hz
        · omega
        · exact ih.2 z hz⟩
def opMaxL : OpA := fun ws S => match ws with
  | [w] => (listW w S).bind fun l => (intsOf l).bind fun ns => if ns.isEmpty = false then some (.int (maxI ns), S) else none
  | _ => none
def opMinL : OpA := fun ws S => match ws with
  | [w] => (listW w S).bind fun l => (intsOf l).bind fun ns => if ns.isEmpty = false then some (.int (minI ns), S) else none
  | _ => none
theorem maxI_uniq {ns : List Int} {m : Int} (h : ns ≠ []) (h1 : m ∈ ns) (h2 : ∀ y ∈ ns, y ≤ m) : m = maxI ns := by
  have s := maxI_spec ns h
  have := h2 _ s.1
  have := s.2 _ h1
  omega
theorem minI_uniq {ns : List Int} {m : Int} (h : ns ≠ []) (h1 : m ∈ ns) (h2 : ∀ y ∈ ns, m ≤ y) : m = minI ns := by
  have s := minI_spec ns h
  have := h2 _ s.1
  have := s.2 _ h1
  omega
theorem o_maxL : OpAOk G (rMax G.K) opMaxL := fun H ρ S ws vs w S' Q sr ra h q => by
  unfold opMaxL at h
  split at h
  · cases ra with
    | cons r rs =>
      cases rs
      rw [Option.bind_eq_some_iff] at h
      obtain ⟨l, e1, h⟩ := h
      rw [Option.bind_eq_some_iff] at h
      obtain ⟨ns, e2, h⟩ := h
      split at h
      · rename_i hne
        cases h
        obtain ⟨a, us, rfl, t, hs⟩ := listW_ok sr r e1
        have e3 := intsOf_ok t e2
        subst e3
        have hn : ns ≠ [] := fun e => by rw [e] at hne; cases hne
        refine ⟨a, ns, rfl, hs, List.length_pos_iff.mpr hn, fun m h1 h2 => ?_⟩
        rw [maxI_uniq hn h1 h2]
        exact q.flat sr (.int _)
      · cases h
  · cases h
theorem o_minL : OpAOk G (rMin G.K) opMinL := fun H ρ S ws vs w S' Q sr ra h q => by
  unfold opMinL at h
  split at h
  · cases ra with
    | cons r rs =>
      cases rs
      rw [Option.bind_eq_some_iff] at h
      obtain ⟨l, e1, h⟩ := h
      rw [Option.bind_eq_some_iff] at h
      obtain ⟨ns, e2, h⟩ := h
      split at h
      · rename_i hne
        cases h
        obtain ⟨a, us, rfl, t, hs⟩ := listW_ok sr r e1
        have e3 := intsOf_ok t e2
        subst e3
        have hn : ns ≠ [] := fun e => by rw [e] at hne; cases hne
        refine ⟨a, ns, rfl, hs, List.length_pos_iff.mpr hn, fun m h1 h2 => ?_⟩
        rw [minI_uniq hn h1 h2]
        exact q.flat sr (.int _)
      · cases h
  · cases h
theorem e_maxL {e : Expr} {d : DE} {p pos : Pos} (he : EOk G c k e d) (hm : G.mg "max" = none) (hg : c.sc.names.lookup ("max" : Str) = some .globalImplicit := by rfl) (hp : plainE e = true := by rfl) : EOk G c k (.Call (.Name "max" p) [e] [] pos) (dFn opMaxL (aCons d aNil)) :=
  e_blt (fun X U F => by rw [← F.K]; exact cr_max F.calm) o_maxL hm (by decide +kernel) (a_cons he a_nil hp) hg (by decide) (by decide) (fun env => starEach_plain hp _ _)
theorem e_minL {e : Expr} {d : DE} {p pos : Pos} (he : EOk G c k e d) (hm : G.mg "min" = none) (hg : c.sc.names.lookup ("min" : Str) = some .globalImplicit := by rfl) (hp : plainE e = true := by rfl) : EOk G c k (.Call (.Name "min" p) [e] [] pos) (dFn opMinL (aCons d aNil)) :=
  e_blt (fun X U F => by rw [← F.K]; exact cr_min F.calm) o_minL hm (by decide +kernel) (a_cons he a_nil hp) hg (by decide) (by decide) (fun env => starEach_plain hp _ _)
theorem o_sum : OpAOk G (rSum G.K) opSum := fun H ρ S ws vs w S' Q sr ra h q => by
  unfold opSum at h
  split at h
  · cases ra with
    | cons r rs =>
      cases rs
      rw [Option.bind_eq_some_iff] at h
      obtain ⟨l, e1, h⟩ := h
      rw [Option.map_eq_some_iff] at h
      obtain ⟨ns, e2, h⟩ := h
      cases h
      obtain ⟨a, us, rfl, t, hs⟩ := listW_ok sr r e1
      have e3 := intsOf_ok t e2
      subst e3
      exact ⟨a, ns, rfl, hs, q.flat sr (.int _)⟩
  · cases h
theorem e_sum {e : Expr} {d : DE} {p pos : Pos} (he : EOk G c k e d) (hm : G.mg "sum" = none) (hg : c.sc.names.lookup ("sum" : Str) = some .globalImplicit := by rfl) (hp : plainE e = true := by rfl) : EOk G c k (.Call (.Name "sum" p) [e] [] pos) (dFn opSum (aCons d aNil)) :=
  e_blt (fun X U F => by rw [← F.K]; exact cr_sum F.calm) o_sum hm (by decide +kernel) (a_cons he a_nil hp) hg (by decide) (by decide) (fun env => starEach_plain hp _ _)
/-! ### xs[::-1] -/
def opRevL : Op1 := fun w S => (listW w S).map fun l => (.ref S.length, S ++ [.lst l.reverse])
theorem e_revL {e : Expr} {d : DE} {kk : Nat} {p1 p2 p3 pos : Pos} (he : EOk G c k e d) : EOk G c k (.Subscript e (.Slice none none (some (.UnaryOp .USub (.Constant (.int 1) kk p1) p2)) p3) pos) (dUn opRevL d) := fun X U F =>
  PE.imp (pe_revL (he X U F)) fun σ H Q ⟨ρ, ε, S, ev, sr, h⟩ => ⟨ρ, ε, S, ev, sr, (Rg.bind h).mono fun v H1 ⟨w, S1, ρ1, e1, s1, r1, q1⟩ => by
    obtain ⟨w', S2, hw, q2⟩ := Rg.lift q1
    unfold opRevL at hw
    rw [Option.map_eq_some_iff] at hw
    obtain ⟨l, e2, hw⟩ := hw
    cases hw
    obtain ⟨a, us, rfl, t, hs⟩ := listW_ok s1 r1 e2
    exact ⟨a, us, rfl, by rw [F.K]; exact hs, fun p hp => Wish.list q2 s1 t.reverse hp⟩⟩
/-! ### a = b = e -/
def dSet2 (i j : Nat) (d : DE) : DS := fun ε S => sBind (d ε) ε S fun w S' => .nx ((ε.set i (some w)).set j (some w)) S'
theorem s_set2 (i j : Nat) {x y : Str} {e : Expr} {d : DE} {px py pos : Pos} (he : EOk G c k e d) (hx : GOk G c k (.Name x px) (tgN i)) (hy : GOk G c k (.Name y py) (tgN j))
    (ha : ∀ env, (assignEach [.Name x px, .Name y py] env).map (·.2) = [assign (.Name x px) env, assign (.Name y py) env] := by intro _; rfl) (hw : ∀ env, swappedStores [.Name x px, .Name y py] e env = pure none := by intro _; rfl) : SOk G c k (.Assign [.Name x px, .Name y py] e pos) (dSet2 i j d) := fun X U F =>
  PS.imp (ps_asg2 (he X U F) (hx X U F) (hy X U F) (ha _) (hw _)) fun D σ H ⟨ρ, ε, S, ev, sr, h⟩ => ⟨ρ, ε, S, ev, sr, (Rg_sBind ev h).mono fun v H' ⟨w, S', ρ', e', s', r', q⟩ =>
    ⟨w, ε, ρ', S', _, r', ev.mono e', s', rfl, fun σ' ev' => ⟨w, _, ρ', S', _, r', ev', s', rfl, fun σ2 ev2 => q H' ρ' σ2 Ext.refl s' ev2⟩⟩⟩
/-! ### three names at once; a step -/
theorem s_par3 (i j l : Nat) {x y z : Str} {a b e : Expr} {da : DA} {px py pz pt pos : Pos} {kt k2 : Nat} {pt2 : Pos} (ha : AOk G c k [a, b, e] da) (hi : c.N[i]? = some x := by rfl) (hj : c.N[j]? = some y := by rfl) (hl : c.N[l]? = some z := by rfl) (hij : i ≠ j := by decide) (hil : i ≠ l := by decide) (hjl : j ≠ l := by decide)
    (hx : c.sc.names.lookup x = some .local := by rfl) (hy : c.sc.names.lookup y = some .local := by rfl) (hz : c.sc.names.lookup z = some .local := by rfl) (hk : c.sc.kind = .function := by rfl)
    (hw : swappedStores [.Tuple [.Name x px, .Name y py, .Name z pz] kt pt] (.Tuple [a, b, e] k2 pt2) (stdEnv c.sc) = pure (some [x, y, z]) := by rfl)
    (hs : ∀ env, swapsWithSole [.Tuple [.Name x px, .Name y py, .Name z pz] kt pt] (.Tuple [a, b, e] k2 pt2) pos.line env = pure false := by intro _; rfl) : SOk G c k (.Assign [.Tuple [.Name x px, .Name y py, .Name z pz] kt pt] (.Tuple [a, b, e] k2 pt2) pos) (dPar3 i j l da) := fun X U F =>
  PS.imp (ps_par3 F.calm F.nd (by rw [F.N]; exact hi) (by rw [F.N]; exact hj) (by rw [F.N]; exact hl) hij hil hjl (by rw [F.sc]; exact hx) (by rw [F.sc]; exact hy) (by rw [F.sc]; exact hz) (ha X U F) (by rw [swapped_std F.sc hk]; exact hw) (hs _)) fun D σ H ⟨ρ, ε, S, ev, sr, h⟩ => ⟨ρ, ε, S, ev, sr, (Rg_sBind ev h).mono fun vs H' ⟨ws, S', ρ', e', s', r', q⟩ => by
    cases r' with
    | nil => exact q.elim
    | cons r1 r' =>
      cases r' with
      | nil => exact q.elim
      | cons r2 r' =>
        cases r' with
        | nil => exact q.elim
        | cons r3 r' =>
          cases r' with
          | nil => exact ⟨_, _, _, rfl, q H' ρ' _ Ext.refl s' ((((ev.mono e').set i r1).set j r2).set l r3)⟩
          | cons _ _ => exact q.elim⟩
def dAugI (i : Nat) (f : Int → Int → Int) (d : DE) : DS := fun ε S => match ε[i]? with
  | some (some (.int a)) => sBind (d ε) ε S fun w S' => match w with
    | .int b => .nx (ε.set i (some (.int (f a b)))) S'
    | _ => .bad
  | _ => .bad
theorem s_aug (i : Nat) {x : Str} {e : Expr} {d : DE} {o : Operator} {f : Int → Int → Int} {px pos : Pos} (ho : ∀ X U, Fit G c k X U → PIp X o (ipI f)) (he : EOk G c k e d) (hN : c.N[i]? = some x := by rfl) (hx : Loc c.sc x := by first | exact Or.inl rfl | exact Or.inr rfl)
    (hf : c.fn x = true ∨ c.sc.names.lookup x = some .local := by first | exact .inl rfl | exact .inr rfl) : SOk G c k (.AugAssign (.Name x px) o e pos) (dAugI i f d) := fun X U F =>
  PS.imp (ps_aug (i := i) F.nd (by rw [F.N]; exact hN) (by rw [F.sc]; exact hx) (he X U F) (ho X U F) (hf.elim (fun z => .inl (F.fn x z)) fun z => .inr (by rw [F.sc]; exact z))) fun D σ H ⟨ρ, ε, S, ev, sr, h⟩ => by
    unfold dAugI at h
    split at h
    · rename_i a eq
      obtain ⟨v, hv, rv⟩ := ev.at_ i _ eq
      cases rv
      exact ⟨_, hv, ρ, ε, S, ev, sr, (Rg_sBind ev h).mono fun v H' ⟨w, S', ρ', e', s', r', q⟩ => by
        split at q
        · cases r'
          exact ⟨_, _, rfl, rfl, q H' ρ' _ Ext.refl s' ((ev.mono e').set i (.int _))⟩
        · exact q.elim⟩
    · exact h.elim
theorem s_augAdd (i : Nat) {x : Str} {e : Expr} {d : DE} {px pos : Pos} (he : EOk G c k e d) (hN : c.N[i]? = some x := by rfl) (hx : Loc c.sc x := by first | exact Or.inl rfl | exact Or.inr rfl)
    (hf : c.fn x = true ∨ c.sc.names.lookup x = some .local := by first | exact .inl rfl | exact .inr rfl) : SOk G c k (.AugAssign (.Name x px) .Add e pos) (dAugI i (fun a b => a + b) d) := s_aug i (fun X U F => ip_add) he hN hx hf
theorem s_augSub (i : Nat) {x : Str} {e : Expr} {d : DE} {px pos : Pos} (he : EOk G c k e d) (hN : c.N[i]? = some x := by rfl) (hx : Loc c.sc x := by first | exact Or.inl rfl | exact Or.inr rfl)
    (hf : c.fn x = true ∨ c.sc.names.lookup x = some .local := by first | exact .inl rfl | exact .inr rfl) : SOk G c k (.AugAssign (.Name x px) .Sub e pos) (dAugI i (fun a b => a - b) d) := s_aug i (fun X U F => ip_sub) he hN hx hf
end
end
end N
namespace N
open PySem PySem.Spec PyProof.Rows L2
noncomputable section
theorem PE.or {X : Cx} {e : Expr} {t t' : TE} (h : PE X e t) (h' : PE X e t') : PE X e (fun σ H Q => t σ H Q ∨ t' σ H Q) := ⟨fun pins s σ H Q I q => q.elim (h.run pins s σ H Q I) (h'.run pins s σ H Q I)⟩
theorem PS.or {X : Cx} {e : Stmt} {t t' : TS} (h : PS X e t) (h' : PS X e t') : PS X e (fun D σ H => t D σ H ∨ t' D σ H) := ⟨fun pins s σ H D I q => q.elim (h.run pins s σ H D I) (h'.run pins s σ H D I)⟩
/-- a key -/
def keyW : W → Option Key
  | .int i => some (.inl i)
  | .str x => some (.inr x)
  | _ => none
def getW (kvs : List (Key × W)) (k : Key) : Option W := (kvs.find? fun kv => decide (kv.1 = k)).map (·.2)
def putW (kvs : List (Key × W)) (k : Key) (v : W) : List (Key × W) :=
  if (kvs.any fun kv => decide (kv.1 = k)) = true then kvs.map (fun kv => if kv.1 = k then (kv.1, v) else kv) else kvs ++ [(k, v)]
section
variable {K : PySem.W.Frag} {H : Hp} {ρ : List Addr}
theorem keyW_ok {w : W} {v : V} {k : Key} (r : VR K H ρ w v) (e : keyW w = some k) : v = kV k := by
  unfold keyW at e
  cases r with
  | int i => cases e; rfl
  | str h => cases e; rfl
  | _ => cases e
theorem getW_ok {k : Key} : ∀ {kvs : List (Key × W)} {l : List (Key × V)}, FR K H ρ kvs l → match getW kvs k with
    | some w => ∃ v, valV l k = some v ∧ VR K H ρ w v
    | none => valV l k = none
  | _, _, .nil => rfl
  | p :: kvs, q :: l, .cons h t => by
    have ih := getW_ok (k := k) t
    by_cases e : p.1 = k
    · have e1 : getW (p :: kvs) k = some p.2 := by simp [getW, List.find?_cons, e]
      rw [e1]
      exact ⟨q.2, valV_pos (h.1 ▸ e), h.2⟩
    · have e1 : getW (p :: kvs) k = getW kvs k := by simp [getW, List.find?_cons, e]
      rw [e1, valV_neg (by rw [← h.1]; exact e)]
      exact ih
theorem any_same {k : Key} : ∀ {kvs : List (Key × W)} {l : List (Key × V)}, FR K H ρ kvs l → (kvs.any fun kv => decide (kv.1 = k)) = (l.any fun kv => decide (kv.1 = k))
  | _, _, .nil => rfl
  | p :: kvs, q :: l, .cons h t => by
    rw [List.any_cons, List.any_cons, any_same t, h.1]
theorem map_put {k : Key} {w : W} {v : V} (r : VR K H ρ w v) : ∀ {kvs : List (Key × W)} {l : List (Key × V)}, FR K H ρ kvs l → FR K H ρ (kvs.map fun kv => if kv.1 = k then (kv.1, w) else kv) (l.map fun kv => if kv.1 = k then (kv.1, v) else kv)
  | _, _, .nil => .nil
  | p :: kvs, q :: l, .cons h t => by
    refine .cons ?_ (map_put r t)
    dsimp only
    by_cases e : p.1 = k
    · rw [if_pos e, if_pos (h.1 ▸ e)]
      exact ⟨h.1, r⟩
    · rw [if_neg e, if_neg (by rw [← h.1]; exact e)]
      exact h
theorem FR.snoc {κ : Type} {p : κ × W} {q : κ × V} (r : p.1 = q.1 ∧ VR K H ρ p.2 q.2) : ∀ {kvs : List (κ × W)} {l : List (κ × V)}, FR K H ρ kvs l → FR K H ρ (kvs ++ [p]) (l ++ [q])
  | _, _, .nil => .cons r .nil
  | _, _, .cons h t => .cons h (FR.snoc r t)
theorem putW_ok {k : Key} {w : W} {v : V} {kvs : List (Key × W)} {l : List (Key × V)} (h : FR K H ρ kvs l) (r : VR K H ρ w v) : FR K H ρ (putW kvs k w) (putK l k v) := by
  unfold putW putK
  rw [any_same h]
  split
  · exact map_put r h
  · exact FR.snoc ⟨rfl, r⟩ h
theorem FR.length {κ : Type} : ∀ {kvs : List (κ × W)} {l : List (κ × V)}, FR K H ρ kvs l → kvs.length = l.length
  | _, _, .nil => rfl
  | _, _, .cons _ t => congrArg Nat.succ (FR.length t)
end
section
variable {G : Top} {c : Ctx} {k : Nat}
/-! ### d[y] -/
def opIxD : Op2 := fun a i S => match a with
  | .ref n => match S[n]? with
    | some (.dct kvs) => (keyW i).bind fun y => (getW kvs y).map fun w => (w, S)
    | _ => opIx a i S
  | _ => opIx a i S
theorem getW_some {K : PySem.W.Frag} {H : Hp} {ρ : List Addr} {kvs : List (Key × W)} {l : List (Key × V)} {k : Key} {w : W} (h : FR K H ρ kvs l) (e : getW kvs k = some w) : ∃ v, valV l k = some v ∧ VR K H ρ w v := by
  have := getW_ok (k := k) h
  rw [e] at this
  exact this
theorem e_ixD {a i : Expr} {d e : DE} {pos : Pos} (ha : EOk G c k a d) (hi : EOk G c k i e) (h0 : EOk G c k (.Subscript a i pos) (dOp opIx d e)) (hs : NoSl i := by intro _ _; rfl) : EOk G c k (.Subscript a i pos) (dOp opIxD d e) := fun X U F =>
  PE.imp (PE.or (h0 X U F) (pe_dget (by have := F.room.un; omega) (ha X U F) (hi X U F) hs)) fun σ H Q ⟨ρ, ε, S, ev, sr, h⟩ => by
    have h' : Rg G U σ (VR G.K) (M.bind (d ε) (fun x => M.bind (e ε) (fun y => lift (opIxD x y))) S) H ρ Q := h
    unfold M.bind at h'
    cases q : d ε S with
    | bad => rw [q] at h'; exact h'.elim
    | exc x S1 =>
      rw [q] at h'
      refine .inl ⟨ρ, ε, S, ev, sr, ?_⟩
      show Rg G U σ (VR G.K) (M.bind (d ε) (fun x => M.bind (e ε) (fun y => lift (opIx x y))) S) H ρ Q
      unfold M.bind
      rw [q]
      exact h'
    | ok w S1 =>
      rw [q] at h'
      simp only at h'
      cases q2 : e ε S1 with
      | bad => rw [q2] at h'; exact h'.elim
      | exc x S2 =>
        rw [q2] at h'
        refine .inl ⟨ρ, ε, S, ev, sr, ?_⟩
        show Rg G U σ (VR G.K) (M.bind (d ε) (fun x => M.bind (e ε) (fun y => lift (opIx x y))) S) H ρ Q
        unfold M.bind
        rw [q]
        simp only
        rw [q2]
        exact h'
      | ok b S2 =>
        rw [q2] at h'
        simp only at h'
        by_cases hd : ∃ n kvs, w = .ref n ∧ S2[n]? = some (.dct kvs)
        · obtain ⟨n, kvs, rfl, eo⟩ := hd
          refine .inr ⟨ρ, ε, S, ev, sr, Rg.okD q fun H1 ρ1 x e1 s1 r1 => ⟨ρ1, ε, S1, ev.mono e1, s1, Rg.okD q2 fun H2 ρ2 y e2 s2 r2 => ?_⟩⟩
          have r1' := r1.mono e2
          cases r1' with
          | ref hn =>
            obtain ⟨l, z, fr⟩ := s2.ob _ _ _ hn eo
            have e3 : opIxD (.ref n) b S2 = (keyW b).bind fun y => (getW kvs y).map fun w => (w, S2) := by
              unfold opIxD
              simp only [eo]
            unfold lift at h'
            rw [e3] at h'
            cases ek : keyW b with
            | none => rw [ek] at h'; exact h'.elim
            | some ky =>
              rw [ek] at h'
              cases ew : getW kvs ky with
              | none => simp only [Option.bind_some, ew, Option.map_none] at h'; exact h'.elim
              | some w1 =>
                simp only [Option.bind_some, ew, Option.map_some] at h'
                obtain ⟨v1, ev1, rv1⟩ := getW_some fr ew
                have hk := keyW_ok r2 ek
                subst hk
                refine ⟨_, v1, rfl, ev1 ▸ DGet.k z, ?_⟩
                have h2 : ∀ H' ρ' b, Ext G.K H ρ H' ρ' → SR G H' ρ' S2 → VR G.K H' ρ' w1 b → Q b H' := h'
                exact h2 _ _ _ (e1.trans e2) s2 rv1
        · have e3 : opIxD w b S2 = opIx w b S2 := by
            unfold opIxD
            split
            · rename_i n
              split
              · rename_i kvs eo
                exact absurd ⟨n, kvs, rfl, eo⟩ hd
              · rfl
            · rfl
          refine .inl ⟨ρ, ε, S, ev, sr, ?_⟩
          show Rg G U σ (VR G.K) (M.bind (d ε) (fun x => M.bind (e ε) (fun y => lift (opIx x y))) S) H ρ Q
          unfold M.bind
          rw [q]
          simp only
          rw [q2]
          simp only
          unfold lift at h' ⊢
          rw [e3] at h'
          exact h'
/-- {} -/
def dDict0 : DE := fun _ => alloc (.dct [])
theorem e_dict0 {pos : Pos} : EOk G c k (.Dict [] [] pos) dDict0 := fun X U F =>
  PE.imp pe_dnewK fun σ H Q ⟨ρ, ε, S, ev, sr, h⟩ p hp => by
    have h2 : ∀ H' ρ' b, Ext G.K H ρ H' ρ' → SR G H' ρ' (S ++ [.dct []]) → VR G.K H' ρ' (.ref S.length) b → Q b H' := h
    have e : Ext G.K H ρ (upd H p (.dK [])) (ρ ++ [p]) := Ext.snoc hp
    refine h2 _ _ _ e (sr.snoc hp ⟨[], upd_same, .nil⟩) (.ref ?_)
    rw [← sr.len, List.getElem?_append_right (Nat.le_refl _)]
    simp
/-! ### d[y] = v -/
def setIxD (o i v : W) (S : Store) : Option Store := match o with
  | .ref n => match S[n]? with
    | some (.dct kvs) => (keyW i).bind fun y => if kvs.length < sizeLine then some (S.set n (.dct (putW kvs y v))) else none
    | _ => setIx o i v S
  | _ => setIx o i v S
def dPutD (d o i : DE) : DS := fun ε S => sBind (d ε) ε S fun v S1 => sBind (o ε) ε S1 fun w S2 => sBind (i ε) ε S2 fun j S3 => match setIxD w j v S3 with
  | some S4 => .nx ε S4
  | none => .bad
theorem s_putD {o i e : Expr} {d d0 di : DE} {spos pos : Pos} (he : EOk G c k e d) (ho : EOk G c k o d0) (hi : EOk G c k i di) (h0 : SOk G c k (.Assign [.Subscript o i spos] e pos) (dPut d d0 di))
    (hs : ∀ env, swapsWith e (some (.Subscript o i spos)) pos.line env = pure false := by intro _; rfl) : SOk G c k (.Assign [.Subscript o i spos] e pos) (dPutD d d0 di) := fun X U F =>
  PS.imp (PS.or (h0 X U F) (ps_dput (by have := F.room.un; omega) (ho X U F) (hi X U F) (he X U F) (hs _))) fun D σ H ⟨ρ, ε, S, ev, sr, h⟩ => by
    unfold dPutD sBind at h
    cases q : d ε S with
    | bad => rw [q] at h; exact h.elim
    | exc x S1 =>
      rw [q] at h
      refine .inl ⟨ρ, ε, S, ev, sr, ?_⟩
      unfold dPut sBind
      rw [q]
      exact h
    | ok v S1 =>
      rw [q] at h
      simp only at h
      cases q2 : d0 ε S1 with
      | bad => rw [q2] at h; exact h.elim
      | exc x S2 =>
        rw [q2] at h
        refine .inl ⟨ρ, ε, S, ev, sr, ?_⟩
        unfold dPut sBind
        rw [q]
        simp only
        rw [q2]
        exact h
      | ok w S2 =>
        rw [q2] at h
        simp only at h
        cases q3 : di ε S2 with
        | bad => rw [q3] at h; exact h.elim
        | exc x S3 =>
          rw [q3] at h
          refine .inl ⟨ρ, ε, S, ev, sr, ?_⟩
          unfold dPut sBind
          rw [q]
          simp only
          rw [q2]
          simp only
          rw [q3]
          exact h
        | ok b S3 =>
          rw [q3] at h
          simp only at h
          by_cases hd : ∃ n kvs, w = .ref n ∧ S3[n]? = some (.dct kvs)
          · obtain ⟨n, kvs, rfl, eo⟩ := hd
            have e3 : setIxD (.ref n) b v S3 = (keyW b).bind fun y => if kvs.length < sizeLine then some (S3.set n (.dct (putW kvs y v))) else none := by
              unfold setIxD
              simp only [eo]
            rw [e3] at h
            cases ek : keyW b with
            | none => rw [ek] at h; exact h.elim
            | some ky =>
              rw [ek] at h
              simp only [Option.bind_some] at h
              by_cases hl : kvs.length < sizeLine
              · rw [if_pos hl] at h
                refine .inr ⟨ρ, ε, S, ev, sr, Rg.okD q fun H1 ρ1 y1 e1 s1 r1 => ⟨ρ1, ε, S1, ev.mono e1, s1, Rg.okD q2 fun H2 ρ2 x e2 s2 r2 => ⟨ρ2, ε, S2, (ev.mono e1).mono e2, s2, Rg.okD q3 fun H3 ρ3 y e4 s3 r3 => ?_⟩⟩⟩
                have r2' := r2.mono e4
                cases r2' with
                | ref hn =>
                  obtain ⟨l, z, fr⟩ := s3.ob _ _ _ hn eo
                  have hk := keyW_ok r3 ek
                  subst hk
                  have rv := (r1.mono e2).mono e4
                  have e5 : Ext G.K H3 ρ3 (upd H3 _ (.dK (putK l ky y1))) ρ3 := Ext.upd hn z trivial
                  refine ⟨_, _, rfl, DPut.k z (by rw [← FR.length fr]; exact hl), ?_⟩
                  exact h _ ρ3 σ (e1.trans (e2.trans (e4.trans e5))) (s3.upd hn z trivial ⟨_, upd_same, FR.mono e5 (putW_ok fr rv)⟩) ((((ev.mono e1).mono e2).mono e4).mono e5)
              · rw [if_neg hl] at h; exact h.elim
          · have e3 : setIxD w b v S3 = setIx w b v S3 := by
              unfold setIxD
              split
              · rename_i n
                split
                · rename_i kvs eo
                  exact absurd ⟨n, kvs, rfl, eo⟩ hd
                · rfl
              · rfl
            refine .inl ⟨ρ, ε, S, ev, sr, ?_⟩
            unfold dPut sBind
            rw [q]
            simp only
            rw [q2]
            simp only
            rw [q3]
            simp only
            rw [e3] at h
            exact h
/-! ### sorted: texts, a dict's keys -/
/-- the one sorted list of these texts -/
def sortStrs (ks : List Str) : Option (List Str) := open Classical in
  if h : ∃ ys : List Str, ys.Perm ks ∧ sortedS ys = true ∧ ∀ zs : List Str, zs.Perm ks → sortedS zs = true → zs = ys then some h.choose else none
theorem sortStrs_of {ks ys : List Str} (h1 : ys.Perm ks) (h2 : sortedS ys = true) (h3 : ∀ zs : List Str, zs.Perm ks → sortedS zs = true → zs = ys) : sortStrs ks = some ys := by
  have h : ∃ ys : List Str, ys.Perm ks ∧ sortedS ys = true ∧ ∀ zs : List Str, zs.Perm ks → sortedS zs = true → zs = ys := ⟨ys, h1, h2, h3⟩
  unfold sortStrs
  rw [dif_pos h]
  exact congrArg some (h3 _ h.choose_spec.1 h.choose_spec.2.1)
theorem sortStrs_spec {ks ys zs : List Str} (e : sortStrs ks = some ys) (h1 : zs.Perm ks) (h2 : sortedS zs = true) : zs = ys := by
  unfold sortStrs at e
  split at e
  · rename_i h
    cases e
    exact h.choose_spec.2.2 zs h1 h2
  · cases e
def keyStrs : List Key → Option (List Str)
  | [] => some []
  | .inr x :: ks => (keyStrs ks).map (x :: ·)
  | .inl _ :: _ => none
theorem keyStrs_ok : ∀ {ks : List Key} {xs : List Str}, keyStrs ks = some xs → ks = xs.map Sum.inr
  | [], xs, e => by cases e; rfl
  | .inr x :: ks, xs, e => by
    unfold keyStrs at e
    rw [Option.map_eq_some_iff] at e
    obtain ⟨ys, e1, rfl⟩ := e
    rw [keyStrs_ok e1]; rfl
  | .inl _ :: _, _, e => by cases e
/-- sorted(x): a list of texts (fewer than 64), or a dict's keys -/
def opSortS : OpA := fun ws S => match ws with
  | [.ref n] => match S[n]? with
    | some (.dct kvs) => (keyStrs (kvs.map (·.1))).bind fun ks => if ks.length < 64 ∧ ks.all okS = true then (sortStrs ks).map fun ys => (.ref S.length, S ++ [.lst (ys.map W.str)]) else none
    | some (.lst l) => (strsOf l).bind fun ks => if ks.length < 64 then (sortStrs ks).map fun ys => (.ref S.length, S ++ [.lst (ys.map W.str)]) else none
    | _ => none
  | _ => none
theorem keys_same {K : PySem.W.Frag} {H : Hp} {ρ : List Addr} : ∀ {kvs : List (Key × W)} {l : List (Key × V)}, FR K H ρ kvs l → kvs.map (·.1) = l.map (·.1)
  | _, _, .nil => rfl
  | _, _, .cons h t => by rw [List.map_cons, List.map_cons, keys_same t, h.1]
theorem all_perm {ks ys : List Str} (h : ys.Perm ks) (e : ks.all okS = true) : ys.all okS = true := by
  rw [List.all_eq_true] at e ⊢
  exact fun x hx => e x (h.mem_iff.mp hx)
theorem sortStrs_perm {ks ys : List Str} (e : sortStrs ks = some ys) : ys.Perm ks := by
  unfold sortStrs at e
  split at e
  · rename_i h; cases e; exact h.choose_spec.1
  · cases e
theorem o_sortS : OpAOk G (fun xs H Q => rSortedS G.K xs H Q ∨ ∃ (a : Addr) (kvs : List (Key × V)) (ks : List Str), xs = [.ref a] ∧ Rd H a (.dK kvs) ∧ kvs.map (·.1) = ks.map Sum.inr ∧ ks.length < 64 ∧
    ∀ ys p, ys.Perm ks → sortedS ys = true → H p = none → Q (.ref p) (upd H p (.lst (ys.map V.str)))) opSortS := fun H ρ S ws vs w S' Q sr ra h q => by
  unfold opSortS at h
  split at h
  · rename_i n
    cases ra with
    | cons r rs =>
      cases rs
      cases r with
      | ref hn =>
        split at h
        · rename_i kvs eo
          rw [Option.bind_eq_some_iff] at h
          obtain ⟨ks, e1, h⟩ := h
          split at h
          · rename_i hz
            rw [Option.map_eq_some_iff] at h
            obtain ⟨ys, e2, h⟩ := h
            cases h
            obtain ⟨l, z, fr⟩ := sr.ob _ _ _ hn eo
            refine .inr ⟨_, l, ks, rfl, .inl z, by rw [← keys_same fr]; exact keyStrs_ok e1, hz.1, fun zs p hp hs hn => ?_⟩
            have := sortStrs_spec e2 hp hs
            subst this
            exact q.list sr (VRs.strs (all_perm hp hz.2)) hn
          · cases h
        · rename_i l eo
          rw [Option.bind_eq_some_iff] at h
          obtain ⟨ks, e1, h⟩ := h
          split at h
          · rename_i hz
            rw [Option.map_eq_some_iff] at h
            obtain ⟨ys, e2, h⟩ := h
            cases h
            obtain ⟨vs, z, t⟩ := sr.ob _ _ _ hn eo
            obtain ⟨e3, hok⟩ := strsOf_ok t e1
            subst e3
            refine .inl ⟨_, ks, rfl, .of z, hz, fun zs p hp hs hn => ?_⟩
            have := sortStrs_spec e2 hp hs
            subst this
            exact q.list sr (VRs.strs (all_perm hp (List.all_eq_true.mpr hok))) hn
          · cases h
        · cases h
  · cases h
theorem e_sortS {e : Expr} {d : DE} {p pos : Pos} (he : EOk G c k e d) (hm : G.mg "sorted" = none) (hg : c.sc.names.lookup ("sorted" : Str) = some .globalImplicit := by rfl) (hp : plainE e = true := by rfl) : EOk G c k (.Call (.Name "sorted" p) [e] [] pos) (dFn opSortS (aCons d aNil)) :=
  e_blt (fun X U F => fun pins s σ H xs us Q I r q => by
    rcases q with q | q
    · exact cr_sortedS pins s σ H xs us Q I r (by rw [F.K]; exact q)
    · exact call_sortedD F.calm pins s σ H xs us Q I r q) o_sortS hm (by decide +kernel) (a_cons he a_nil hp) hg (by decide) (by decide) (fun env => starEach_plain hp _ _)
end
end
end N
namespace N
open PySem PySem.Spec PyProof.Rows L2
noncomputable section
section
variable {G : Top} {c : Ctx} {k : Nat}
/-- hi, hi - 1, .. (n of them) -/
def dngW (hi : Int) (n : Nat) : List W := (List.range n).map fun i : Nat => W.int (hi - (i : Int))
def dRng3 (a : DA) : DI := fun ε => a ε >>= fun ws => fun S => match ws with
  | [.int i, .int j, .int c] => if c = -1 ∧ (bnd i && bnd j) = true then .ok ⟨dngW i (i - j).toNat, fun _ => True⟩ S else .bad
  | _ => .bad
theorem good_dng {H : Hp} {ρ : List Addr} (lo : Int) (n : Nat) : Good G H ρ ⟨dngW lo n, fun _ => True⟩ (Itc lo (-1) n) := fun H2 ρ2 S2 e sr g => by
  refine ⟨fun i w hi => ?_, ?_⟩
  · unfold dngW at hi
    rw [List.getElem?_map] at hi
    have hl : i < n := by
      have := (List.getElem?_eq_some_iff.mp (show ((List.range n).map fun i : Nat => W.int (lo - (i : Int)))[i]? = some w by rw [List.getElem?_map]; exact hi)).1
      simpa using this
    rw [List.getElem?_range hl] at hi
    cases hi
    refine ⟨hl, fun v H3 hy => ?_⟩
    obtain ⟨rfl, rfl⟩ := hy
    refine ⟨Ext.refl, sr, ?_⟩
    rw [show lo + (i : Int) * -1 = lo - (i : Int) by omega]
    exact .int _
  · show n ≤ (dngW lo n).length
    simp [dngW]
theorem i_rng3 {tg e f g3 : Expr} {d g d3 : DE} {p pos : Pos} (he : EOk G c k e d) (hf : EOk G c k f g) (h3 : EOk G c k g3 d3) (hm : G.mg "range" = none) (hg : c.sc.names.lookup ("range" : Str) = some .globalImplicit := by rfl) (hp : plainE e = true := by rfl) (hq : plainE f = true := by rfl) (hr : plainE g3 = true := by rfl) : IOk G c k tg (.Call (.Name "range" p) [e, f, g3] [] pos) (dRng3 (aCons d (aCons g (aCons d3 aNil)))) := fun X U F =>
  PI.imp (pi_range3 (glob_of F hg) (by rw [F.mg]; exact hm) (a_cons he (a_cons hf (a_cons h3 a_nil hr) hq) hp X U F) (starEach_plain hp _ _) (by rw [starEach_plain hq, starEach_plain hr]; rfl)) fun σ H Q ⟨ρ, ε, S, ev, sr, h⟩ => ⟨ρ, ε, S, ev, sr, (Rg.bind h).mono fun vs H1 ⟨ws, S1, ρ1, e1, s1, r1, h1⟩ => by
    split at h1
    · rename_i i j c0
      cases r1 with
      | cons r rs =>
        cases rs with
        | cons r2 rs =>
          cases rs with
          | cons r3 rs =>
            cases rs
            cases r
            cases r2
            cases r3
            split at h1
            · rename_i hb
              obtain ⟨hc, hb⟩ := hb
              subst hc
              rw [Bool.and_eq_true] at hb
              have h2 := of_decide_eq_true hb.1
              have h3 := of_decide_eq_true hb.2
              exact ⟨i, j, -1, (i - j).toNat, rfl, RgC.neg h2.1 h2.2 h3.1 h3.2, h1 H1 ρ1 _ Ext.refl s1 (good_dng i (i - j).toNat)⟩
            · exact h1.elim
    · exact h1.elim⟩
end
end
/-! ### a, b = constants -/
theorem swapped_fold {ts vs : List Expr} {k k2 : Nat} {p p2 : Pos} {env : Env} (h : vs.all (foldedForSure 8) = true) : swappedStores [.Tuple ts k p] (.Tuple vs k2 p2) env = pure none := by
  unfold swappedStores
  simp only [h, if_true]
  repeat' split
  all_goals rfl
/-! ### plain rules -/
theorem dngW_len {hi : Int} {n : Nat} : (dngW hi n).length = n := by simp [dngW]
theorem dngW_get {hi : Int} {n i : Nat} {w : W} (h : (dngW hi n)[i]? = some w) : i < n ∧ w = .int (hi - (i : Int)) := by
  have hl : i < n := by simpa [dngW] using (List.getElem?_eq_some_iff.mp h).1
  unfold dngW at h
  rw [List.getElem?_map, List.getElem?_range hl] at h
  exact ⟨hl, by simpa using h.symm⟩
end N
namespace N
open PySem PySem.Spec PyProof.Rows L2
noncomputable section
section
variable {G : Top} {c : Ctx} {k : Nat}
/-! ### {x: i} -/
def dDict1 (x : Str) (i : Int) : DE := fun _ => alloc (.dct [(.inr x, .int i)])
theorem upd_twice {H : Hp} {p : Addr} {a b : HO} : upd (upd H p a) p b = upd H p b := by
  funext q
  unfold upd
  split <;> rfl
theorem e_dict1 {x : Str} {i : Int} {j j' : Nat} {p p' pos : Pos} : EOk G c k (.Dict [some (.Constant (.str x) j p)] [.Constant (.int i) j' p'] pos) (dDict1 x i) := fun X U F =>
  PE.imp (pe_disp (pps_cons pe_str pe_int pps_nil) rfl rfl (by simp) (by simp)) fun σ H Q ⟨ρ, ε, S, ev, sr, h⟩ q hq => by
    have h2 : ∀ H' ρ' b, Ext G.K H ρ H' ρ' → SR G H' ρ' (S ++ [.dct [(.inr x, .int i)]]) → VR G.K H' ρ' (.ref S.length) b → Q b H' := h
    refine ⟨upd_same, [(.inr x, .int i)], rfl, by simp, ?_⟩
    rw [upd_twice]
    have e : Ext G.K H ρ (upd H q (.dK [(.inr x, .int i)])) (ρ ++ [q]) := Ext.snoc hq
    refine h2 _ _ _ e (sr.snoc hq ⟨_, upd_same, .cons ⟨rfl, .int i⟩ .nil⟩) (.ref ?_)
    rw [← sr.len, List.getElem?_append_right (Nat.le_refl _)]
    simp
/-! ### data with dicts of flat values in it -/
def kD : Key → PyData
  | .inl i => .int i
  | .inr x => .str x
def kOk : Key → Bool
  | .inl _ => true
  | .inr x => okS x
def flD : W → Option PyData
  | .non => some .none
  | .bl b => some (.bool b)
  | .int i => some (.int i)
  | .str x => some (.str x)
  | _ => none
def pairD (kv : Key × W) : Option (PyData × PyData) := if kOk kv.1 = true then (flD kv.2).map fun d => (kD kv.1, d) else none
def toD1 (S : Store) (w : W) : Option PyData := match toD S deep w with
  | some d => some d
  | none => match w with
    | .ref n => match S[n]? with
      | some (.dct kvs) => (mapO pairD kvs).map .dict
      | _ => none
    | _ => none
inductive FlV : V → PyData → Prop
  | non : FlV .non .none
  | bl (b : Bool) : FlV (.bl b) (.bool b)
  | int (i : Int) : FlV (.int i) (.int i)
  | str (x : Str) : FlV (.str x) (.str x)
inductive FlKv : List (Key × V) → List (PyData × PyData) → Prop
  | nil : FlKv [] []
  | cons {y : Key} {v : V} {d : PyData} {l : List (Key × V)} {m : List (PyData × PyData)} : FlV v d → FlKv l m → FlKv ((y, v) :: l) ((kD y, d) :: m)
/-- data without dicts, or a dict of flat values -/
def D1 (K : PySem.W.Frag) (H : Hp) (v : V) (d : PyData) : Prop := (Dp K H v d ∧ d.canLay0 = true ∧ d.depth ≤ 50) ∨ ∃ a l m, v = .ref a ∧ d = .dict m ∧ H a = some (.dK l) ∧ FlKv l m ∧ PyData.depthKv m = 0
inductive D1All (K : PySem.W.Frag) (H : Hp) : List V → List PyData → Prop
  | nil : D1All K H [] []
  | cons {v : V} {vs : List V} {d : PyData} {ds : List PyData} : D1 K H v d → D1All K H vs ds → D1All K H (v :: vs) (d :: ds)
theorem flD_ok {H : Hp} {ρ : List Addr} {w : W} {v : V} {d : PyData} (r : VR G.K H ρ w v) (e : flD w = some d) : FlV v d ∧ okS d.shown = true ∧ d.depth = 0 := by
  cases r with
  | non => cases e; exact ⟨.non, by rw [PyData.shown_none]; exact okS_of _, rfl⟩
  | bl b => cases e; exact ⟨.bl b, by rw [PyData.shown_bool]; split <;> exact okS_of _, rfl⟩
  | int i => cases e; exact ⟨.int i, by rw [PyData.shown_int]; exact okS_of _, rfl⟩
  | str hx => cases e; exact ⟨.str _, by rw [PyData.shown_str]; exact okS_repr hx, rfl⟩
  | ref _ => cases e
  | tup _ _ => cases e
  | rl _ _ => cases e
theorem kD_ok {y : Key} (h : kOk y = true) : okS (kD y).shown = true ∧ (kD y).depth = 0 := by
  cases y with
  | inl i => exact ⟨by unfold kD; rw [PyData.shown_int]; exact okS_of _, rfl⟩
  | inr x => exact ⟨by unfold kD; rw [PyData.shown_str]; exact okS_repr h, rfl⟩
theorem pairs_ok {H : Hp} {ρ : List Addr} : ∀ {kvs : List (Key × W)} {l : List (Key × V)} {m : List (PyData × PyData)}, FR G.K H ρ kvs l → mapO pairD kvs = some m → FlKv l m ∧ (∀ t ∈ PyData.shownKv m, okS t = true) ∧ PyData.depthKv m = 0
  | _, _, m, .nil, e => by
    cases e
    exact ⟨.nil, fun t ht => by simp [PyData.shownKv] at ht, rfl⟩
  | (y, w) :: kvs, (y', v) :: l, m, .cons hv tv, e => by
    obtain ⟨e0, r0⟩ := hv
    have e0 : y = y' := e0
    subst e0
    rw [mapO] at e
    cases z : pairD (y, w) with
    | none => rw [z] at e; cases e
    | some pd =>
      cases z2 : mapO pairD kvs with
      | none => rw [z, z2] at e; cases e
      | some m2 =>
        rw [z, z2] at e
        cases e
        obtain ⟨a1, a2, a3⟩ := pairs_ok tv z2
        unfold pairD at z
        split at z
        · rename_i hk
          rw [Option.map_eq_some_iff] at z
          obtain ⟨d, zd, rfl⟩ := z
          obtain ⟨b1, b2, b3⟩ := flD_ok (G := G) r0 zd
          have kk := kD_ok hk
          refine ⟨.cons b1 a1, fun t ht => ?_, ?_⟩
          · rw [PyData.shownKv] at ht
            rcases List.mem_cons.mp ht with q | q
            · rw [q]; exact okS_append (okS_append kk.1 (okS_of _)) b2
            · exact a2 t q
          · rw [PyData.depthKv, a3, kk.2, b3]; rfl
        · cases z
theorem toD1_ok {H : Hp} {ρ : List Addr} {S : Store} (sr : SR G H ρ S) {w : W} {v : V} {d : PyData} (r : VR G.K H ρ w v) (e : toD1 S w = some d) : D1 G.K H v d ∧ okS d.shown = true := by
  unfold toD1 at e
  cases z : toD S deep w with
  | some d' =>
    rw [z] at e
    cases e
    obtain ⟨x1, x2, x3⟩ := toD_ok sr deep r z
    exact ⟨.inl ⟨x1, x2, x3⟩, okS_shown d x2⟩
  | none =>
    rw [z] at e
    cases r with
    | @ref m a q =>
      cases ho : S[m]? with
      | none => simp only [ho] at e; cases e
      | some o =>
        simp only [ho] at e
        have ob := sr.ob m a o q ho
        cases o with
        | dct kvs =>
          obtain ⟨l, z1, z2⟩ := ob
          simp only [Option.map_eq_some_iff] at e
          obtain ⟨md, z3, rfl⟩ := e
          obtain ⟨x1, x2, x3⟩ := pairs_ok z2 z3
          refine ⟨.inr ⟨a, l, md, rfl, rfl, z1, x1, x3⟩, ?_⟩
          rw [PyData.shown]
          exact okS_append (okS_append (okS_of _) (okS_join (okS_of _) _ x2)) (okS_of _)
        | lst ws => cases e
        | ins c fs => cases e
        | fdct kvs => cases e
    | non => cases e
    | bl b => cases e
    | int i => cases e
    | str hx => cases e
    | tup q t => cases e
    | rl q t => cases e
theorem toD1s_ok {H : Hp} {ρ : List Addr} {S : Store} (sr : SR G H ρ S) : ∀ {ws : List W} {vs : List V} {ds : List PyData}, VRs G.K H ρ ws vs → mapO (toD1 S) ws = some ds → D1All G.K H vs ds ∧ (∀ t ∈ PyData.shownAll ds, okS t = true)
  | [], _, ds, .nil, z => by
    cases z
    exact ⟨.nil, fun t ht => (by simp [PyData.shownAll] at ht)⟩
  | w :: ws, _, ds, .cons r1 rs, z => by
    rw [mapO] at z
    cases z1 : toD1 S w with
    | none => rw [z1] at z; cases z
    | some d1 =>
      cases z2 : mapO (toD1 S) ws with
      | none => rw [z1, z2] at z; cases z
      | some ds1 =>
        rw [z1, z2] at z
        cases z
        obtain ⟨a1, a2⟩ := toD1_ok sr r1 z1
        obtain ⟨b1, b2⟩ := toD1s_ok sr rs z2
        refine ⟨.cons a1 b1, fun t ht => ?_⟩
        rw [PyData.shownAll_cons] at ht
        rcases List.mem_cons.mp ht with q | q
        · rw [q]; exact a2
        · exact b2 t q
/-! ### read off the heap -/
section
variable {X : Cx} {pins : List (Addr × Obj)} {σ : L2.St} {H : Hp} {s : Shared}
theorem flV_reads {v : V} {d : PyData} {u : Value} {h : Heap} (f : FlV v d) (r : RelV v u) : Reads h u d [] := by
  cases f with
  | non => cases r; exact Reads.none
  | bl b => cases r; exact Reads.bool b
  | int i => obtain ⟨tk, rfl⟩ := r; exact Reads.int i tk
  | str x => obtain ⟨tk, rfl⟩ := r; exact Reads.str x tk
theorem kv_reads {P : Program} {w : World} {h : Heap} : ∀ {l : List (Key × V)} {md : List (PyData × PyData)} {vs : List (Key × Value)} {es : List DictEntry}, FlKv l md → KV l vs → Pairs (mixKind P w) es vs →
    ReadsAll h (es.map (·.key)) (md.map (·.1)) [] ∧ ReadsAll h (es.map (·.val)) (md.map (·.2)) []
  | _, _, vs, es, .nil, kv, pr => by
    cases kv
    cases pr
    exact ⟨.nil, .nil⟩
  | _, _, vs, es, .cons f t, kv, pr => by
    cases kv with
    | cons hv tv =>
      cases pr with
      | cons hi he tp =>
        have e1 := hv.1
        have e2 := hv.2
        have ih := kv_reads (h := h) t tv tp
        have rk : ∀ {y : Key} {u : Value}, (mixKind P w).is y u = true → Reads h u (kD y) [] := fun {y u} hu => by
          rcases keyIs_shape hu with ⟨i, tk, rfl, rfl⟩ | ⟨x, tk, rfl, rfl⟩
          · exact Reads.int i tk
          · exact Reads.str x tk
        rw [← e1] at hi
        refine ⟨?_, ?_⟩
        · exact ReadsAll.cons (as := []) (bs := []) (rk hi) ih.1
        · refine ReadsAll.cons (as := []) (bs := []) ?_ ih.2
          have r2 := flV_reads (h := h) f e2
          rw [← he] at r2
          exact r2
theorem D1.reads (I : Inv X pins σ H s) {d : PyData} {v : V} {u : Value} (q : D1 X.K H v d) (r : RelV v u) : ∃ as, Reads s.heap u d as ∧ (d.hasDict = true → sysModules ∉ as) := by
  rcases q with ⟨q, c, _⟩ | ⟨a, l, m, rfl, rfl, ha, hkv, _⟩
  · obtain ⟨as, h1⟩ := Dp.reads I d v u q r
    exact ⟨as, h1, PyData.noDict_hsm (PyData.hasDict_of_canLay d c)⟩
  · cases r
    obtain ⟨_, ne, vs, rel, ob, es, ep, gob, xob, dob, _, prs, _⟩ := dk_of I.hok ha
    obtain ⟨k1, k2⟩ := kv_reads (h := s.heap) hkv rel prs
    refine ⟨_, Reads.dict gob xob.1 dob k1 k2, fun _ => ?_⟩
    simp only [List.mem_append, List.mem_cons, List.not_mem_nil, or_false]
    exact fun z => beq_eq_false_iff_ne.mp ne z.symm
theorem D1All.reads (I : Inv X pins σ H s) : ∀ {ds : List PyData} {vs : List V} {us : List Value}, D1All X.K H vs ds → Vals vs us → PyData.showableAll ds = true → (∀ t ∈ PyData.shownAll ds, t.length ≤ sizeLine) →
    ∃ as bs, ReadsAll s.heap us ds as ∧ ReadAtMost s.heap (PyData.depthAll ds) bs ∧ ReprAllK X.prog X.w bs s.heap (PyData.depthAll ds) us (PyData.shownAll ds)
  | [], _, us, .nil, r, _, _ => by
    cases r
    refine ⟨[], [], .nil, (fun b hb => by cases hb), ?_⟩
    simp only [PyData.shownAll]
    exact .nil
  | d :: ds, _, us, .cons q1 q2, r, hs, hz => by
    cases r with
    | cons r1 r2 =>
      rw [PyData.showableAll, Bool.and_eq_true] at hs
      obtain ⟨as, x1, x2⟩ := D1.reads I q1 r1
      obtain ⟨cs, bs, y1, y2, y3⟩ := D1All.reads I q2 r2 hs.2 fun t ht => hz t (by rw [PyData.shownAll]; exact List.mem_cons_of_mem _ ht)
      obtain ⟨b1, z1, z2⟩ := ReprK.of_reads (prog := X.prog) (w := X.w) x1 hs.1 x2 (hz _ (by rw [PyData.shownAll]; exact List.mem_cons_self ..))
      refine ⟨as ++ cs, b1 ++ bs, .cons x1 y1, ?_, ?_⟩
      · rw [PyData.depthAll]
        exact (z1.mono (Nat.le_max_left _ _)).append (y2.mono (Nat.le_max_right _ _))
      · rw [PyData.depthAll, PyData.shownAll]
        have k1 := (z2.more (as' := b1 ++ bs) fun b hb => List.mem_append_left _ hb).level_le (Nat.le_max_left d.depth (PyData.depthAll ds))
        exact .cons k1 (y3.more_le (fun b hb => List.mem_append_right _ hb) (Nat.le_max_right _ _))
theorem D1All.deep : ∀ {ds : List PyData} {vs : List V} {K : PySem.W.Frag}, D1All K H vs ds → PyData.depthAll ds ≤ 50
  | _, _, _, .nil => by rw [PyData.depthAll]; omega
  | d :: ds, _, K, .cons q1 q2 => by
    have ih := D1All.deep q2
    have h1 : d.depth ≤ 50 := by
      rcases q1 with ⟨_, _, h⟩ | ⟨a, l, m, _, rfl, _, _, h⟩
      · exact h
      · rw [PyData.depth, h]; decide
    rw [PyData.depthAll]
    omega
end
/-! ### repr -/
def dataL (S : Store) (n : Nat) : Option PyData := match S[n]? with
  | some (.dct kvs) => (mapO pairD kvs).map .dict
  | some (.lst ws) => (mapO (toD1 S) ws).map .list
  | _ => none
def opReprD : OpA := fun ws S => match opRepr ws S with
  | some r => some r
  | none => match ws with
    | [.ref n] => (dataL S n).bind fun d => if d.showable = true ∧ d.shown.length ≤ sizeLine then some (.str d.shown, S) else none
    | _ => none
def rReprX (K : PySem.W.Frag) : List V → Hp → VK → Prop := fun xs H Q => ∃ (a : Addr) (d : PyData), xs = [.ref a] ∧ ((∃ l m, d = .dict m ∧ H a = some (.dK l) ∧ FlKv l m ∧ PyData.depthKv m = 0) ∨ ∃ vs ds, d = .list ds ∧ H a = some (.lst vs) ∧ D1All K H vs ds) ∧ d.showable = true ∧ d.shown.length ≤ sizeLine ∧ Q (.str d.shown) H
theorem cr_reprX {X : Cx} {U : WX} (F : Fit G c k X U) : CallR X (.builtin "repr") (rReprX X.K) := by
  intro pins s σ H xs us Q I r h
  obtain ⟨a, d, rfl, hd, hs, hz, q⟩ := h
  obtain ⟨u, rfl, ru⟩ := vals1 r
  have un := F.room.un
  cases ru
  rcases hd with ⟨l, m, rfl, ha, hkv, hm⟩ | ⟨vs, ds, rfl, ha, hall⟩
  · obtain ⟨as, r1, r2⟩ := D1.reads I (.inr ⟨a, l, m, rfl, rfl, ha, hkv, hm⟩) rfl
    refine PySem.repr_of_reads' r1 hs r2 F.gd (by rw [PyData.depth, hm]; omega) (fun _ _ e => e) (fun h' u tk hk => ⟨.str _, H, I.kept hk, ⟨_, rfl⟩, q⟩) hz
  · obtain ⟨items, rvs, ⟨ob, nn, gob, cob, _, dob⟩, _⟩ := I.list (SqL.of (K := X.K) ha)
    have hz' : (listText (PyData.shownAll ds)).length ≤ sizeLine := by rw [PyData.shown] at hz; exact hz
    rw [PyData.showable] at hs
    obtain ⟨as, bs, x1, x2, x3⟩ := D1All.reads I hall rvs hs fun t ht => Nat.le_trans (listText_mem_le ht) hz'
    have dp := hall.deep
    have na : a ∉ bs := not_mem_of_deeper (.list gob cob dob x1) (by rw [PyData.depth]; omega) x2
    rw [PyData.shown] at q
    refine call_repr_slot (by omega) ⟨ob, gob, cob⟩ PySem.F.slot_list_repr.toG ?_
    cases items with
    | nil =>
      cases x1
      rw [PyData.shownAll, listText_nil] at q
      exact call_list_repr_empty ⟨ob, gob, cob⟩ gob dob ⟨_, _, rfl, .str _, H, I.tok _, ⟨_, rfl⟩, q⟩
    | cons x l =>
      exact call_list_reprK gob cob dob na (by simpa using x3.length_eq) (fun i y e => x3.item i y (by simpa using e)) (by exact F.gd) (fun b _ => Clear.nil b) (by show X.A.units + 1 + _ < _; omega) (fun _ _ e => e) (fun h' u tk hk => ⟨_, _, rfl, .str _, H, I.kept hk, ⟨_, rfl⟩, q⟩) hz'
theorem o_reprD : OpAOk G (fun xs H Q => rRepr G.K xs H Q ∨ rReprX G.K xs H Q) opReprD := fun H ρ S ws vs w S' Q sr r h q => by
  unfold opReprD at h
  cases z : opRepr ws S with
  | some p =>
    rw [z] at h
    simp only [Option.some.injEq] at h
    subst h
    exact .inl (o_repr H ρ S ws vs w S' Q sr r z q)
  | none =>
    rw [z] at h
    simp only at h
    split at h
    · rename_i n
      cases r with
      | cons r rs =>
        cases rs
        cases r with
        | ref hn =>
          rw [Option.bind_eq_some_iff] at h
          obtain ⟨d, e, h⟩ := h
          split at h
          · rename_i hh
            cases h
            unfold dataL at e
            split at e
            · rename_i kvs eo
              obtain ⟨l, z1, z2⟩ := sr.ob _ _ _ hn eo
              rw [Option.map_eq_some_iff] at e
              obtain ⟨md, z3, rfl⟩ := e
              obtain ⟨x1, x2, x3⟩ := pairs_ok z2 z3
              refine .inr ⟨_, _, rfl, .inl ⟨l, md, rfl, z1, x1, x3⟩, hh.1, hh.2, q.flat sr (.str ?_)⟩
              show okS (PyData.shown (.dict md)) = true
              rw [PyData.shown]
              exact okS_append (okS_append (okS_of _) (okS_join (okS_of _) _ x2)) (okS_of _)
            · rename_i ws eo
              obtain ⟨vs, z1, z2⟩ := sr.ob _ _ _ hn eo
              rw [Option.map_eq_some_iff] at e
              obtain ⟨ds, z3, rfl⟩ := e
              obtain ⟨x1, x2⟩ := toD1s_ok sr z2 z3
              refine .inr ⟨_, _, rfl, .inr ⟨vs, ds, rfl, z1, x1⟩, hh.1, hh.2, q.flat sr (.str ?_)⟩
              rw [PyData.shown_list]
              exact okS_append (okS_append (okS_of _) (okS_join (okS_of _) _ x2)) (okS_of _)
            · cases e
          · cases h
    · cases h
theorem e_reprD {e : Expr} {d : DE} {p pos : Pos} (he : EOk G c k e d) (hm : G.mg "repr" = none) (hg : c.sc.names.lookup ("repr" : Str) = some .globalImplicit := by rfl) (hp : plainE e = true := by rfl) : EOk G c k (.Call (.Name "repr" p) [e] [] pos) (dFn opReprD (aCons d aNil)) :=
  e_blt (fun X U F => fun pins s σ H xs us Q I r q => by
    rcases q with q | q
    · exact cr_repr F pins s σ H xs us Q I r (by rw [F.K]; exact q)
    · exact cr_reprX F pins s σ H xs us Q I r (by rw [F.K]; exact q)) o_reprD hm (by decide +kernel) (a_cons he a_nil hp) hg (by decide) (by decide) (fun env => starEach_plain hp _ _)
/-! ### xs == [] -/
def opEqE : Op2 := fun a b S => match a, b with
  | .ref n, .ref m => match S[n]?, S[m]? with
    | some (.lst ws), some (.lst []) => some (.bl ws.isEmpty, S)
    | _, _ => none
  | _, _ => none
def rEqE : R2 := fun x y H Q => ∃ a b xs, x = .ref a ∧ y = .ref b ∧ H a = some (.lst xs) ∧ H b = some (.lst []) ∧ Q (.bl xs.isEmpty) H
theorem r_eqE : ∀ X W, Fit G c k X W → OpR X (compareOp .Eq) rEqE := fun X W F => by
  intro pins s σ H x y v u Q I rx ry h
  obtain ⟨a, b, xs, rfl, rfl, ha, hb, q⟩ := h
  obtain ⟨items, r1, l1, _⟩ := I.list (SqL.of (K := X.K) ha)
  obtain ⟨items2, r2, l2, _⟩ := I.list (SqL.of (K := X.K) hb)
  have un := F.room.un
  cases rx
  cases ry
  cases r2
  have z1 := r1.length
  cases xs with
  | nil =>
    cases r1
    refine SeqAt.eq_listAt (e := fun _ => true) l1.isList l2.isList rfl (by omega) (fun j h1 _ => absurd h1 (by simp)) ?_
    exact ⟨.bl true, H, I, rfl, q⟩
  | cons x xs =>
    cases r1 with
    | cons _ _ =>
      refine SeqAt.eq_list_lengthsAt l1.isList l2.isList (by simp) (by omega) ?_
      exact ⟨.bl false, H, I, rfl, q⟩
theorem o_eqE : Op2Ok G rEqE opEqE := fun H ρ S a b x y w S' Q sr ra rb h q => by
  unfold opEqE at h
  split at h
  · rename_i n m
    split at h
    · rename_i ws eo1 eo2
      cases h
      cases ra with
      | ref hn =>
        cases rb with
        | ref hm =>
          obtain ⟨vs, z, t⟩ := sr.ob _ _ _ hn eo1
          obtain ⟨vs2, z2, t2⟩ := sr.ob _ _ _ hm eo2
          cases t2
          refine ⟨_, _, vs, rfl, rfl, z, z2, ?_⟩
          have : vs.isEmpty = ws.isEmpty := by cases t <;> rfl
          rw [this]
          exact q.flat sr (.bl _)
    · cases h
  · cases h
/-! ### a text several times -/
def repS (x : Str) (n : Nat) : Str := ⟨(List.replicate n x.cps).foldl (· ++ ·) #[]⟩
theorem rep_go (x : Array Nat) : ∀ (n : Nat) (acc : Array Nat), ((List.replicate n x).foldl (· ++ ·) acc).toList = acc.toList ++ (List.replicate n x.toList).flatten
  | 0, acc => by simp
  | n + 1, acc => by
    rw [List.replicate_succ, List.foldl_cons, rep_go x n, List.replicate_succ, List.flatten_cons, Array.toList_append, List.append_assoc]
theorem repS_list {x : Str} {n : Nat} : (repS x n).cps.toList = (List.replicate n x.cps.toList).flatten := by
  show ((List.replicate n x.cps).foldl (· ++ ·) #[]).toList = _
  rw [rep_go]
  simp
theorem repS_len {x : Str} {n : Nat} : (repS x n).length = n * x.length := by
  show (repS x n).cps.size = n * x.cps.size
  rw [← Array.length_toList, repS_list]
  induction n with
  | zero => simp
  | succ n ih => rw [List.replicate_succ, List.flatten_cons, List.length_append, ih, Array.length_toList, Nat.add_mul, Nat.one_mul, Nat.add_comm]
theorem repS_ok {x : Str} {n : Nat} (h : okS x = true) : okS (repS x n) = true := by
  unfold okS at h ⊢
  rw [repS_list]
  rw [List.all_eq_true] at h ⊢
  intro c hc
  obtain ⟨l, hl, hm⟩ := List.mem_flatten.mp hc
  rw [List.mem_replicate] at hl
  rw [hl.2] at hm
  exact h c hm
def opMulS : Op2 := fun a b S => match a, b with
  | .str x, .int i => if 2 ≤ i ∧ i ≤ 100 ∧ 1 ≤ x.length ∧ x.length ≤ 1000 then some (.str (repS x i.toNat), S) else none
  | _, _ => none
def rMulS : R2 := fun x y H Q => ∃ z i, x = .str z ∧ y = .int i ∧ 2 ≤ i ∧ i ≤ 100 ∧ 1 ≤ z.length ∧ z.length ≤ 1000 ∧ Q (.str (repS z i.toNat)) H
theorem r_mulS {X : Cx} : OpR X (binaryOp .Mult) rMulS := by
  intro pins s σ H x y v u Q I rx ry h
  obtain ⟨z, i, rfl, rfl, h1, h2, h3, h4, q⟩ := h
  obtain ⟨t, rfl⟩ := rx
  obtain ⟨t', rfl⟩ := ry
  have hm : z.length * i.toNat ≤ 1000 * 100 := Nat.mul_le_mul h4 (by omega)
  refine PySem.P.mul_str ?_ (fun _ _ => ?_) (fun _ _ => ?_) ?_
  · rw [decide_eq_false (by omega), decide_eq_false (by omega)]; rfl
  · have : (1000 : Int) ≤ (2 ^ 63 - 1) / i := Int.le_ediv_of_mul_le (by omega) (by omega)
    omega
  · exact decide_eq_false (by have := sizeLine_eq; omega)
  · rw [if_neg (by omega), if_neg (by simp; omega)]
    refine ⟨?_, ?_⟩
    · have : (repS z i.toNat).length = i.toNat * z.length := repS_len
      show (repS z i.toNat).length ≤ _
      rw [this, sizeLine_eq, Nat.mul_comm]
      omega
    · exact ⟨.str _, H, I.tok _, ⟨_, rfl⟩, q⟩
theorem o_mulS : Op2Ok G rMulS opMulS := fun H ρ S a b x y w S' Q sr ra rb h q => by
  unfold opMulS at h
  split at h
  · rename_i z i
    split at h
    · rename_i hz
      cases h
      cases ra with
      | str hx =>
        cases rb with
        | int j => exact ⟨z, i, rfl, rfl, hz.1, hz.2.1, hz.2.2.1, hz.2.2.2, q.flat sr (.str (repS_ok hx))⟩
    · cases h
  · cases h
theorem e_mulS {a b : Expr} {d e : DE} {pos : Pos} (ha : EOk G c k a d) (hb : EOk G c k b e) : EOk G c k (.BinOp a .Mult b pos) (dOp opMulS d e) := e_bin (fun X U F => r_mulS) o_mulS ha hb
end
end
/-! ### plain rules -/
theorem wp_dDict1 {x : Str} {i : Int} {ε : Ev} {S : Store} {Q : W → Store → Prop} {E : Ex → Store → Prop} : wp (dDict1 x i ε S) Q E = Q (.ref S.length) (S ++ [.dct [(.inr x, .int i)]]) := rfl
end N
namespace N
open PySem PySem.Spec PyProof.Rows L2
/-- the law's own call at the heap behind the top -/
theorem law_at {G : World → Heap → Top} {P : Program} {w : World} {K : PySem.W.Frag} {mg mb : Str → Option Value} {k : Nat} {fa a : Addr} {fd : FuncData} {x : Str} {s₁ : Shared} {vs : List Value} {ns : List Int} {den : List W → M W}
    (inK : K.In s₁.heap) (hns : s₁.heap.Ns mainGlobals mg) (hb : s₁.heap.Ns builtinsNs mb) (hbb : ∀ x : Str, x ≠ "__name__" → mb x = bootBuiltins x) (lim : s₁.heap.NoLimit) (hg : s₁.gens = #[])
    (ha : s₁.heap.get? a = some { cls := .type "list", data := .seq vs.toArray }) (hi : IntsAre vs ns) (hl : ns.length ≤ sizeLine) (hr : Room k callerA)
    (hG : ∀ b, (G w b).P = P ∧ (G w b).w = w ∧ (G w b).K = K ∧ (G w b).mg = mg ∧ (G w b).base = b)
    (F : ∀ b : Heap, K.In b → b.Ns mainGlobals mg → FnG (G w b) k fa fd [x] (spN (G w b) den)) (bind : ∀ (s : Shared) (u : Value), BindsTo s fd ⟨[u], []⟩ [(x, u)])
    (good : wp (den [.rl (ns.map W.int)] []) (fun r _ => r = .bl true) (fun _ _ => False)) :
    codeAny (model P w) callerA (.call (.ref fa) ⟨[.ref a], []⟩) (fun r s' => r = .ok (.ret (.bool true)) ∧ OldK s₁.heap s'.heap ∧ s'.os = s₁.os ∧ AllBare s'.gens) s₁ := by
  have rv := vals_of_ints hi
  have lenV := hi.length
  have core : ∀ H : Hp, Only H → FzL K H a (ns.map V.int) → HOk P w H s₁.heap → (∀ b, H b ≠ none → b = a) → (H a ≠ none → K.lookup a = none) →
      codeAny (model P w) callerA (.call (.ref fa) ⟨[.ref a], []⟩) (fun r s' => r = .ok (.ret (.bool true)) ∧ OldK s₁.heap s'.heap ∧ s'.os = s₁.os ∧ AllBare s'.gens) s₁ := by
    intro H hO hS hok hA hK
    have none_of : ∀ {b : Addr}, b ≠ a → H b = none := fun {b} hne => by
      cases q : H b with
      | none => rfl
      | some u => exact absurd (hA b (by rw [q]; exact fun z => nomatch z)) hne
    have nsB : ∀ {b : Addr} {m : Str → Option Value}, s₁.heap.Ns b m → (hidT s₁.heap H).Ns b m := fun {b m} ⟨o, es, ep, e, d, r⟩ => by
      refine ⟨o, es, ep, hidT_get e (none_of fun z => ?_), d, r⟩
      subst z
      rw [ha] at e
      cases e
      exact nomatch (show Data.seq vs.toArray _ = Data.dict es ep from d)
    have inB : K.In (hidT s₁.heap H) := fun b o e => hidT_get (inK b o e) (by
      cases q : H b with
      | none => rfl
      | some u =>
        have z : b = a := hA b (by rw [q]; exact fun z => nomatch z)
        subst z
        rw [hK (by rw [q]; exact fun z => nomatch z)] at e
        cases e)
    have mod : Mod K mg (hidT s₁.heap H) := ⟨inB, nsB hns, ⟨mb, nsB hb, hbb⟩, let ⟨mc, h1, h2⟩ := lim; ⟨mc, nsB h1, h2⟩⟩
    have e0 : Env0 P w K mg (hidT s₁.heap H) callerA [] s₁ H := ⟨rfl, mod, fun b o e => of_hidT e, Nat.le_of_eq (hidT_size _ _), trivial, fun b hb => (nomatch (show b ∈ ([] : List Addr) from hb)), hok, .of_eq hg⟩
    obtain ⟨g1, g2, g3, g4, g5⟩ := hG (hidT s₁.heap H)
    have fn := F _ inB (nsB hns)
    have sp : spN (G w (hidT s₁.heap H)) den [.ref a] H (fun v _ => v = .bl true) (fun _ _ _ => False) := by
      refine ⟨[.rl (ns.map W.int)], [], [], .cons (.rl (by rw [g3]; exact hS) (VRs.ints ns)) .nil, ⟨rfl, List.nodup_nil, fun n b o z _ => by simp at z⟩, wp_mono good (fun r S' e H' ρ' v _ _ rv => ?_) fun _ _ z => z.elim⟩
      subst e
      cases rv
      rfl
    have run := fn.run callerA [] s₁ H ⟨[.ref a], []⟩ [.ref a] [.ref a] _ _ hr rfl (by rw [g1, g2, g3, g4, g5]; exact e0) (bind s₁ (.ref a)) (.cons rfl .nil) sp
    rw [g1, g2] at run
    refine codeAny_mono run fun r s' h => ?_
    cases r with
    | error e =>
      obtain ⟨_, _, _, _, _, _, _, _, _, _, _, _, z⟩ := h
      exact z.elim
    | ok fl =>
      cases fl with
      | next => exact False.elim h
      | brk => exact False.elim h
      | cont => exact False.elim h
      | ret u =>
        obtain ⟨v, H', os, bare, un, hok', r', q⟩ := h
        have q' : v = .bl true := q
        subst q'
        obtain rfl : u = Value.bool true := r'
        refine ⟨rfl, OldK.of_keep fun b o e => ?_, os, bare⟩
        rcases hO b with z | ⟨ob, xs, z⟩
        · exact un.keep b o e z (fun y => nomatch (show b ∈ ([] : List Addr) from y)) (fun y => nomatch y)
        · obtain ⟨e1, _⟩ := hok b _ z
          obtain ⟨e2, _⟩ := hok' b _ (un.frzs b ob _ z)
          rw [e] at e1
          cases e1
          exact e2
  cases hk : K.lookup a with
  | some o =>
    have e := inK a o hk
    rw [ha] at e
    cases e
    exact core (fun _ => none) (fun _ => .inl rfl) (.inr ⟨_, vs.toArray, _, hk, rfl, rfl, rfl, by rw [List.size_toArray, lenV]; exact hl, by simpa using rv⟩) (fun b u z => nomatch (show (none : Option HO) = some u from z)) (fun b z => absurd rfl z) fun z => absurd rfl z
  | none =>
    refine core (fun b => if b = a then some (.frz { cls := .type "list", data := .seq vs.toArray } (.lst (ns.map V.int))) else none) (fun b => ?_) (.inl ⟨{ cls := .type "list", data := .seq vs.toArray }, if_pos rfl⟩) (fun b u z => ?_) (fun b z => ?_) fun _ => hk
    · by_cases hb : b = a
      · exact .inr ⟨_, _, if_pos hb⟩
      · exact .inl (if_neg hb)
    · by_cases hb : b = a
      · have z' := (if_pos hb).symm.trans z
        cases z'
        subst hb
        exact ⟨ha, by rw [List.length_map]; exact hl, vs, _, rv, ha⟩
      · exact nomatch (if_neg hb).symm.trans z
    · by_cases hb : b = a
      · exact hb
      · exact absurd (if_neg hb) z
/-- THE END -/
theorem walkG {l : PySem.W.OpenLaw} {n k : Nat} {q : Program} {loose : List Str} {XP : (Str → Option Value) → Heap → Prop} {YP : World → Heap → Prop} {d : DefRec} {K : Params → PySem.W.Frag} {x : Str} {den : List W → M W}
    (hn : l.most = some n) (hn2 : n ≤ sizeLine) (hdf : d.params.defaults = []) (hr : Room k callerA)
    (hY : ∀ (w : World) (h : Heap), YP w h → (K w.params).In h)
    (F : ∀ (w : World) (mg : Str → Option Value) (fa : Addr) (h : Heap), (K w.params).In h → h.Ns mainGlobals mg → mg d.name = some (.ref fa) →
      ∃ (fd : FuncData) (cl : Nat → Addr), (∀ (s : Shared) (u : Value), BindsTo s fd ⟨[u], []⟩ [(x, u)]) ∧
        ∀ base : Heap, (K w.params).In base → base.Ns mainGlobals mg → FnG ⟨l.prog, w, K w.params, mg, base, cl⟩ k fa fd [x] (spN ⟨l.prog, w, K w.params, mg, base, cl⟩ den))
    (good : ∀ ns : List Int, ns.length ≤ n → (∀ z ∈ ns, Builtin.Int.intBits z ≤ 1048576) → wp (den [.rl (ns.map W.int)] []) (fun r _ => r = .bl true) (fun _ _ => False)) :
    PySem.W.WalkO q loose XP YP l.row.toRowW d [] (fun f vs => PySem.call f vs) := by
  refine Att.attach_callB hn hdf fun w s₀ s₁ mg mb fa o pm cd doc a vs ns G Y ho hd hcd hmg hobj hints hlen hbits hg => ?_
  have inK := hY w _ Y
  obtain ⟨fd, cl, hb, hF⟩ := F w mg fa _ inK G.T.g hmg
  exact law_at (G := fun w b => ⟨l.prog, w, K w.params, mg, b, cl⟩) inK G.T.g G.T.b G.T.builtins G.T.nolimit hg hobj hints (Nat.le_trans hlen hn2) hr (fun b => ⟨rfl, rfl, rfl, rfl, rfl⟩) hF hb (good ns hlen hbits)
end N
namespace N
open PySem L2
/-- what an answer asks -/
def wO {α : Type} (o : Option α) (Q : α → Prop) : Prop := match o with
  | some a => Q a
  | none => False
theorem wO_some {α : Type} {a : α} {Q : α → Prop} : wO (some a) Q = Q a := rfl
theorem wO_none {α : Type} {Q : α → Prop} : wO (none : Option α) Q = False := rfl
theorem wO_map {α β : Type} {o : Option α} {f : α → β} {Q : β → Prop} : wO (o.map f) Q = wO o (fun a => Q (f a)) := by cases o <;> rfl
theorem wO_bind {α β : Type} {o : Option α} {f : α → Option β} {Q : β → Prop} : wO (o.bind f) Q = wO o (fun a => wO (f a) Q) := by cases o <;> rfl
theorem wO_ite {α : Type} {c : Prop} [Decidable c] {a b : Option α} {Q : α → Prop} : wO (if c then a else b) Q = if c then wO a Q else wO b Q := by split <;> rfl
theorem wO_of {α : Type} {o : Option α} {a : α} {Q : α → Prop} (e : o = some a) (q : Q a) : wO o Q := by rw [e]; exact q
theorem wp_congr {α : Type} {r : R α} {Q Q' : α → Store → Prop} {E : Ex → Store → Prop} (h : ∀ a S, Q a S = Q' a S) : wp r Q E = wp r Q' E := by
  cases r with
  | ok a S => exact h a S
  | exc x S => rfl
  | bad => rfl
section
variable {α β : Type} {S : Store} {ε : Ev} {Q : α → Store → Prop} {E : Ex → Store → Prop} {D : NEnds}
theorem wp_ret {a : α} : wp (M.ret a S) Q E = Q a S := rfl
theorem wp_badM : wp ((bad : M α) S) Q E = False := rfl
theorem wp_lift {f : Store → Option (α × Store)} : wp (lift f S) Q E = wO (f S) (fun p => Q p.1 p.2) := by
  unfold lift wO
  cases f S with
  | none => rfl
  | some p => cases p; rfl
theorem wp_chk {b : Bool} {Q : Unit → Store → Prop} : wp (chk b S) Q E = (b = true ∧ Q () S) := by
  unfold chk
  cases b <;> simp [wp]
theorem wp_alloc {o : O} {Q : W → Store → Prop} : wp (alloc o S) Q E = Q (.ref S.length) (S ++ [o]) := rfl
theorem wp_grd {g : Store → Prop} {Q : Unit → Store → Prop} : wp (grd g S) Q E = (g S ∧ Q () S) := by
  unfold grd
  by_cases h : g S
  · rw [if_pos h]; simp [wp, h]
  · rw [if_neg h]; simp [wp, h]
theorem wp_tgt {t : DT} {w : W} {ε0 : Ev} {Q : Ev → Store → Prop} : wp (tgt t w ε0 S) Q E = wO (t w ε0 S) (fun ε' => Q ε' S) := by
  unfold tgt wO
  cases t w ε0 S <;> rfl
theorem wp_noXe {m : M α} : wp (noX m S) Q E = wp (m S) Q (fun _ _ => False) := by
  unfold noX
  cases m S <;> rfl
end
section
variable {S : Store} {ε : Ev} {Q : W → Store → Prop} {E : Ex → Store → Prop} {D : NEnds}
theorem wp_dVar {i : Nat} : wp (dVar i ε S) Q E = wO (ε[i]?) (fun o => wO o fun w => Q w S) := by
  unfold dVar wO
  cases ε[i]? with
  | none => rfl
  | some o => cases o <;> rfl
theorem wp_dC {w : W} : wp (dC w ε S) Q E = Q w S := rfl
theorem wp_aNil {Q : List W → Store → Prop} : wp (aNil ε S) Q E = Q [] S := rfl
theorem wp_aCons {d : DE} {e : DA} {Q : List W → Store → Prop} : wp (aCons d e ε S) Q E = wp (d ε S) (fun w S1 => wp (e ε S1) (fun ws S2 => Q (w :: ws) S2) E) E := by
  unfold aCons
  simp only [wp_bind, wp_ret]
theorem wp_dTup {a : DA} : wp (dTup a ε S) Q E = wp (a ε S) (fun ws S1 => lenOk ws.length = true ∧ Q (.tup ws) S1) E := by
  unfold dTup
  simp only [wp_bind, wp_chk, wp_ret]
theorem wp_dLst {a : DA} : wp (dLst a ε S) Q E = wp (a ε S) (fun ws S1 => lenOk ws.length = true ∧ Q (.ref S1.length) (S1 ++ [.lst ws])) E := by
  unfold dLst
  simp only [wp_bind, wp_chk, wp_alloc]
theorem wp_dOp {op : Op2} {d e : DE} : wp (dOp op d e ε S) Q E = wp (d ε S) (fun a S1 => wp (e ε S1) (fun b S2 => wO (op a b S2) fun p => Q p.1 p.2) E) E := by
  unfold dOp
  simp only [wp_bind, wp_lift]
theorem wp_dUn {op : Op1} {d : DE} : wp (dUn op d ε S) Q E = wp (d ε S) (fun a S1 => wO (op a S1) fun p => Q p.1 p.2) E := by
  unfold dUn
  simp only [wp_bind, wp_lift]
theorem wp_dFn {op : OpA} {a : DA} : wp (dFn op a ε S) Q E = wp (a ε S) (fun a S1 => wO (op a S1) fun p => Q p.1 p.2) E := by
  unfold dFn
  simp only [wp_bind, wp_lift]
/-- a truth asked for -/
def wB (w : W) (Q : Bool → Prop) : Prop := match w with
  | .bl b => Q b
  | _ => False
theorem wB_bl {b : Bool} {Q : Bool → Prop} : wB (.bl b) Q = Q b := rfl
theorem wp_dChain {op op' : Op2} {d e f : DE} : wp (dChain op op' d e f ε S) Q E = wp (d ε S) (fun a S1 => wp (e ε S1) (fun b S2 => wO (op a b S2) fun p => wB p.1 fun z => if z = true then wp (f ε p.2) (fun y S3 => wO (op' b y S3) fun q => Q q.1 q.2) E else Q (.bl false) p.2) E) E := by
  unfold dChain
  simp only [wp_bind, wp_lift]
  congr 1; funext a S1; congr 1; funext b S2; congr 1; funext p
  obtain ⟨z, S3⟩ := p
  cases z with
  | bl z => cases z <;> simp [wB, wp_bind, wp_lift, wp_ret]
  | _ => rfl
theorem wp_dTru {d : DE} {Q : Bool → Store → Prop} : wp (dTru d ε S) Q E = wp (d ε S) (fun w S1 => wO (truthW w S1) fun b => Q b S1) E := by
  unfold dTru
  simp only [wp_bind, wp_lift, wO_map]
theorem wp_dBool {d : DE} {Q : Bool → Store → Prop} : wp (dBool d ε S) Q E = wp (d ε S) (fun w S1 => wB w fun b => Q b S1) E := by
  unfold dBool
  simp only [wp_bind]
  congr 1; funext w S1
  cases w <;> rfl
theorem wp_dNot {d : DB} {Q : Bool → Store → Prop} : wp (dNot d ε S) Q E = wp (d ε S) (fun b S1 => Q (!b) S1) E := by
  unfold dNot
  simp only [wp_bind, wp_ret]
theorem wp_dAnd {d e : DB} {Q : Bool → Store → Prop} : wp (dAnd d e ε S) Q E = wp (d ε S) (fun b S1 => if b = true then wp (e ε S1) Q E else Q false S1) E := by
  unfold dAnd
  simp only [wp_bind]
  congr 1; funext b S1
  cases b <;> rfl
theorem wp_dOr {d e : DB} {Q : Bool → Store → Prop} : wp (dOr d e ε S) Q E = wp (d ε S) (fun b S1 => if b = true then Q true S1 else wp (e ε S1) Q E) E := by
  unfold dOr
  simp only [wp_bind]
  congr 1; funext b S1
  cases b <;> rfl
theorem wp_dAndV {d e : DE} : wp (dAndV d e ε S) Q E = wp (d ε S) (fun w S1 => wB w fun b => if b = true then wp (e ε S1) Q E else Q (.bl false) S1) E := by
  unfold dAndV
  simp only [wp_bind]
  congr 1; funext w S1
  cases w with
  | bl b => cases b <;> rfl
  | _ => rfl
theorem wp_dOrV {d e : DE} : wp (dOrV d e ε S) Q E = wp (d ε S) (fun w S1 => wB w fun b => if b = true then Q (.bl true) S1 else wp (e ε S1) Q E) E := by
  unfold dOrV
  simp only [wp_bind]
  congr 1; funext w S1
  cases w with
  | bl b => cases b <;> rfl
  | _ => rfl
theorem wp_dNotV {d : DE} : wp (dNotV d ε S) Q E = wp (d ε S) (fun w S1 => wB w fun b => Q (.bl (!b)) S1) E := by
  unfold dNotV
  simp only [wp_bind]
  congr 1; funext w S1
  cases w <;> rfl
theorem wp_dIfE {t : DB} {d e : DE} : wp (dIfE t d e ε S) Q E = wp (t ε S) (fun b S1 => if b = true then wp (d ε S1) Q E else wp (e ε S1) Q E) E := by
  unfold dIfE
  simp only [wp_bind]
  congr 1; funext b S1
  cases b <;> rfl
theorem wp_dYes {Q : Bool → Store → Prop} : wp (dYes ε S) Q E = Q true S := rfl
theorem wp_dCall {f : List W → M W} {a : DA} : wp (dCall f a ε S) Q E = wp (a ε S) (fun ws S1 => wp (f ws S1) Q E) E := by
  unfold dCall
  simp only [wp_bind]
theorem wp_dCallK {f : List W → M W} {na nk : Nat} {dW : List W} {perm : List Nat} {a b : DA} : wp (dCallK f na nk dW perm a b ε S) Q E = wp (a ε S) (fun ws S1 => wp (b ε S1) (fun us S2 => ws.length = na ∧ us.length = nk ∧ wO (permW perm (ws ++ us ++ dW)) fun zs => wp (f zs S2) Q E) E) E := by
  unfold dCallK
  refine wp_bind.trans (wp_congr fun ws S1 => wp_bind.trans (wp_congr fun us S2 => ?_))
  by_cases h : ws.length = na ∧ us.length = nk
  · rw [if_pos h]
    simp only [h.1, h.2, true_and]
    cases permW perm (ws ++ us ++ dW) <;> rfl
  · rw [if_neg h]
    simp only [wp_bad]
    refine propext ⟨False.elim, fun z => h ⟨z.1, z.2.1⟩⟩
theorem wp_dIsi {T : String} {d : DE} : wp (dIsi T d ε S) Q E = wp (d ε S) (fun w S1 => wO (tyN w S1) fun t => Q (.bl (isT t T)) S1) E := by
  unfold dIsi
  simp only [wp_bind, wp_lift, wO_map]
theorem wp_dIsi2 {T1 T2 : String} {d : DE} : wp (dIsi2 T1 T2 d ε S) Q E = wp (d ε S) (fun w S1 => wO (tyN w S1) fun t => Q (.bl (isT t T1 || isT t T2)) S1) E := by
  unfold dIsi2
  simp only [wp_bind, wp_lift, wO_map]
theorem wp_dMt {T : String} {op : OpM} {d : DE} {a : DA} : wp (dMt T op d a ε S) Q E = wp (d ε S) (fun w S1 => tyM T w S1 = true ∧ wp (a ε S1) (fun ws S2 => wO (op w ws S2) fun p => Q p.1 p.2) E) E := by
  unfold dMt
  refine wp_bind.trans (wp_congr fun w S1 => wp_bind.trans ?_)
  unfold chkT
  by_cases h : tyM T w S1 = true
  · rw [if_pos h]
    simp only [h, true_and]
    refine wp_bind.trans (wp_congr fun ws S2 => wp_lift)
  · rw [if_neg h]
    simp [h]
theorem wp_oN {Q : Option Int → Store → Prop} : wp (oN ε S) Q E = Q none S := rfl
/-- an integer asked for -/
def wI (w : W) (Q : Int → Prop) : Prop := match w with
  | .int i => Q i
  | _ => False
theorem wI_int {i : Int} {Q : Int → Prop} : wI (.int i) Q = Q i := rfl
theorem wp_oS {d : DE} {Q : Option Int → Store → Prop} : wp (oS d ε S) Q E = wp (d ε S) (fun w S1 => wI w fun i => Q (some i) S1) E := by
  unfold oS
  simp only [wp_bind]
  congr 1; funext w S1
  cases w <;> rfl
theorem wp_dSl {d : DE} {l h : DO} : wp (dSl d l h ε S) Q E = wp (d ε S) (fun w S1 => wp (l ε S1) (fun lo S2 => wp (h ε S2) (fun hi S3 => wO (opSl w lo hi S3) fun p => Q p.1 p.2) E) E) E := by
  unfold dSl
  simp only [wp_bind, wp_lift]
theorem wp_dSrc {d : DE} {Q : Src → Store → Prop} : wp (dSrc d ε S) Q E = wp (d ε S) (fun w S1 => wO (srcW w S1) fun p => Q p S1) E := by
  unfold dSrc
  refine wp_bind.trans (wp_congr fun w S1 => ?_)
  cases srcW w S1 <;> rfl
theorem wp_dZip {a : DA} {Q : Src → Store → Prop} : wp (dZip a ε S) Q E = wp (a ε S) (fun ws S1 => match ws with
    | [x, y] => wO (zipW x y S1) fun p => Q p S1
    | _ => False) E := by
  unfold dZip
  refine wp_bind.trans (wp_congr fun ws S1 => ?_)
  match ws with
  | [] => rfl
  | [_] => rfl
  | [x, y] =>
    show wp (match zipW x y S1 with | some p => R.ok p S1 | none => R.bad) Q E = wO (zipW x y S1) fun p => Q p S1
    cases zipW x y S1 <;> rfl
  | _ :: _ :: _ :: _ => rfl
theorem wp_dRng1 {a : DA} {Q : Src → Store → Prop} : wp (dRng1 a ε S) Q E = wp (a ε S) (fun ws S1 => match ws with
    | [.int j] => bnd j = true ∧ Q ⟨rngW 0 j.toNat, fun _ => True⟩ S1
    | _ => False) E := by
  unfold dRng1
  refine wp_bind.trans (wp_congr fun ws S1 => ?_)
  match ws with
  | [.int j] => cases h : bnd j <;> simp [h, wp]
  | [.non] => rfl
  | [.bl _] => rfl
  | [.str _] => rfl
  | [.tup _] => rfl
  | [.ref _] => rfl
  | [.rl _] => rfl
  | [] => rfl
  | _ :: _ :: _ => simp
theorem wp_dRng2 {a : DA} {Q : Src → Store → Prop} : wp (dRng2 a ε S) Q E = wp (a ε S) (fun ws S1 => ∃ i j, ws = [.int i, .int j] ∧ bnd i = true ∧ bnd j = true ∧ Q ⟨rngW i (j - i).toNat, fun _ => True⟩ S1) E := by
  unfold dRng2
  refine wp_bind.trans (wp_congr fun ws S1 => ?_)
  by_cases h : ∃ i j, ws = [.int i, .int j]
  · obtain ⟨i, j, rfl⟩ := h
    refine propext ⟨fun z => ⟨i, j, rfl, ?_⟩, fun ⟨i', j', e, b1, b2, q⟩ => ?_⟩
    · cases h1 : bnd i <;> cases h2 : bnd j <;> simp_all [wp]
    · cases e
      simp only [b1, b2, Bool.and_self, if_true]
      exact q
  · have e : (∃ i j, ws = [W.int i, W.int j] ∧ bnd i = true ∧ bnd j = true ∧ Q ⟨rngW i (j - i).toNat, fun _ => True⟩ S1) = False := by
      refine propext ⟨fun ⟨i, j, e, _⟩ => h ⟨i, j, e⟩, False.elim⟩
    rw [e]
    split
    · exact (h ⟨_, _, rfl⟩).elim
    · rfl
theorem wp_dEnum {a : DA} {Q : Src → Store → Prop} : wp (dEnum a ε S) Q E = wp (a ε S) (fun ws S1 => ∃ n l, ws = [.ref n] ∧ S1[n]? = some (.lst l) ∧ Q ⟨enumL l, fun S' => S'[n]? = some (.lst l)⟩ S1) E := by
  unfold dEnum
  refine wp_bind.trans (wp_congr fun ws S1 => ?_)
  by_cases h : ∃ n l, ws = [.ref n] ∧ S1[n]? = some (.lst l)
  · obtain ⟨n, l, rfl, e⟩ := h
    simp [e, wp]
  · have e : (∃ n l, ws = [W.ref n] ∧ S1[n]? = some (.lst l) ∧ Q ⟨enumL l, fun S' => S'[n]? = some (.lst l)⟩ S1) = False := by
      refine propext ⟨fun ⟨i, j, e, e2, _⟩ => h ⟨i, j, e, e2⟩, False.elim⟩
    rw [e]
    split
    · split
      · rename_i l e2; exact (h ⟨_, _, rfl, e2⟩).elim
      · rfl
    · rfl
theorem wp_dLc {d : DI} {t : DT} {cnd : DB} {el : DE} {vs : List Nat} : wp (dLc d t cnd el vs ε S) Q E = wp (d ε S) (fun p S1 => lenOk p.items.length = true ∧ wp (lcL t cnd el p.g (wipeE ε vs) p.items S1) (fun ws S2 => Q (.ref S2.length) (S2 ++ [.lst ws])) E) E := by
  unfold dLc
  simp only [wp_bind, wp_chk, wp_alloc]
/-! ### statements -/
theorem wpS_sBind {α : Type} {m : M α} {f : α → Store → RS} : wpS (sBind m ε S f) D = wp (m S) (fun a S1 => wpS (f a S1) D) (fun x S1 => D.ex x ε S1) := by
  unfold sBind
  cases m S <;> rfl
theorem wpS_nx {ε : Ev} {S : Store} : wpS (.nx ε S) D = D.nx ε S := rfl
theorem wpS_rt {w : W} {S : Store} : wpS (.rt w S) D = D.rt w S := rfl
theorem wpS_bk : wpS (.bk ε S) D = D.bk ε S := rfl
theorem wpS_ct : wpS (.ct ε S) D = D.ct ε S := rfl
theorem wpS_exc {x : Ex} : wpS (.exc x ε S) D = D.ex x ε S := rfl
theorem wpS_bad : wpS .bad D = False := rfl
theorem wpS_ite {c : Prop} [Decidable c] {a b : RS} : wpS (if c then a else b) D = if c then wpS a D else wpS b D := by split <;> rfl
theorem wpS_dSeq {d e : DS} : wpS (dSeq d e ε S) D = wpS (d ε S) ⟨fun ε1 S1 => wpS (e ε1 S1) D, D.rt, D.bk, D.ct, D.ex⟩ := by
  unfold dSeq
  cases d ε S <;> rfl
theorem wpS_dNx : wpS (dNx ε S) D = D.nx ε S := rfl
theorem wpS_dBk : wpS (dBk ε S) D = D.bk ε S := rfl
theorem wpS_dCt : wpS (dCt ε S) D = D.ct ε S := rfl
theorem wpS_dDrop {d : DE} : wpS (dDrop d ε S) D = wp (d ε S) (fun _ S1 => D.nx ε S1) (fun x S1 => D.ex x ε S1) := by
  unfold dDrop; rw [wpS_sBind]; rfl
theorem wpS_dRet {d : DE} : wpS (dRet d ε S) D = wp (d ε S) (fun w S1 => D.rt w S1) (fun x S1 => D.ex x ε S1) := by
  unfold dRet; rw [wpS_sBind]; rfl
theorem wpS_dRetN : wpS (dRetN ε S) D = D.rt .non S := rfl
theorem wpS_dIf {c : DB} {t u : DS} : wpS (dIf c t u ε S) D = wp (c ε S) (fun b S1 => if b = true then wpS (t ε S1) D else wpS (u ε S1) D) (fun x S1 => D.ex x ε S1) := by
  unfold dIf; rw [wpS_sBind]
  congr 1; funext b S1
  cases b <;> rfl
theorem wpS_dSet {i : Nat} {d : DE} : wpS (dSet i d ε S) D = wp (d ε S) (fun w S1 => D.nx (ε.set i (some w)) S1) (fun x S1 => D.ex x ε S1) := by
  unfold dSet; rw [wpS_sBind]; rfl
theorem wpS_dAsg {t : DT} {d : DE} : wpS (dAsg t d ε S) D = wp (d ε S) (fun w S1 => wO (t w ε S1) fun ε1 => D.nx ε1 S1) (fun x S1 => D.ex x ε S1) := by
  unfold dAsg; rw [wpS_sBind]
  congr 1; funext w S1
  cases t w ε S1 <;> rfl
theorem wpS_dPar {i j : Nat} {a : DA} : wpS (dPar i j a ε S) D = wp (a ε S) (fun ws S1 => match ws with
    | [w, u] => D.nx ((ε.set i (some w)).set j (some u)) S1
    | _ => False) (fun x S1 => D.ex x ε S1) := by
  unfold dPar; rw [wpS_sBind]
  congr 1; funext ws S1
  match ws with
  | [] => rfl
  | [_] => rfl
  | [x, y] => rfl
  | _ :: _ :: _ :: _ => rfl
theorem wpS_dPar3 {i j l : Nat} {a : DA} : wpS (dPar3 i j l a ε S) D = wp (a ε S) (fun ws S1 => match ws with
    | [w, u, z] => D.nx (((ε.set i (some w)).set j (some u)).set l (some z)) S1
    | _ => False) (fun x S1 => D.ex x ε S1) := by
  unfold dPar3; rw [wpS_sBind]
  congr 1; funext ws S1
  match ws with
  | [] => rfl
  | [_] => rfl
  | [x, y] => rfl
  | [x, y, z] => rfl
  | _ :: _ :: _ :: _ :: _ => rfl
theorem wpS_dSet2 {i j : Nat} {d : DE} : wpS (dSet2 i j d ε S) D = wp (d ε S) (fun w S1 => D.nx ((ε.set i (some w)).set j (some w)) S1) (fun x S1 => D.ex x ε S1) := by
  unfold dSet2; rw [wpS_sBind]; rfl
theorem wpS_dPut {d o i : DE} : wpS (dPut d o i ε S) D = wp (d ε S) (fun v S1 => wp (o ε S1) (fun w S2 => wp (i ε S2) (fun j S3 => wO (setIx w j v S3) fun S4 => D.nx ε S4) (fun x S1 => D.ex x ε S1)) (fun x S1 => D.ex x ε S1)) (fun x S1 => D.ex x ε S1) := by
  unfold dPut; simp only [wpS_sBind]
  congr 1; funext v S1; congr 1; funext w S2; congr 1; funext j S3
  cases setIx w j v S3 <;> rfl
theorem wpS_dRaise {i : Nat} : wpS (dRaise i ε S) D = D.ex ⟨i, none⟩ ε S := rfl
theorem wpS_dFor {d : DI} {t : DT} {b : DS} : wpS (dFor d t b ε S) D = wp (d ε S) (fun p S1 => wpS (forL t b p.g p.items ε S1) D) (fun x S1 => D.ex x ε S1) := by
  unfold dFor; rw [wpS_sBind]
theorem wp_dfn {N n : Nat} {d : DS} {ws : List W} : wp (dfn N n d ws S) Q E = (ws.length = n ∧ wpS (d (ws.map some ++ List.replicate (N - n) none) S) ⟨fun _ S1 => Q .non S1, fun w S1 => Q w S1, fun _ _ => False, fun _ _ => False, fun x _ S1 => E x S1⟩) := by
  unfold dfn
  by_cases h : ws.length = n
  · rw [if_pos h]
    simp only [h, true_and]
    cases d (ws.map some ++ List.replicate (N - n) none) S <;> rfl
  · rw [if_neg h]
    simp [h]
end
/-! ### loops -/
theorem wpS_forL {t : DT} {body : DS} {g : Store → Prop} {D : NEnds} : ∀ {items : List W} {ε : Ev} {S : Store} (I : Nat → Ev → Store → Prop), I 0 ε S → (∀ i ε S, i ≤ items.length → I i ε S → g S) →
    (∀ i x ε S, items[i]? = some x → I i ε S → wO (t x ε S) fun ε1 => wpS (body ε1 S) ⟨fun ε' S' => I (i + 1) ε' S', D.rt, D.nx, fun ε' S' => I (i + 1) ε' S', D.ex⟩) →
    (∀ ε S, I items.length ε S → D.nx ε S) → wpS (forL t body g items ε S) D
  | [], ε, S, I, h0, hg, hs, hd => by
    unfold forL
    rw [if_pos (hg 0 _ _ (Nat.zero_le _) h0)]
    exact hd _ _ h0
  | x :: xs, ε, S, I, h0, hg, hs, hd => by
    unfold forL
    rw [if_pos (hg 0 _ _ (Nat.zero_le _) h0)]
    have h := hs 0 x ε S rfl h0
    cases z : t x ε S with
    | none => rw [z] at h; exact h.elim
    | some ε1 =>
      rw [z] at h
      have h : wpS (body ε1 S) _ := h
      have hrec : ∀ ε2 S2, I 1 ε2 S2 → wpS (forL t body g xs ε2 S2) D := fun ε2 S2 q =>
        wpS_forL (fun i => I (i + 1)) q (fun i ε S hi q => hg (i + 1) ε S (by simpa using hi) q) (fun i x ε S e q => hs (i + 1) x ε S (by simpa using e) q) (fun ε S q => hd ε S q)
      show wpS (match body ε1 S with
        | .nx ε2 S2 => forL t body g xs ε2 S2
        | .ct ε2 S2 => forL t body g xs ε2 S2
        | .bk ε2 S2 => .nx ε2 S2
        | r => r) D
      cases b : body ε1 S with
      | nx ε2 S2 => rw [b] at h; exact hrec _ _ h
      | ct ε2 S2 => rw [b] at h; exact hrec _ _ h
      | bk ε2 S2 => rw [b] at h; exact h
      | rt w S2 => rw [b] at h; exact h
      | exc x ε2 S2 => rw [b] at h; exact h
      | bad => rw [b] at h; exact h.elim
theorem wp_lcL {t : DT} {cnd : DB} {el : DE} {g : Store → Prop} {ε0 : Ev} {E : Ex → Store → Prop} : ∀ {items acc : List W} {S : Store} (I : Nat → List W → Store → Prop), I 0 acc S → (∀ i acc S, i ≤ items.length → I i acc S → g S) →
    (∀ i x acc S, items[i]? = some x → I i acc S → wO (t x ε0 S) fun ε1 => wp (cnd ε1 S) (fun b S1 => if b = true then wp (el ε1 S1) (fun w S2 => I (i + 1) (acc ++ [w]) S2) (fun _ _ => False) else I (i + 1) acc S1) (fun _ _ => False)) →
    wp (lcL t cnd el g ε0 items S) (fun ws S' => I items.length (acc ++ ws) S') E
  | [], acc, S, I, h0, hg, hs => by
    unfold lcL
    simp only [wp_bind, wp_grd, wp_ret]
    exact ⟨hg 0 _ _ (Nat.zero_le _) h0, by simpa using h0⟩
  | x :: xs, acc, S, I, h0, hg, hs => by
    unfold lcL
    simp only [wp_bind, wp_grd, wp_tgt, wp_noXe]
    refine ⟨hg 0 _ _ (Nat.zero_le _) h0, ?_⟩
    have h := hs 0 x acc S rfl h0
    cases z : t x ε0 S with
    | none => rw [z] at h; exact h.elim
    | some ε1 =>
      rw [z] at h
      have hrec : ∀ acc S, I 1 acc S → wp (lcL t cnd el g ε0 xs S) (fun ws S' => I (xs.length + 1) (acc ++ ws) S') E := fun acc S q =>
        wp_lcL (fun i => I (i + 1)) q (fun i acc S hi q => hg (i + 1) acc S (by simpa using hi) q) (fun i x acc S e q => hs (i + 1) x acc S (by simpa using e) q)
      show wp (cnd ε1 S) _ _
      refine wp_mono (h : wp (cnd ε1 S) _ _) (fun b S1 q => ?_) (fun _ _ f => f)
      cases b with
      | false => exact hrec _ _ q
      | true =>
        show wp ((noX (el ε1) >>= fun w => lcL t cnd el g ε0 xs >>= fun ws => M.ret (w :: ws)) S1) _ _
        simp only [wp_bind, wp_noXe, wp_ret]
        refine wp_mono (q : wp (el ε1 S1) _ _) (fun w S2 q2 => ?_) (fun _ _ f => f)
        refine wp_mono (hrec _ _ q2) (fun ws S3 q3 => ?_) (fun _ _ f => f)
        simpa using q3
theorem wpS_whL {t : DB} {body : DS} {D : NEnds} (I : Nat → Ev → Store → Prop) (hs : ∀ n ε S, I n ε S → wp (t ε S) (fun b S1 => if b = true then wpS (body ε S1) ⟨fun ε' S' => ∃ m, m < n ∧ I m ε' S', D.rt, D.nx, fun ε' S' => ∃ m, m < n ∧ I m ε' S', D.ex⟩ else D.nx ε S1) (fun x S1 => D.ex x ε S1)) :
    ∀ (f n : Nat) {ε : Ev} {S : Store}, n < f → I n ε S → wpS (whL t body f ε S) D
  | 0, n, ε, S, h, _ => absurd h (Nat.not_lt_zero _)
  | f + 1, n, ε, S, h, h0 => by
    unfold whL
    rw [wpS_sBind]
    refine wp_mono (hs n ε S h0) (fun b S1 q => ?_) (fun _ _ q => q)
    cases b with
    | false => exact q
    | true =>
      have q : wpS (body ε S1) _ := q
      show wpS (match body ε S1 with
        | .nx ε2 S2 => whL t body f ε2 S2
        | .ct ε2 S2 => whL t body f ε2 S2
        | .bk ε2 S2 => .nx ε2 S2
        | r => r) D
      cases b : body ε S1 with
      | nx ε2 S2 => rw [b] at q; obtain ⟨m, hm, q⟩ := q; exact wpS_whL I hs f m (by omega) q
      | ct ε2 S2 => rw [b] at q; obtain ⟨m, hm, q⟩ := q; exact wpS_whL I hs f m (by omega) q
      | bk ε2 S2 => rw [b] at q; exact q
      | rt w S2 => rw [b] at q; exact q
      | exc x ε2 S2 => rw [b] at q; exact q
      | bad => rw [b] at q; exact q.elim
theorem wpS_dWhile {t : DB} {body : DS} {D : NEnds} {ε : Ev} {S : Store} (n : Nat) (I : Nat → Ev → Store → Prop) (hn : n < 2 ^ 250) (h0 : I n ε S)
    (hs : ∀ n ε S, I n ε S → wp (t ε S) (fun b S1 => if b = true then wpS (body ε S1) ⟨fun ε' S' => ∃ m, m < n ∧ I m ε' S', D.rt, D.nx, fun ε' S' => ∃ m, m < n ∧ I m ε' S', D.ex⟩ else D.nx ε S1) (fun x S1 => D.ex x ε S1)) : wpS (dWhile t body ε S) D :=
  wpS_whL I hs fuel n hn h0
/-- a while that ends in P -/
theorem wpS_dWhileQ {t : DB} {body : DS} {D : NEnds} {ε : Ev} {S : Store} (n : Nat) (I : Nat → Ev → Store → Prop) (P : Ev → Store → Prop) (hn : n < 2 ^ 250) (h0 : I n ε S)
    (hs : ∀ n ε S, I n ε S → wp (t ε S) (fun b S1 => if b = true then wpS (body ε S1) ⟨fun ε' S' => ∃ m, m < n ∧ I m ε' S', fun _ _ => False, P, fun ε' S' => ∃ m, m < n ∧ I m ε' S', fun _ _ _ => False⟩ else P ε S1) (fun _ _ => False)) (hP : ∀ ε S, P ε S → D.nx ε S) : wpS (dWhile t body ε S) D :=
  wpS_mono (wpS_dWhile (D := ⟨P, fun _ _ => False, fun _ _ => False, fun _ _ => False, fun _ _ _ => False⟩) n I hn h0 hs) hP (fun _ _ h => h.elim) (fun _ _ h => h.elim) (fun _ _ h => h.elim) (fun _ _ _ h => h.elim)
/-- a statement that ends in P -/
theorem wpS_join {r : RS} {D : NEnds} (P : Ev → Store → Prop) (h : wpS r ⟨P, fun _ _ => False, fun _ _ => False, fun _ _ => False, fun _ _ _ => False⟩) (hP : ∀ ε S, P ε S → D.nx ε S) : wpS r D :=
  wpS_mono h hP (fun _ _ h => h.elim) (fun _ _ h => h.elim) (fun _ _ h => h.elim) (fun _ _ _ h => h.elim)
theorem wpS_join' {r : RS} {D : NEnds} (P : Ev → Store → Prop) (h : wpS r ⟨P, D.rt, D.bk, D.ct, D.ex⟩) (hP : ∀ ε S, P ε S → D.nx ε S) : wpS r D :=
  wpS_mono h hP (fun _ _ h => h) (fun _ _ h => h) (fun _ _ h => h) (fun _ _ _ h => h)
/-! ### what stays -/
/-- from S to S': grown, the places from B on as they were -/
structure Fr (B : Nat) (S S' : Store) : Prop where
  len : S.length ≤ S'.length
  get : ∀ (i : Nat) (o : O), B ≤ i → S[i]? = some o → S'[i]? = some o
theorem Fr.refl {B : Nat} {S : Store} : Fr B S S := ⟨Nat.le_refl _, fun _ _ _ e => e⟩
theorem Fr.trans {B : Nat} {S S' S2 : Store} (a : Fr B S S') (b : Fr B S' S2) : Fr B S S2 := ⟨Nat.le_trans a.len b.len, fun i o h e => b.get i o h (a.get i o h e)⟩
theorem Fr.up {B C : Nat} {S S' : Store} (a : Fr B S S') (h : B ≤ C) : Fr C S S' := ⟨a.len, fun i o hi e => a.get i o (Nat.le_trans h hi) e⟩
theorem Fr.app {B : Nat} {S T : Store} : Fr B S (S ++ T) := ⟨by simp, fun i o _ e => by rw [List.getElem?_append_left (List.getElem?_eq_some_iff.mp e).1]; exact e⟩
theorem Fr.snoc {B : Nat} {S S' T : Store} (a : Fr B S S') : Fr B S (S' ++ T) := a.trans .app
/-- a change at a place that S has not -/
theorem Fr.setN {B n : Nat} {S S' : Store} {o : O} (a : Fr B S S') (h : S.length ≤ n) : Fr B S (S'.set n o) := ⟨by simpa using a.len, fun i p hi e => by
  have := (List.getElem?_eq_some_iff.mp e).1
  rw [List.getElem?_set_ne (by omega)]
  exact a.get i p hi e⟩
theorem Fr.setB {B n : Nat} {S S' : Store} {o : O} (a : Fr B S S') (h : n < B) : Fr B S (S'.set n o) := ⟨by simpa using a.len, fun i p hi e => by
  rw [List.getElem?_set_ne (by omega)]
  exact a.get i p hi e⟩
theorem Fr.g0 {S S' : Store} (a : Fr 0 S S') {i : Nat} {o : O} (e : S[i]? = some o) : S'[i]? = some o := a.get i o (Nat.zero_le _) e
theorem get_new {S T : Store} {o : O} : (S ++ o :: T)[S.length]? = some o := by simp
theorem get_set {S : Store} {n : Nat} {o p : O} (e : S[n]? = some p) : (S.set n o)[n]? = some o := by
  rw [List.getElem?_set_self (List.getElem?_eq_some_iff.mp e).1]
theorem get_lt {S : Store} {n : Nat} {o : O} (e : S[n]? = some o) : n < S.length := (List.getElem?_eq_some_iff.mp e).1
end N
namespace N
open PySem L2
theorem opEq_int {i j : Int} {S : Store} : opEq (.int i) (.int j) S = some (.bl (i == j), S) := rfl
theorem opNe_int {i j : Int} {S : Store} : opNe (.int i) (.int j) S = some (.bl (!(i == j)), S) := rfl
theorem opEq_str {i j : Str} {S : Store} : opEq (.str i) (.str j) S = some (.bl (i == j), S) := rfl
theorem opNe_str {i j : Str} {S : Store} : opNe (.str i) (.str j) S = some (.bl (!(i == j)), S) := rfl
theorem opEq_bl {i j : Bool} {S : Store} : opEq (.bl i) (.bl j) S = some (.bl (i == j), S) := rfl
theorem opNe_bl {i j : Bool} {S : Store} : opNe (.bl i) (.bl j) S = some (.bl (!(i == j)), S) := rfl
theorem opAdd_int {i j : Int} {S : Store} : opAdd (.int i) (.int j) S = some (.int (i + j), S) := rfl
theorem opSub_int {i j : Int} {S : Store} : opSub (.int i) (.int j) S = some (.int (i - j), S) := rfl
theorem opMod_pos {i j : Int} {S : Store} : opMod (.int i) (.int j) S = if 0 < j then some (.int (i % j), S) else none := rfl
theorem opMul_int {i j : Int} {S : Store} : opMul (.int i) (.int j) S = if mulOk i j = true then some (.int (i * j), S) else none := rfl
theorem opFdiv_int {i j : Int} {S : Store} : opFdiv (.int i) (.int j) S = if divOk i j = true then some (.int (i / j), S) else none := rfl
theorem opPow_int {i j : Int} {S : Store} : opPow (.int i) (.int j) S = if powOk i j = true then some (.int (i ^ j.toNat), S) else none := rfl
theorem opLt_int {i j : Int} {S : Store} : opLt (.int i) (.int j) S = some (.bl (decide (i < j)), S) := rfl
theorem opLe_int {i j : Int} {S : Store} : opLe (.int i) (.int j) S = some (.bl (decide (i ≤ j)), S) := rfl
theorem opGt_int {i j : Int} {S : Store} : opGt (.int i) (.int j) S = some (.bl (decide (j < i)), S) := rfl
theorem opGe_int {i j : Int} {S : Store} : opGe (.int i) (.int j) S = some (.bl (decide (j ≤ i)), S) := rfl
theorem opLt_str {x y : Str} {S : Store} : opLt (.str x) (.str y) S = some (.bl (decide (x.cps.toList < y.cps.toList)), S) := rfl
theorem opLe_str {x y : Str} {S : Store} : opLe (.str x) (.str y) S = some (.bl (!decide (y.cps.toList < x.cps.toList)), S) := rfl
theorem opIsN_ref {n : Nat} {S : Store} : opIsN (.ref n) .non S = some (.bl false, S) := rfl
theorem opIsN_non {S : Store} : opIsN .non .non S = some (.bl true, S) := rfl
theorem opIsN_int {n : Int} {S : Store} : opIsN (.int n) .non S = some (.bl false, S) := rfl
theorem opIsN_bl {n : Bool} {S : Store} : opIsN (.bl n) .non S = some (.bl false, S) := rfl
theorem opIsN_tup {n : List W} {S : Store} : opIsN (.tup n) .non S = some (.bl false, S) := rfl
theorem opIsN_str {n : Str} {S : Store} : opIsN (.str n) .non S = some (.bl false, S) := rfl
theorem opIsN_any {w : W} {S : Store} : opIsN w .non S = some (.bl (isNon w), S) := rfl
theorem ixN_pos {n : Nat} {i : Int} (h0 : 0 ≤ i) (h1 : i < n) : ixN n i = some i.toNat := by unfold ixN; rw [if_pos h0, if_pos h1]
theorem atI_nn {α : Type} {xs : List α} {i : Int} (h : 0 ≤ i) : atI xs i = xs[i.toNat]? := by
  unfold atI ixN
  rw [if_pos h]
  by_cases h1 : i < xs.length
  · rw [if_pos h1]; rfl
  · rw [if_neg h1]
    have : xs.length ≤ i.toNat := by omega
    rw [List.getElem?_eq_none this]; rfl
theorem atI_0 {α : Type} {xs : List α} : atI xs 0 = xs[0]? := atI_nn (by decide)
theorem atI_1 {α : Type} {xs : List α} : atI xs 1 = xs[1]? := atI_nn (by decide)
theorem atI_2 {α : Type} {xs : List α} : atI xs 2 = xs[2]? := atI_nn (by decide)
theorem atI_3 {α : Type} {xs : List α} : atI xs 3 = xs[3]? := atI_nn (by decide)
theorem atI_n {α : Type} {xs : List α} {n : Nat} : atI xs (n : Int) = xs[n]? := atI_nn (by omega)
/-- the list at a place -/
def lstAt (S : Store) (n : Nat) : Option (List W) := match S[n]? with
  | some (.lst ws) => some ws
  | _ => none
theorem lstAt_of {S : Store} {n : Nat} {ws : List W} (e : S[n]? = some (.lst ws)) : lstAt S n = some ws := by unfold lstAt; rw [e]
theorem opIx_ref {n : Nat} {i : Int} {S : Store} : opIx (.ref n) (.int i) S = (lstAt S n).bind fun ws => (atI ws i).map fun w => (w, S) := by
  unfold opIx seqW lstAt
  rfl
theorem opIx_tup {ws : List W} {i : Int} {S : Store} : opIx (.tup ws) (.int i) S = (atI ws i).map fun w => (w, S) := rfl
theorem opIx_rl {ws : List W} {i : Int} {S : Store} : opIx (.rl ws) (.int i) S = (atI ws i).map fun w => (w, S) := rfl
theorem opLen_ref {n : Nat} {ws : List W} {S : Store} (e : S[n]? = some (.lst ws)) : opLen [.ref n] S = some (.int ws.length, S) := by
  unfold opLen lenW
  simp only [e]
  rfl
theorem opLen_tup {ws : List W} {S : Store} : opLen [.tup ws] S = some (.int ws.length, S) := rfl
theorem opLen_rl {ws : List W} {S : Store} : opLen [.rl ws] S = some (.int ws.length, S) := rfl
theorem opLen_str {x : Str} {S : Store} : opLen [.str x] S = if x.length ≤ sizeLine then some (.int x.length, S) else none := by
  unfold opLen lenW
  by_cases h : x.length ≤ sizeLine
  · simp [h]
  · simp [h]
theorem opMax2_int {i j : Int} {S : Store} : opMax2 [.int i, .int j] S = some (.int (if j > i then j else i), S) := rfl
theorem opMin2_int {i j : Int} {S : Store} : opMin2 [.int i, .int j] S = some (.int (if j < i then j else i), S) := rfl
theorem opInt_int {i : Int} {S : Store} : opInt [.int i] S = some (.int i, S) := rfl
theorem opInt_bl {i : Bool} {S : Store} : opInt [.bl i] S = some (.int (if i then 1 else 0), S) := rfl
theorem mAppend_ref {n : Nat} {w : W} {l : List W} {S : Store} (e : S[n]? = some (.lst l)) : mAppend (.ref n) [w] S = if l.length < sizeLine then some (.non, S.set n (.lst (l ++ [w]))) else none := by
  unfold mAppend
  simp only [e]
theorem setIx_ref {n : Nat} {i : Int} {v : W} {l : List W} {S : Store} (e : S[n]? = some (.lst l)) : setIx (.ref n) (.int i) v S = (ixN l.length i).map fun m => S.set n (.lst (l.set m v)) := by
  unfold setIx
  simp only [e]
theorem tyN_ref {n : Nat} {l : List W} {S : Store} (e : S[n]? = some (.lst l)) : tyN (.ref n) S = some "list" := by
  unfold tyN
  simp only [e]
theorem tyM_ref {n : Nat} {l : List W} {S : Store} (e : S[n]? = some (.lst l)) : tyM "list" (.ref n) S = true := by
  unfold tyM
  simp only [e]
  rfl
theorem tyN_non {S : Store} : tyN .non S = some "NoneType" := rfl
theorem tyN_bl {b : Bool} {S : Store} : tyN (.bl b) S = some "bool" := rfl
theorem tyN_int {b : Int} {S : Store} : tyN (.int b) S = some "int" := rfl
theorem tyN_str {b : Str} {S : Store} : tyN (.str b) S = some "str" := rfl
theorem tyN_tup {b : List W} {S : Store} : tyN (.tup b) S = some "tuple" := rfl
theorem tyN_rl {b : List W} {S : Store} : tyN (.rl b) S = some "list" := rfl
theorem truthW_bl {b : Bool} {S : Store} : truthW (.bl b) S = some b := rfl
theorem srcW_ref {n : Nat} {l : List W} {S : Store} (e : S[n]? = some (.lst l)) : srcW (.ref n) S = some ⟨l, fun S' => S'[n]? = some (.lst l)⟩ := by
  unfold srcW
  simp only [e]
theorem srcW_tup {l : List W} {S : Store} : srcW (.tup l) S = some ⟨l, fun _ => True⟩ := rfl
theorem srcW_rl {l : List W} {S : Store} : srcW (.rl l) S = some ⟨l, fun _ => True⟩ := rfl
theorem opAdd_ref {n m : Nat} {a b : List W} {S : Store} (h1 : S[n]? = some (.lst a)) (h2 : S[m]? = some (.lst b)) (h : a.length + b.length ≤ 1000000) : opAdd (.ref n) (.ref m) S = some (.ref S.length, S ++ [.lst (a ++ b)]) := by
  unfold opAdd
  simp only [h1, h2]
  rw [if_pos (by rw [sizeLine_eq]; omega)]
theorem opSl_ref {n : Nat} {a : List W} {lo hi : Option Int} {S : Store} (h1 : S[n]? = some (.lst a)) : opSl (.ref n) lo hi S = some (.ref S.length, S ++ [.lst (cutL a lo hi)]) := by
  unfold opSl
  have e : listW (.ref n) S = some a := by
    unfold listW
    simp only [h1]
  show (listW (.ref n) S).map _ = _
  rw [e]
  rfl
theorem lenOk_of {n : Nat} (h : n ≤ 1000000) : lenOk n = true := by
  unfold lenOk
  rw [sizeLine_eq]
  exact decide_eq_true (by omega)
theorem log2_lt {x : Int} {k : Nat} (h : x.natAbs < 2 ^ k) (hk : 0 < k) : x.natAbs.log2 < k := by
  by_cases z : x.natAbs = 0
  · rw [z]; simpa using hk
  · exact (Nat.log2_lt z).mpr h
theorem mulOk_of {i j : Int} (hi : i.natAbs < 2 ^ 1000) (hj : j.natAbs < 2 ^ 1000) : mulOk i j = true := by
  have h1 := log2_lt hi (by decide)
  have h2 := log2_lt hj (by decide)
  unfold mulOk
  exact decide_eq_true (by omega)
theorem pow3Ok {i : Int} (hi : i.natAbs < 2 ^ 1000) : powOk i 3 = true := by
  have h1 := log2_lt hi (by decide)
  unfold powOk
  refine decide_eq_true ⟨by decide, ?_⟩
  show (i.natAbs.log2 + 1) * 3 ≤ _
  omega
theorem pow2Ok {i : Int} (hi : i.natAbs < 2 ^ 1000) : powOk i 2 = true := by
  have h1 := log2_lt hi (by decide)
  unfold powOk
  refine decide_eq_true ⟨by decide, ?_⟩
  show (i.natAbs.log2 + 1) * 2 ≤ _
  omega
theorem divOk_of {i j : Int} (h0 : 0 < j) (hj : j.natAbs < 2 ^ 1000) : divOk i j = true := by
  have h2 := log2_lt hj (by decide)
  unfold divOk
  exact decide_eq_true ⟨h0, by omega⟩
/-! ### the deck -/
structure Deck (B n d : Nat) (S : Store) : Prop where
  bl : B ≤ S.length
  ex : ∃ (rs : Nat) (k : Int) (cs : List W), d < B ∧ rs < B ∧ d ≠ rs ∧ S[d]? = some (.lst [.ref rs, .int k]) ∧ S[rs]? = some (.lst cs) ∧ cs ≠ [] ∧
    ∀ c ∈ cs, ∃ (p : Nat) (a b t : Int), c = .ref p ∧ p < B ∧ p ≠ d ∧ p ≠ rs ∧ S[p]? = some (.lst [.int a, .int b, .int t]) ∧ 0 ≤ t ∧ t ≤ n
theorem Deck.mono {B n d m : Nat} {S S' : Store} (D : Deck B n d S) (h : n ≤ m) (f : Fr 0 S S') : Deck B m d S' := by
  obtain ⟨rs, k, cs, h1, h2, h3, h4, h5, h6, h7⟩ := D.ex
  refine ⟨Nat.le_trans D.bl f.len, rs, k, cs, h1, h2, h3, f.g0 h4, f.g0 h5, h6, fun c hc => ?_⟩
  obtain ⟨p, a, b, t, e1, e2, e3, e4, e5, e6, e7⟩ := h7 c hc
  exact ⟨p, a, b, t, e1, e2, e3, e4, f.g0 e5, e6, by omega⟩
theorem Deck.setB {B n d m k : Nat} {o : O} {S : Store} (D : Deck B n d S) (h : n ≤ m) (hk : B ≤ k) : Deck B m d (S.set k o) := by
  obtain ⟨rs, k', cs, h1, h2, h3, h4, h5, h6, h7⟩ := D.ex
  refine ⟨by rw [List.length_set]; exact D.bl, rs, k', cs, h1, h2, h3, by rw [List.getElem?_set_ne (by omega)]; exact h4, by rw [List.getElem?_set_ne (by omega)]; exact h5, h6, fun c hc => ?_⟩
  obtain ⟨p, a, b, t, e1, e2, e3, e4, e5, e6, e7⟩ := h7 c hc
  exact ⟨p, a, b, t, e1, e2, e3, e4, by rw [List.getElem?_set_ne (by omega)]; exact e5, e6, by omega⟩
def d_law_draw : DS :=
  dSeq (dSet 2 (dOp opIx (dOp opIx (dVar 0) (dC (.int 0))) (dOp opMod (dOp opIx (dVar 0) (dC (.int 1))) (dFn opLen (aCons (dOp opIx (dVar 0) (dC (.int 0))) aNil)))))
  (dSeq (dPut (dOp opAdd (dOp opIx (dVar 0) (dC (.int 1))) (dC (.int 1))) (dVar 0) (dC (.int 1)))
  (dSeq (dIf (dAnd (dBool (dOp opEq (dOp opIx (dVar 2) (dC (.int 1))) (dC (.int 1)))) (dBool (dOp opGt (dOp opIx (dVar 2) (dC (.int 0))) (dC (.int 0))))) (dSeq (dSet 4 (dOp opMod (dOp opIx (dVar 2) (dC (.int 0))) (dVar 1)))
  (dSeq (dPut (dOp opFdiv (dOp opIx (dVar 2) (dC (.int 0))) (dVar 1)) (dVar 2) (dC (.int 0)))
  (dRet (dVar 4)))) (dNx))
  (dSeq (dPut (dOp opAdd (dOp opIx (dVar 2) (dC (.int 2))) (dC (.int 1))) (dVar 2) (dC (.int 2)))
  (dSeq (dSet 3 (dOp opAdd (dOp opMod (dOp opIx (dVar 2) (dC (.int 0))) (dC (.int 162259276829213363391578010288127))) (dOp opMul (dC (.int 982451653)) (dOp opIx (dVar 2) (dC (.int 2))))))
  (dSeq (dSet 3 (dOp opMod (dOp opPow (dVar 3) (dC (.int 3))) (dC (.int 618970019642690137449562111))))
  (dSeq (dSet 3 (dOp opMod (dOp opPow (dOp opAdd (dVar 3) (dOp opMul (dC (.int 49979687)) (dOp opIx (dVar 2) (dC (.int 2))))) (dC (.int 3))) (dC (.int 162259276829213363391578010288127))))
  (dRet (dOp opMod (dOp opFdiv (dVar 3) (dC (.int 524288))) (dVar 1)))))))))
def n_law_draw : List W → M W := dfn 5 2 d_law_draw
/-- a draw -/
theorem draw_spec {B n d : Nat} {S : Store} {m : Int} {E : Ex → Store → Prop} (D : Deck B n d S) (hn : n < 2 ^ 100) (h0 : 0 < m) (h1 : m < 2 ^ 900) :
    wp (n_law_draw [.ref d, .int m] S) (fun r S' => ∃ k : Int, r = .int k ∧ 0 ≤ k ∧ k < m ∧ Deck B (n + 1) d S' ∧ Fr B S S' ∧ S'.length = S.length) E := by
  obtain ⟨rs, k, cs, hd, hrs, hne, e1, e2, hcs, hcards⟩ := D.ex
  have hpos : (0 : Int) < (cs.length : Int) := by
    cases cs with
    | nil => exact absurd rfl hcs
    | cons _ _ => simp only [List.length_cons]; omega
  have m0 : 0 ≤ k % (cs.length : Int) := Int.emod_nonneg _ (by omega)
  have m1 : k % (cs.length : Int) < cs.length := Int.emod_lt_of_pos _ hpos
  obtain ⟨c, hc⟩ : ∃ c, cs[(k % (cs.length : Int)).toNat]? = some c := by
    have : (k % (cs.length : Int)).toNat < cs.length := by omega
    exact ⟨_, List.getElem?_eq_getElem this⟩
  obtain ⟨p, a, b, t, rfl, hp, hpd, hprs, e3, t0, t1⟩ := hcards c (List.mem_of_getElem? hc)
  unfold n_law_draw d_law_draw
  simp only [wp_ok, wp_exc, wp_ret, wp_badM, wp_lift, wp_chk, wp_alloc, wp_grd, wp_tgt, wp_noXe, wp_dVar, wp_dC, wp_aNil, wp_aCons, wp_dTup, wp_dLst, wp_dOp, wp_dUn, wp_dFn, wB_bl, wp_dChain, wp_dTru, wp_dBool, wp_dNot, wp_dAnd, wp_dOr, wp_dAndV, wp_dOrV, wp_dNotV, wp_dIfE, wp_dYes, wp_dCall, wp_dCallK, wp_dIsi, wp_dIsi2, wp_dMt, wp_oN, wI_int, wp_oS, wp_dSl, wp_dSrc, wp_dZip, wp_dRng1, wp_dRng2, wp_dEnum, wp_dLc, wpS_nx, wpS_rt, wpS_bk, wpS_ct, wpS_exc, wpS_bad, wpS_ite, wpS_dSeq, wpS_dNx, wpS_dBk, wpS_dCt, wpS_dDrop, wpS_dRet, wpS_dRetN, wpS_dIf, wpS_dSet, wpS_dAsg, wpS_dPar, wpS_dPar3, wpS_dSet2, wpS_dPut, wpS_dRaise, wpS_dFor, wp_dfn, wO_some, wO_none, wO_map, wO_bind, wO_ite, List.map_cons, List.map_nil, List.replicate_succ, List.replicate_zero, List.cons_append, List.nil_append, Nat.reduceSub, Nat.reduceAdd, List.getElem?_cons_zero, List.getElem?_cons_succ, List.set_cons_zero, List.set_cons_succ, List.length_cons, List.length_nil, tgN, tgNil, tgCons, tgTup, wipeE, isT, String.reduceBEq, Bool.and_false, Bool.false_and, Bool.true_and, Bool.and_true, Bool.or_false, Bool.false_or, Bool.true_or, Bool.or_true, Bool.not_true, Bool.not_false, if_true, if_false, true_and, and_true, Bool.false_eq_true, Bool.true_eq_false, reduceIte, opEq_int, opNe_int, opEq_str, opNe_str, opAdd_int, opSub_int, opMod_pos, opLt_int, opLe_int, opGt_int, opGe_int, opLt_str, opLe_str, opIsN_ref, opIsN_non, opIsN_int, opIsN_tup, opIsN_str, opIsN_bl, opEq_bl, opNe_bl, opFdiv_int, opMul_int, opPow_int, atI_0, atI_1, atI_2, opIx_ref, opIx_tup, opIx_rl, opLen_tup, opLen_str, opLen_rl, opMax2_int, opMin2_int, opInt_int, opInt_bl, tyN_non, tyN_bl, tyN_int, tyN_str, tyN_tup, tyN_rl, truthW_bl, srcW_tup, srcW_rl, lstAt_of e1, lstAt_of e2, Option.bind_some, Option.map_some, opLen_ref e2, hpos, atI_nn m0, hc, setIx_ref e1, ixN_pos (show (0:Int) ≤ 1 by decide)]
  have i21 : ixN 2 1 = some 1 := rfl
  have i30 : ixN 3 0 = some 0 := rfl
  have i32 : ixN 3 2 = some 2 := rfl
  simp only [i21, wO_some, List.map_cons, List.map_nil, List.replicate_succ, List.replicate_zero, List.cons_append, List.nil_append, Nat.reduceSub, Nat.reduceAdd, List.getElem?_cons_zero, List.getElem?_cons_succ, List.set_cons_zero, List.set_cons_succ, List.length_cons, List.length_nil, tgN, tgNil, tgCons, tgTup, wipeE, isT, String.reduceBEq, Bool.and_false, Bool.false_and, Bool.true_and, Bool.and_true, Bool.or_false, Bool.false_or, Bool.true_or, Bool.or_true, Bool.not_true, Bool.not_false, if_true, if_false, true_and, and_true, Bool.false_eq_true, Bool.true_eq_false, reduceIte]
  have g1 : (List.set S d (O.lst [W.ref rs, W.int (k + 1)]))[d]? = some (.lst [.ref rs, .int (k + 1)]) := get_set e1
  have g2 : (List.set S d (O.lst [W.ref rs, W.int (k + 1)]))[rs]? = some (.lst cs) := by rw [List.getElem?_set_ne hne]; exact e2
  have g3 : ∀ q : Nat, q ≠ d → (List.set S d (O.lst [W.ref rs, W.int (k + 1)]))[q]? = S[q]? := fun q hq => List.getElem?_set_ne (Ne.symm hq)
  have gl : (List.set S d (O.lst [W.ref rs, W.int (k + 1)])).length = S.length := by simp
  have gf : Fr B S (List.set S d (O.lst [W.ref rs, W.int (k + 1)])) := Fr.refl.setB hd
  generalize List.set S d (O.lst [W.ref rs, W.int (k + 1)]) = S1 at g1 g2 g3 gl gf ⊢
  have e4 : S1[p]? = some (.lst [.int a, .int b, .int t]) := by rw [g3 p hpd]; exact e3
  have fin : ∀ (a' b' t' : Int), 0 ≤ t' → t' ≤ n + 1 → Deck B (n + 1) d (List.set S1 p (.lst [.int a', .int b', .int t'])) ∧ Fr B S (List.set S1 p (.lst [.int a', .int b', .int t'])) ∧ (List.set S1 p (.lst [.int a', .int b', .int t'])).length = S.length := fun a' b' t' q0 q1 => by
    refine ⟨⟨by rw [List.length_set, gl]; exact D.bl, rs, k + 1, cs, hd, hrs, hne, by rw [List.getElem?_set_ne hpd]; exact g1, by rw [List.getElem?_set_ne hprs]; exact g2, hcs, fun c' hc' => ?_⟩, gf.setB hp, by simpa using gl⟩
    obtain ⟨p', a2, b2, t2, z1, z2, z3, z4, z5, z6, z7⟩ := hcards c' hc'
    by_cases hpp : p' = p
    · subst hpp
      exact ⟨p', a', b', t', z1, z2, z3, z4, get_set e4, q0, by omega⟩
    · exact ⟨p', a2, b2, t2, z1, z2, z3, z4, by rw [List.getElem?_set_ne (Ne.symm hpp), g3 p' z3]; exact z5, z6, by omega⟩
  have mod_lt : ∀ x : Int, 0 ≤ x % m ∧ x % m < m := fun x => ⟨Int.emod_nonneg _ (by omega), Int.emod_lt_of_pos _ h0⟩
  have mabs : m.natAbs < 2 ^ 1000 := by
    have : m.natAbs < 2 ^ 900 := by omega
    exact Nat.lt_of_lt_of_le this (Nat.pow_le_pow_right (by decide) (by decide))
  simp only [wp_ok, wp_exc, wp_ret, wp_badM, wp_lift, wp_chk, wp_alloc, wp_grd, wp_tgt, wp_noXe, wp_dVar, wp_dC, wp_aNil, wp_aCons, wp_dTup, wp_dLst, wp_dOp, wp_dUn, wp_dFn, wB_bl, wp_dChain, wp_dTru, wp_dBool, wp_dNot, wp_dAnd, wp_dOr, wp_dAndV, wp_dOrV, wp_dNotV, wp_dIfE, wp_dYes, wp_dCall, wp_dCallK, wp_dIsi, wp_dIsi2, wp_dMt, wp_oN, wI_int, wp_oS, wp_dSl, wp_dSrc, wp_dZip, wp_dRng1, wp_dRng2, wp_dEnum, wp_dLc, wpS_nx, wpS_rt, wpS_bk, wpS_ct, wpS_exc, wpS_bad, wpS_ite, wpS_dSeq, wpS_dNx, wpS_dBk, wpS_dCt, wpS_dDrop, wpS_dRet, wpS_dRetN, wpS_dIf, wpS_dSet, wpS_dAsg, wpS_dPar, wpS_dPar3, wpS_dSet2, wpS_dPut, wpS_dRaise, wpS_dFor, wp_dfn, wO_some, wO_none, wO_map, wO_bind, wO_ite, List.map_cons, List.map_nil, List.replicate_succ, List.replicate_zero, List.cons_append, List.nil_append, Nat.reduceSub, Nat.reduceAdd, List.getElem?_cons_zero, List.getElem?_cons_succ, List.set_cons_zero, List.set_cons_succ, List.length_cons, List.length_nil, tgN, tgNil, tgCons, tgTup, wipeE, isT, String.reduceBEq, Bool.and_false, Bool.false_and, Bool.true_and, Bool.and_true, Bool.or_false, Bool.false_or, Bool.true_or, Bool.or_true, Bool.not_true, Bool.not_false, if_true, if_false, true_and, and_true, Bool.false_eq_true, Bool.true_eq_false, reduceIte, opEq_int, opNe_int, opEq_str, opNe_str, opAdd_int, opSub_int, opMod_pos, opLt_int, opLe_int, opGt_int, opGe_int, opLt_str, opLe_str, opIsN_ref, opIsN_non, opIsN_int, opIsN_tup, opIsN_str, opIsN_bl, opEq_bl, opNe_bl, opFdiv_int, opMul_int, opPow_int, atI_0, atI_1, atI_2, opIx_ref, opIx_tup, opIx_rl, opLen_tup, opLen_str, opLen_rl, opMax2_int, opMin2_int, opInt_int, opInt_bl, tyN_non, tyN_bl, tyN_int, tyN_str, tyN_tup, tyN_rl, truthW_bl, srcW_tup, srcW_rl, lstAt_of e4, Option.bind_some, Option.map_some, h0, divOk_of h0 mabs, setIx_ref e4, i30, i32]
  have tail : wO (lstAt (List.set S1 p (O.lst [W.int a, W.int b, W.int (t + 1)])) p) fun _ => True := by rw [lstAt_of (get_set e4)]; trivial
  have e5 : (List.set S1 p (O.lst [W.int a, W.int b, W.int (t + 1)]))[p]? = some (.lst [.int a, .int b, .int (t + 1)]) := get_set e4
  obtain ⟨f1, f2, f3⟩ := fin a b (t + 1) (by omega) (by omega)
  generalize List.set S1 p (O.lst [W.int a, W.int b, W.int (t + 1)]) = S2 at e5 f1 f2 f3 tail ⊢
  have b1 : ∀ x y : Int, 0 < y → y < 2 ^ 200 → (x % y).natAbs < 2 ^ 1000 ∧ (x % y).natAbs < 2 ^ 200 := fun x y h1 h2 => by
    have := Int.emod_nonneg x (show y ≠ 0 by omega)
    have := Int.emod_lt_of_pos x h1
    have h3 : (x % y).natAbs < 2 ^ 200 := by omega
    exact ⟨Nat.lt_of_lt_of_le h3 (Nat.pow_le_pow_right (by decide) (by decide)), h3⟩
  have tb : (t + 1).natAbs < 2 ^ 1000 := by
    have : (t + 1).natAbs < 2 ^ 101 := by omega
    exact Nat.lt_of_lt_of_le this (Nat.pow_le_pow_right (by decide) (by decide))
  have tb2 : (t + 1).natAbs < 2 ^ 101 := by omega
  have big : ∀ x c : Int, x.natAbs < 2 ^ 200 → 0 < c → c < 2 ^ 40 → (x + c * (t + 1)).natAbs < 2 ^ 1000 := fun x c h1 h2 h3 => by
    have h4 : (c * (t + 1)).natAbs ≤ 2 ^ 40 * 2 ^ 101 := by
      rw [Int.natAbs_mul]
      exact Nat.mul_le_mul (by omega) (by omega)
    have h5 : (x + c * (t + 1)).natAbs ≤ x.natAbs + (c * (t + 1)).natAbs := Int.natAbs_add_le _ _
    have h6 : (x + c * (t + 1)).natAbs < 2 ^ 201 := by omega
    exact Nat.lt_of_lt_of_le h6 (Nat.pow_le_pow_right (by decide) (by decide))
  simp only [wp_ok, wp_exc, wp_ret, wp_badM, wp_lift, wp_chk, wp_alloc, wp_grd, wp_tgt, wp_noXe, wp_dVar, wp_dC, wp_aNil, wp_aCons, wp_dTup, wp_dLst, wp_dOp, wp_dUn, wp_dFn, wB_bl, wp_dChain, wp_dTru, wp_dBool, wp_dNot, wp_dAnd, wp_dOr, wp_dAndV, wp_dOrV, wp_dNotV, wp_dIfE, wp_dYes, wp_dCall, wp_dCallK, wp_dIsi, wp_dIsi2, wp_dMt, wp_oN, wI_int, wp_oS, wp_dSl, wp_dSrc, wp_dZip, wp_dRng1, wp_dRng2, wp_dEnum, wp_dLc, wpS_nx, wpS_rt, wpS_bk, wpS_ct, wpS_exc, wpS_bad, wpS_ite, wpS_dSeq, wpS_dNx, wpS_dBk, wpS_dCt, wpS_dDrop, wpS_dRet, wpS_dRetN, wpS_dIf, wpS_dSet, wpS_dAsg, wpS_dPar, wpS_dPar3, wpS_dSet2, wpS_dPut, wpS_dRaise, wpS_dFor, wp_dfn, wO_some, wO_none, wO_map, wO_bind, wO_ite, List.map_cons, List.map_nil, List.replicate_succ, List.replicate_zero, List.cons_append, List.nil_append, Nat.reduceSub, Nat.reduceAdd, List.getElem?_cons_zero, List.getElem?_cons_succ, List.set_cons_zero, List.set_cons_succ, List.length_cons, List.length_nil, tgN, tgNil, tgCons, tgTup, wipeE, isT, String.reduceBEq, Bool.and_false, Bool.false_and, Bool.true_and, Bool.and_true, Bool.or_false, Bool.false_or, Bool.true_or, Bool.or_true, Bool.not_true, Bool.not_false, if_true, if_false, true_and, and_true, Bool.false_eq_true, Bool.true_eq_false, reduceIte, opEq_int, opNe_int, opEq_str, opNe_str, opAdd_int, opSub_int, opMod_pos, opLt_int, opLe_int, opGt_int, opGe_int, opLt_str, opLe_str, opIsN_ref, opIsN_non, opIsN_int, opIsN_tup, opIsN_str, opIsN_bl, opEq_bl, opNe_bl, opFdiv_int, opMul_int, opPow_int, atI_0, atI_1, atI_2, opIx_ref, opIx_tup, opIx_rl, opLen_tup, opLen_str, opLen_rl, opMax2_int, opMin2_int, opInt_int, opInt_bl, tyN_non, tyN_bl, tyN_int, tyN_str, tyN_tup, tyN_rl, truthW_bl, srcW_tup, srcW_rl, lstAt_of e5, Option.bind_some, Option.map_some]
  have c1 : (0 : Int) < 162259276829213363391578010288127 := by decide
  have c2 : (0 : Int) < 618970019642690137449562111 := by decide
  simp only [c1, c2, if_true, wO_some, List.map_cons, List.map_nil, List.replicate_succ, List.replicate_zero, List.cons_append, List.nil_append, Nat.reduceSub, Nat.reduceAdd, List.getElem?_cons_zero, List.getElem?_cons_succ, List.set_cons_zero, List.set_cons_succ, List.length_cons, List.length_nil, tgN, tgNil, tgCons, tgTup, wipeE, isT, String.reduceBEq, Bool.and_false, Bool.false_and, Bool.true_and, Bool.and_true, Bool.or_false, Bool.false_or, Bool.true_or, Bool.or_true, Bool.not_true, Bool.not_false, if_true, if_false, true_and, and_true, Bool.false_eq_true, Bool.true_eq_false, reduceIte]
  have k1 := mulOk_of (i := 982451653) (by decide) tb
  have k2 := mulOk_of (i := 49979687) (by decide) tb
  simp only [k1, k2, if_true, wO_some, opAdd_int, opPow_int]
  have k3 := pow3Ok (big (a % 162259276829213363391578010288127) 982451653 (b1 _ _ c1 (by decide)).2 (by decide) (by decide))
  simp only [k3, if_true, wO_some, opMod_pos, c2, opAdd_int, opPow_int]
  have k4 := fun x => pow3Ok (big (x % 618970019642690137449562111) 49979687 (b1 _ _ c2 (by decide)).2 (by decide) (by decide))
  simp only [k4, if_true, wO_some, opMod_pos, c1, opFdiv_int]
  have k5 : ∀ x, divOk x 524288 = true := fun x => divOk_of (by decide) (by decide)
  simp only [k5, if_true, wO_some, opMod_pos, h0]
  have last : ∀ x : Int, ∃ k : Int, W.int (x % m) = W.int k ∧ 0 ≤ k ∧ k < m ∧ Deck B (n + 1) d S2 ∧ Fr B S S2 ∧ S2.length = S.length := fun x => ⟨_, rfl, (mod_lt x).1, (mod_lt x).2, f1, f2, f3⟩
  by_cases hb : (b == 1) = true
  · rw [if_pos hb]
    by_cases ha : decide (0 < a) = true
    · rw [if_pos ha]
      exact ⟨_, rfl, (mod_lt a).1, (mod_lt a).2, fin _ _ _ t0 (by omega)⟩
    · rw [if_neg ha]
      exact last _
  · rw [if_neg hb]
    exact last _
/-! ### the deck made -/
noncomputable def d_law_deck : DS :=
  dSeq (dSet 1 (dLst (aNil)))
  (dSeq (dFor (dRng1 (aCons (dFn opMax2 (aCons (dC (.int 1)) (aCons (dFn opMin2 (aCons (dC (.int 63)) (aCons (dFn opLen (aCons (dVar 0) aNil)) aNil))) aNil))) aNil)) (tgN 2) (dSeq (dSet 3 (dC (.int 0)))
  (dSeq (dIf (dBool (dOp opLt (dVar 2) (dFn opLen (aCons (dVar 0) aNil)))) (dSet 3 (dOp opIx (dVar 0) (dVar 2))) (dNx))
  (dDrop (dMt "list" mAppend (dVar 1) (aCons (dLst (aCons (dVar 3) (aCons (dFn opInt (aCons (dOp opGe (dVar 3) (dOp opPow (dC (.int 10)) (dC (.int 18)))) aNil)) (aCons (dOp opMul (dC (.int 31)) (dVar 2)) (aNil))))) (aNil)))))))
  (dRet (dLst (aCons (dVar 1) (aCons (dC (.int 0)) (aNil))))))
noncomputable def n_law_deck : List W → M W := dfn 4 1 d_law_deck
theorem rngW_get {lo : Int} {n i : Nat} {x : W} (e : (rngW lo n)[i]? = some x) : i < n ∧ x = .int (lo + i) := by
  unfold rngW at e
  rw [List.getElem?_map, Option.map_eq_some_iff] at e
  obtain ⟨j, e1, rfl⟩ := e
  obtain ⟨h, e2⟩ := List.getElem?_eq_some_iff.mp e1
  simp only [List.length_range] at h
  simp only [List.getElem_range] at e2
  subst e2
  exact ⟨h, rfl⟩
theorem rngW_len {lo : Int} {n : Nat} : (rngW lo n).length = n := by simp [rngW]
theorem deck_spec {ns : List Int} {S : Store} {E : Ex → Store → Prop} (h : ns.length ≤ 63) :
    wp (n_law_deck [.rl (ns.map W.int)] S) (fun r S' => ∃ d, r = .ref d ∧ Deck S'.length 2000 d S' ∧ Fr 0 S S') E := by
  unfold n_law_deck d_law_deck
  simp only [wp_ok, wp_exc, wp_ret, wp_badM, wp_lift, wp_chk, wp_alloc, wp_grd, wp_tgt, wp_noXe, wp_dVar, wp_dC, wp_aNil, wp_aCons, wp_dTup, wp_dLst, wp_dOp, wp_dUn, wp_dFn, wB_bl, wp_dChain, wp_dTru, wp_dBool, wp_dNot, wp_dAnd, wp_dOr, wp_dAndV, wp_dOrV, wp_dNotV, wp_dIfE, wp_dYes, wp_dCall, wp_dCallK, wp_dIsi, wp_dIsi2, wp_dMt, wp_oN, wI_int, wp_oS, wp_dSl, wp_dSrc, wp_dZip, wp_dRng1, wp_dRng2, wp_dEnum, wp_dLc, wpS_nx, wpS_rt, wpS_bk, wpS_ct, wpS_exc, wpS_bad, wpS_ite, wpS_dSeq, wpS_dNx, wpS_dBk, wpS_dCt, wpS_dDrop, wpS_dRet, wpS_dRetN, wpS_dIf, wpS_dSet, wpS_dAsg, wpS_dPar, wpS_dPar3, wpS_dSet2, wpS_dPut, wpS_dRaise, wpS_dFor, wp_dfn, wO_some, wO_none, wO_map, wO_bind, wO_ite, List.map_cons, List.map_nil, List.replicate_succ, List.replicate_zero, List.cons_append, List.nil_append, Nat.reduceSub, Nat.reduceAdd, List.getElem?_cons_zero, List.getElem?_cons_succ, List.set_cons_zero, List.set_cons_succ, List.length_cons, List.length_nil, tgN, tgNil, tgCons, tgTup, wipeE, isT, String.reduceBEq, Bool.and_false, Bool.false_and, Bool.true_and, Bool.and_true, Bool.or_false, Bool.false_or, Bool.true_or, Bool.or_true, Bool.not_true, Bool.not_false, if_true, if_false, true_and, and_true, Bool.false_eq_true, Bool.true_eq_false, reduceIte, opEq_int, opNe_int, opEq_str, opNe_str, opAdd_int, opSub_int, opMod_pos, opLt_int, opLe_int, opGt_int, opGe_int, opLt_str, opLe_str, opIsN_ref, opIsN_non, opIsN_int, opIsN_tup, opIsN_str, opIsN_bl, opEq_bl, opNe_bl, opFdiv_int, opMul_int, opPow_int, atI_0, atI_1, atI_2, opIx_ref, opIx_tup, opIx_rl, opLen_tup, opLen_str, opLen_rl, opMax2_int, opMin2_int, opInt_int, opInt_bl, tyN_non, tyN_bl, tyN_int, tyN_str, tyN_tup, tyN_rl, truthW_bl, srcW_tup, srcW_rl, List.length_map, lenOk_of (show 0 ≤ 1000000 by decide)]
  obtain ⟨m, hm, hm0, hm1⟩ : ∃ m : Nat, (if (if (ns.length : Int) < 63 then (ns.length : Int) else 63) > 1 then (if (ns.length : Int) < 63 then (ns.length : Int) else 63) else 1) = (m : Int) ∧ 0 < m ∧ m ≤ 63 := by
    refine ⟨if ns.length ≤ 1 then 1 else ns.length, ?_, ?_, ?_⟩
    · split <;> split <;> (try split) <;> omega
    · split <;> omega
    · split <;> omega
  rw [hm]
  refine ⟨by unfold bnd; exact decide_eq_true (by omega), ?_⟩
  refine wpS_forL (fun i ε S' => ∃ x y cs, ε = [some (.rl (ns.map W.int)), some (.ref S.length), x, y] ∧ i ≤ m ∧ cs.length = i ∧ S'[S.length]? = some (.lst cs) ∧ Fr 0 S S' ∧ ∀ c ∈ cs, ∃ (p : Nat) (a b t : Int), c = .ref p ∧ S.length < p ∧ p < S'.length ∧ S'[p]? = some (.lst [.int a, .int b, .int t]) ∧ 0 ≤ t ∧ t ≤ 2000) ?_ ?_ ?_ ?_
  · exact ⟨_, _, [], rfl, Nat.zero_le _, rfl, get_new, Fr.app, fun c hc => by cases hc⟩
  · intros; trivial
  · rintro i x ε S' e ⟨x0, y0, cs, rfl, him, hl, g, f, hcs⟩
    obtain ⟨hi, rfl⟩ := rngW_get e
    have hi : i < m := by simpa using hi
    have z1 : powOk 10 18 = true := by decide +kernel
    have z2 : mulOk 31 (0 + (i : Int)) = true := mulOk_of (by decide) (by
      have : (0 + (i : Int)).natAbs ≤ 63 := by omega
      exact Nat.lt_of_le_of_lt this (by decide))
    simp only [wp_ok, wp_exc, wp_ret, wp_badM, wp_lift, wp_chk, wp_alloc, wp_grd, wp_tgt, wp_noXe, wp_dVar, wp_dC, wp_aNil, wp_aCons, wp_dTup, wp_dLst, wp_dOp, wp_dUn, wp_dFn, wB_bl, wp_dChain, wp_dTru, wp_dBool, wp_dNot, wp_dAnd, wp_dOr, wp_dAndV, wp_dOrV, wp_dNotV, wp_dIfE, wp_dYes, wp_dCall, wp_dCallK, wp_dIsi, wp_dIsi2, wp_dMt, wp_oN, wI_int, wp_oS, wp_dSl, wp_dSrc, wp_dZip, wp_dRng1, wp_dRng2, wp_dEnum, wp_dLc, wpS_nx, wpS_rt, wpS_bk, wpS_ct, wpS_exc, wpS_bad, wpS_ite, wpS_dSeq, wpS_dNx, wpS_dBk, wpS_dCt, wpS_dDrop, wpS_dRet, wpS_dRetN, wpS_dIf, wpS_dSet, wpS_dAsg, wpS_dPar, wpS_dPar3, wpS_dSet2, wpS_dPut, wpS_dRaise, wpS_dFor, wp_dfn, wO_some, wO_none, wO_map, wO_bind, wO_ite, List.map_cons, List.map_nil, List.replicate_succ, List.replicate_zero, List.cons_append, List.nil_append, Nat.reduceSub, Nat.reduceAdd, List.getElem?_cons_zero, List.getElem?_cons_succ, List.set_cons_zero, List.set_cons_succ, List.length_cons, List.length_nil, tgN, tgNil, tgCons, tgTup, wipeE, isT, String.reduceBEq, Bool.and_false, Bool.false_and, Bool.true_and, Bool.and_true, Bool.or_false, Bool.false_or, Bool.true_or, Bool.or_true, Bool.not_true, Bool.not_false, if_true, if_false, true_and, and_true, Bool.false_eq_true, Bool.true_eq_false, reduceIte, opEq_int, opNe_int, opEq_str, opNe_str, opAdd_int, opSub_int, opMod_pos, opLt_int, opLe_int, opGt_int, opGe_int, opLt_str, opLe_str, opIsN_ref, opIsN_non, opIsN_int, opIsN_tup, opIsN_str, opIsN_bl, opEq_bl, opNe_bl, opFdiv_int, opMul_int, opPow_int, atI_0, atI_1, atI_2, opIx_ref, opIx_tup, opIx_rl, opLen_tup, opLen_str, opLen_rl, opMax2_int, opMin2_int, opInt_int, opInt_bl, tyN_non, tyN_bl, tyN_int, tyN_str, tyN_tup, tyN_rl, truthW_bl, srcW_tup, srcW_rl, tyM_ref g, mAppend_ref g, z1, z2, lenOk_of (show 0 + 1 + 1 + 1 ≤ 1000000 by decide)]
    have key : ∀ (c b t : Int), 0 ≤ t → t ≤ 2000 → wO (mAppend (W.ref (List.length S)) [W.ref (List.length S')] (S' ++ [O.lst [W.int c, W.int b, W.int t]])) fun p => ∃ x y cs,
        [some (W.rl (List.map W.int ns)), some (W.ref (List.length S)), some (W.int (0 + ↑i)), some (W.int c)] = [some (W.rl (List.map W.int ns)), some (W.ref (List.length S)), x, y] ∧
        i + 1 ≤ m ∧ cs.length = i + 1 ∧ p.snd[List.length S]? = some (O.lst cs) ∧ Fr 0 S p.snd ∧ ∀ (c : W), c ∈ cs → ∃ p_1 a b t, c = W.ref p_1 ∧ List.length S < p_1 ∧ p_1 < List.length p.snd ∧ p.snd[p_1]? = some (O.lst [W.int a, W.int b, W.int t]) ∧ 0 ≤ t ∧ t ≤ 2000 := fun c b t t0 t1 => by
      have g2 : (S' ++ [O.lst [W.int c, W.int b, W.int t]])[S.length]? = some (.lst cs) := Fr.app.g0 g
      have lt := get_lt g
      rw [mAppend_ref g2, if_pos (by rw [sizeLine_eq]; omega), wO_some]
      refine ⟨_, _, cs ++ [.ref S'.length], rfl, hi, by simp [hl], get_set g2, f.snoc.setN (Nat.le_refl _), fun c' hc' => ?_⟩
      rcases List.mem_append.mp hc' with hc' | hc'
      · obtain ⟨p, a, b, t, e1, e2, e3, e4, e5, e6⟩ := hcs c' hc'
        exact ⟨p, a, b, t, e1, e2, by simp; omega, by rw [List.getElem?_set_ne (by omega)]; exact Fr.app.g0 e4, e5, e6⟩
      · rw [List.mem_singleton] at hc'
        exact ⟨S'.length, c, b, t, hc', lt, by simp, by rw [List.getElem?_set_ne (by omega)]; exact get_new, t0, t1⟩
    split
    · rename_i hlt
      have hlt : i < ns.length := by simpa using hlt
      have e2 : atI (List.map W.int ns) (0 + (i : Int)) = some (.int ns[i]) := by
        rw [atI_nn (by omega)]
        simp [hlt]
      rw [e2, wO_some]
      simp only [wp_ok, wp_exc, wp_ret, wp_badM, wp_lift, wp_chk, wp_alloc, wp_grd, wp_tgt, wp_noXe, wp_dVar, wp_dC, wp_aNil, wp_aCons, wp_dTup, wp_dLst, wp_dOp, wp_dUn, wp_dFn, wB_bl, wp_dChain, wp_dTru, wp_dBool, wp_dNot, wp_dAnd, wp_dOr, wp_dAndV, wp_dOrV, wp_dNotV, wp_dIfE, wp_dYes, wp_dCall, wp_dCallK, wp_dIsi, wp_dIsi2, wp_dMt, wp_oN, wI_int, wp_oS, wp_dSl, wp_dSrc, wp_dZip, wp_dRng1, wp_dRng2, wp_dEnum, wp_dLc, wpS_nx, wpS_rt, wpS_bk, wpS_ct, wpS_exc, wpS_bad, wpS_ite, wpS_dSeq, wpS_dNx, wpS_dBk, wpS_dCt, wpS_dDrop, wpS_dRet, wpS_dRetN, wpS_dIf, wpS_dSet, wpS_dAsg, wpS_dPar, wpS_dPar3, wpS_dSet2, wpS_dPut, wpS_dRaise, wpS_dFor, wp_dfn, wO_some, wO_none, wO_map, wO_bind, wO_ite, List.map_cons, List.map_nil, List.replicate_succ, List.replicate_zero, List.cons_append, List.nil_append, Nat.reduceSub, Nat.reduceAdd, List.getElem?_cons_zero, List.getElem?_cons_succ, List.set_cons_zero, List.set_cons_succ, List.length_cons, List.length_nil, tgN, tgNil, tgCons, tgTup, wipeE, isT, String.reduceBEq, Bool.and_false, Bool.false_and, Bool.true_and, Bool.and_true, Bool.or_false, Bool.false_or, Bool.true_or, Bool.or_true, Bool.not_true, Bool.not_false, if_true, if_false, true_and, and_true, Bool.false_eq_true, Bool.true_eq_false, reduceIte, opEq_int, opNe_int, opEq_str, opNe_str, opAdd_int, opSub_int, opMod_pos, opLt_int, opLe_int, opGt_int, opGe_int, opLt_str, opLe_str, opIsN_ref, opIsN_non, opIsN_int, opIsN_tup, opIsN_str, opIsN_bl, opEq_bl, opNe_bl, opFdiv_int, opMul_int, opPow_int, atI_0, atI_1, atI_2, opIx_ref, opIx_tup, opIx_rl, opLen_tup, opLen_str, opLen_rl, opMax2_int, opMin2_int, opInt_int, opInt_bl, tyN_non, tyN_bl, tyN_int, tyN_str, tyN_tup, tyN_rl, truthW_bl, srcW_tup, srcW_rl]
      exact key _ _ _ (by omega) (by omega)
    · exact key _ _ _ (by omega) (by omega)
  · rintro ε S' ⟨x0, y0, cs, rfl, him, hl, g, f, hcs⟩
    simp only [rngW_len] at hl
    simp only [wp_ok, wp_exc, wp_ret, wp_badM, wp_lift, wp_chk, wp_alloc, wp_grd, wp_tgt, wp_noXe, wp_dVar, wp_dC, wp_aNil, wp_aCons, wp_dTup, wp_dLst, wp_dOp, wp_dUn, wp_dFn, wB_bl, wp_dChain, wp_dTru, wp_dBool, wp_dNot, wp_dAnd, wp_dOr, wp_dAndV, wp_dOrV, wp_dNotV, wp_dIfE, wp_dYes, wp_dCall, wp_dCallK, wp_dIsi, wp_dIsi2, wp_dMt, wp_oN, wI_int, wp_oS, wp_dSl, wp_dSrc, wp_dZip, wp_dRng1, wp_dRng2, wp_dEnum, wp_dLc, wpS_nx, wpS_rt, wpS_bk, wpS_ct, wpS_exc, wpS_bad, wpS_ite, wpS_dSeq, wpS_dNx, wpS_dBk, wpS_dCt, wpS_dDrop, wpS_dRet, wpS_dRetN, wpS_dIf, wpS_dSet, wpS_dAsg, wpS_dPar, wpS_dPar3, wpS_dSet2, wpS_dPut, wpS_dRaise, wpS_dFor, wp_dfn, wO_some, wO_none, wO_map, wO_bind, wO_ite, List.map_cons, List.map_nil, List.replicate_succ, List.replicate_zero, List.cons_append, List.nil_append, Nat.reduceSub, Nat.reduceAdd, List.getElem?_cons_zero, List.getElem?_cons_succ, List.set_cons_zero, List.set_cons_succ, List.length_cons, List.length_nil, tgN, tgNil, tgCons, tgTup, wipeE, isT, String.reduceBEq, Bool.and_false, Bool.false_and, Bool.true_and, Bool.and_true, Bool.or_false, Bool.false_or, Bool.true_or, Bool.or_true, Bool.not_true, Bool.not_false, if_true, if_false, true_and, and_true, Bool.false_eq_true, Bool.true_eq_false, reduceIte, opEq_int, opNe_int, opEq_str, opNe_str, opAdd_int, opSub_int, opMod_pos, opLt_int, opLe_int, opGt_int, opGe_int, opLt_str, opLe_str, opIsN_ref, opIsN_non, opIsN_int, opIsN_tup, opIsN_str, opIsN_bl, opEq_bl, opNe_bl, opFdiv_int, opMul_int, opPow_int, atI_0, atI_1, atI_2, opIx_ref, opIx_tup, opIx_rl, opLen_tup, opLen_str, opLen_rl, opMax2_int, opMin2_int, opInt_int, opInt_bl, tyN_non, tyN_bl, tyN_int, tyN_str, tyN_tup, tyN_rl, truthW_bl, srcW_tup, srcW_rl, lenOk_of (show 2 ≤ 1000000 by decide)]
    refine ⟨S'.length, rfl, ⟨Nat.le_refl _, S.length, 0, cs, by simp, by have := get_lt g; simp; omega, by have := get_lt g; omega, get_new, Fr.app.g0 g, ?_, fun c hc => ?_⟩, f.snoc⟩
    · intro e; rw [e] at hl; simp at hl; omega
    · obtain ⟨p, a, b, t, e1, e2, e3, e4, e5, e6⟩ := hcs c hc
      exact ⟨p, a, b, t, e1, by simp; omega, by omega, by omega, Fr.app.g0 e4, e5, e6⟩
/-! ### same -/
noncomputable def d_law_same (r : List W → M W) : DS :=
  dSeq (dIf (dTru (dIsi2 "list" "tuple" (dVar 1))) (dSeq (dIf (dOr (dBool (dOp opNe (dIsi "list" (dVar 0)) (dIsi "list" (dVar 1)))) (dBool (dOp opNe (dIsi "tuple" (dVar 0)) (dIsi "tuple" (dVar 1))))) (dRet (dC (.bl false))) (dNx))
  (dSeq (dIf (dBool (dOp opNe (dFn opLen (aCons (dVar 0) aNil)) (dFn opLen (aCons (dVar 1) aNil)))) (dRet (dC (.bl false))) (dNx))
  (dRet (dOp opEq (dLc (dZip (aCons (dVar 0) (aCons (dVar 1) aNil))) (tgTup 2 (tgCons (tgN 2) (tgCons (tgN 3) (tgNil)))) (dNot (dTru (dCall r (aCons (dVar 2) (aCons (dVar 3) (aNil)))))) (dC (.int 1)) [2, 3]) (dLst (aNil)))))) (dNx))
  (dSeq (dIf (dOr (dBool (dOp opIsN (dVar 1) (dC .non))) (dBool (dOp opIsN (dVar 0) (dC .non)))) (dRet (dAndV (dOp opIsN (dVar 1) (dC .non)) (dOp opIsN (dVar 0) (dC .non)))) (dNx))
  (dSeq (dIf (dOr (dBool (dOp opNe (dIsi "bool" (dVar 0)) (dIsi "bool" (dVar 1)))) (dBool (dOp opNe (dIsi "str" (dVar 0)) (dIsi "str" (dVar 1))))) (dRet (dC (.bl false))) (dNx))
  (dRet (dOp opEq (dVar 0) (dVar 1)))))
noncomputable def n_law_same : Nat → List W → M W
  | 0 => fun _ => bad
  | j + 1 => dfn 4 2 (d_law_same (n_law_same j))

/-- equal in all parts -/
def Twin (S : Store) : Nat → W → W → Prop
  | 0, _, _ => False
  | n + 1, a, b => (a = .non ∧ b = .non) ∨ (∃ x, a = .bl x ∧ b = .bl x) ∨ (∃ x, a = .int x ∧ b = .int x) ∨ (∃ x, a = .str x ∧ b = .str x) ∨
    (∃ xs ys, a = .tup xs ∧ b = .tup ys ∧ xs.length = ys.length ∧ xs.length ≤ 1000000 ∧ ∀ (i : Nat) x y, xs[i]? = some x → ys[i]? = some y → Twin S n x y) ∨
    (∃ p q xs ys, a = .ref p ∧ b = .ref q ∧ S[p]? = some (.lst xs) ∧ S[q]? = some (.lst ys) ∧ xs.length = ys.length ∧ xs.length ≤ 1000000 ∧ ∀ (i : Nat) x y, xs[i]? = some x → ys[i]? = some y → Twin S n x y)
theorem Twin.mono {S S' : Store} (f : Fr 0 S S') : ∀ {n m : Nat} {a b : W}, n ≤ m → Twin S n a b → Twin S' m a b
  | 0, _, _, _, _, h => h.elim
  | n + 1, 0, _, _, h, _ => absurd h (by omega)
  | n + 1, m + 1, a, b, hm, h => by
    rcases h with h | h | h | h | ⟨xs, ys, e1, e2, e3, e4, h⟩ | ⟨p, q, xs, ys, e1, e2, g1, g2, e3, e4, h⟩
    · exact .inl h
    · exact .inr (.inl h)
    · exact .inr (.inr (.inl h))
    · exact .inr (.inr (.inr (.inl h)))
    · exact .inr (.inr (.inr (.inr (.inl ⟨xs, ys, e1, e2, e3, e4, fun i x y a b => Twin.mono f (by omega) (h i x y a b)⟩))))
    · exact .inr (.inr (.inr (.inr (.inr ⟨p, q, xs, ys, e1, e2, f.g0 g1, f.g0 g2, e3, e4, fun i x y a b => Twin.mono f (by omega) (h i x y a b)⟩))))
theorem zipL_at : ∀ {xs ys : List W} {i : Nat} {w : W}, (zipL xs ys)[i]? = some w → ∃ x y, xs[i]? = some x ∧ ys[i]? = some y ∧ w = .tup [x, y]
  | [], ys, i, w, e => by simp [zipL] at e
  | x :: xs, [], i, w, e => by simp [zipL] at e
  | x :: xs, y :: ys, 0, w, e => by
    simp [zipL] at e
    exact ⟨x, y, rfl, rfl, e.symm⟩
  | x :: xs, y :: ys, i + 1, w, e => by
    have e : (zipL xs ys)[i]? = some w := by simpa [zipL] using e
    simpa using zipL_at e
theorem zipL_length {xs ys : List W} (h : xs.length = ys.length) : (zipL xs ys).length = xs.length := by simp [zipL, h]
theorem opEq_nil {n m : Nat} {S : Store} (h1 : S[n]? = some (.lst [])) (h2 : S[m]? = some (.lst [])) : opEq (.ref n) (.ref m) S = some (.bl true, S) := by
  unfold opEq
  have e : ∀ k, S[k]? = some (.lst []) → toD S deep (.ref k) = some (.list []) := fun k h => by
    show (match S[k]? with
      | some (.lst ws) => (mapO (toD S 49) ws).map PyData.list
      | _ => none) = _
    rw [h]; rfl
  rw [e n h1, e m h2]
  rfl
theorem same_spec {E : Ex → Store → Prop} : ∀ (n : Nat) {a b : W} {S : Store}, Twin S n a b → wp (n_law_same n [a, b] S) (fun r S' => r = .bl true ∧ Fr 0 S S') E
  | 0, a, b, S, h => h.elim
  | n + 1, a, b, S, h => by
    have lc : ∀ (xs ys : List W) (g : Store → Prop), (∀ S', Fr 0 S S' → g S') → xs.length = ys.length → (∀ (i : Nat) x y, xs[i]? = some x → ys[i]? = some y → Twin S n x y) → ∀ ε0 : Ev, (∃ x0 y0, ε0 = [x0, y0, none, none]) →
        wp (lcL (tgTup 2 (tgCons (tgN 2) (tgCons (tgN 3) (tgNil)))) (dNot (dTru (dCall (n_law_same n) (aCons (dVar 2) (aCons (dVar 3) (aNil)))))) (dC (.int 1)) g ε0 (zipL xs ys) S) (fun ws S' => ws = [] ∧ Fr 0 S S') E := by
      rintro xs ys g hg hl ht ε0 ⟨x0, y0, rfl⟩
      refine wp_mono (wp_lcL (acc := []) (fun _ acc S' => acc = [] ∧ Fr 0 S S') ⟨rfl, Fr.refl⟩ (fun _ _ S' _ h => hg _ h.2) ?_) (fun ws S' q => by simpa using q) (fun _ _ q => q)
      rintro i x acc S' e ⟨rfl, f⟩
      obtain ⟨u, v, e1, e2, rfl⟩ := zipL_at e
      simp only [wp_ok, wp_exc, wp_ret, wp_badM, wp_lift, wp_chk, wp_alloc, wp_grd, wp_tgt, wp_noXe, wp_dVar, wp_dC, wp_aNil, wp_aCons, wp_dTup, wp_dLst, wp_dOp, wp_dUn, wp_dFn, wB_bl, wp_dChain, wp_dTru, wp_dBool, wp_dNot, wp_dAnd, wp_dOr, wp_dAndV, wp_dOrV, wp_dNotV, wp_dIfE, wp_dYes, wp_dCall, wp_dCallK, wp_dIsi, wp_dIsi2, wp_dMt, wp_oN, wI_int, wp_oS, wp_dSl, wp_dSrc, wp_dZip, wp_dRng1, wp_dRng2, wp_dEnum, wp_dLc, wpS_nx, wpS_rt, wpS_bk, wpS_ct, wpS_exc, wpS_bad, wpS_ite, wpS_dSeq, wpS_dNx, wpS_dBk, wpS_dCt, wpS_dDrop, wpS_dRet, wpS_dRetN, wpS_dIf, wpS_dSet, wpS_dAsg, wpS_dPar, wpS_dPar3, wpS_dSet2, wpS_dPut, wpS_dRaise, wpS_dFor, wp_dfn, wO_some, wO_none, wO_map, wO_bind, wO_ite, List.map_cons, List.map_nil, List.replicate_succ, List.replicate_zero, List.cons_append, List.nil_append, Nat.reduceSub, Nat.reduceAdd, List.getElem?_cons_zero, List.getElem?_cons_succ, List.set_cons_zero, List.set_cons_succ, List.length_cons, List.length_nil, tgN, tgNil, tgCons, tgTup, wipeE, isT, String.reduceBEq, Bool.and_false, Bool.false_and, Bool.true_and, Bool.and_true, Bool.or_false, Bool.false_or, Bool.true_or, Bool.or_true, Bool.not_true, Bool.not_false, if_true, if_false, true_and, and_true, Bool.false_eq_true, Bool.true_eq_false, reduceIte, opEq_int, opNe_int, opEq_str, opNe_str, opAdd_int, opSub_int, opMod_pos, opLt_int, opLe_int, opGt_int, opGe_int, opLt_str, opLe_str, opIsN_ref, opIsN_non, opIsN_int, opIsN_tup, opIsN_str, opIsN_bl, opEq_bl, opNe_bl, opFdiv_int, opMul_int, opPow_int, atI_0, atI_1, atI_2, opIx_ref, opIx_tup, opIx_rl, opLen_tup, opLen_str, opLen_rl, opMax2_int, opMin2_int, opInt_int, opInt_bl, tyN_non, tyN_bl, tyN_int, tyN_str, tyN_tup, tyN_rl, truthW_bl, srcW_tup, srcW_rl]
      refine wp_mono (same_spec n ((ht i u v e1 e2).mono f (Nat.le_refl _))) ?_ (fun _ _ q => q)
      rintro r S2 ⟨rfl, f2⟩
      simp only [wp_ok, wp_exc, wp_ret, wp_badM, wp_lift, wp_chk, wp_alloc, wp_grd, wp_tgt, wp_noXe, wp_dVar, wp_dC, wp_aNil, wp_aCons, wp_dTup, wp_dLst, wp_dOp, wp_dUn, wp_dFn, wB_bl, wp_dChain, wp_dTru, wp_dBool, wp_dNot, wp_dAnd, wp_dOr, wp_dAndV, wp_dOrV, wp_dNotV, wp_dIfE, wp_dYes, wp_dCall, wp_dCallK, wp_dIsi, wp_dIsi2, wp_dMt, wp_oN, wI_int, wp_oS, wp_dSl, wp_dSrc, wp_dZip, wp_dRng1, wp_dRng2, wp_dEnum, wp_dLc, wpS_nx, wpS_rt, wpS_bk, wpS_ct, wpS_exc, wpS_bad, wpS_ite, wpS_dSeq, wpS_dNx, wpS_dBk, wpS_dCt, wpS_dDrop, wpS_dRet, wpS_dRetN, wpS_dIf, wpS_dSet, wpS_dAsg, wpS_dPar, wpS_dPar3, wpS_dSet2, wpS_dPut, wpS_dRaise, wpS_dFor, wp_dfn, wO_some, wO_none, wO_map, wO_bind, wO_ite, List.map_cons, List.map_nil, List.replicate_succ, List.replicate_zero, List.cons_append, List.nil_append, Nat.reduceSub, Nat.reduceAdd, List.getElem?_cons_zero, List.getElem?_cons_succ, List.set_cons_zero, List.set_cons_succ, List.length_cons, List.length_nil, tgN, tgNil, tgCons, tgTup, wipeE, isT, String.reduceBEq, Bool.and_false, Bool.false_and, Bool.true_and, Bool.and_true, Bool.or_false, Bool.false_or, Bool.true_or, Bool.or_true, Bool.not_true, Bool.not_false, if_true, if_false, true_and, and_true, Bool.false_eq_true, Bool.true_eq_false, reduceIte, opEq_int, opNe_int, opEq_str, opNe_str, opAdd_int, opSub_int, opMod_pos, opLt_int, opLe_int, opGt_int, opGe_int, opLt_str, opLe_str, opIsN_ref, opIsN_non, opIsN_int, opIsN_tup, opIsN_str, opIsN_bl, opEq_bl, opNe_bl, opFdiv_int, opMul_int, opPow_int, atI_0, atI_1, atI_2, opIx_ref, opIx_tup, opIx_rl, opLen_tup, opLen_str, opLen_rl, opMax2_int, opMin2_int, opInt_int, opInt_bl, tyN_non, tyN_bl, tyN_int, tyN_str, tyN_tup, tyN_rl, truthW_bl, srcW_tup, srcW_rl, Bool.not_true]
      exact f.trans f2
    unfold n_law_same d_law_same
    rcases h with ⟨rfl, rfl⟩ | ⟨x, rfl, rfl⟩ | ⟨x, rfl, rfl⟩ | ⟨x, rfl, rfl⟩ | ⟨xs, ys, rfl, rfl, hl, hz, h⟩ | ⟨p, q, xs, ys, rfl, rfl, g1, g2, hl, hz, h⟩
    · simp only [wp_ok, wp_exc, wp_ret, wp_badM, wp_lift, wp_chk, wp_alloc, wp_grd, wp_tgt, wp_noXe, wp_dVar, wp_dC, wp_aNil, wp_aCons, wp_dTup, wp_dLst, wp_dOp, wp_dUn, wp_dFn, wB_bl, wp_dChain, wp_dTru, wp_dBool, wp_dNot, wp_dAnd, wp_dOr, wp_dAndV, wp_dOrV, wp_dNotV, wp_dIfE, wp_dYes, wp_dCall, wp_dCallK, wp_dIsi, wp_dIsi2, wp_dMt, wp_oN, wI_int, wp_oS, wp_dSl, wp_dSrc, wp_dZip, wp_dRng1, wp_dRng2, wp_dEnum, wp_dLc, wpS_nx, wpS_rt, wpS_bk, wpS_ct, wpS_exc, wpS_bad, wpS_ite, wpS_dSeq, wpS_dNx, wpS_dBk, wpS_dCt, wpS_dDrop, wpS_dRet, wpS_dRetN, wpS_dIf, wpS_dSet, wpS_dAsg, wpS_dPar, wpS_dPar3, wpS_dSet2, wpS_dPut, wpS_dRaise, wpS_dFor, wp_dfn, wO_some, wO_none, wO_map, wO_bind, wO_ite, List.map_cons, List.map_nil, List.replicate_succ, List.replicate_zero, List.cons_append, List.nil_append, Nat.reduceSub, Nat.reduceAdd, List.getElem?_cons_zero, List.getElem?_cons_succ, List.set_cons_zero, List.set_cons_succ, List.length_cons, List.length_nil, tgN, tgNil, tgCons, tgTup, wipeE, isT, String.reduceBEq, Bool.and_false, Bool.false_and, Bool.true_and, Bool.and_true, Bool.or_false, Bool.false_or, Bool.true_or, Bool.or_true, Bool.not_true, Bool.not_false, if_true, if_false, true_and, and_true, Bool.false_eq_true, Bool.true_eq_false, reduceIte, opEq_int, opNe_int, opEq_str, opNe_str, opAdd_int, opSub_int, opMod_pos, opLt_int, opLe_int, opGt_int, opGe_int, opLt_str, opLe_str, opIsN_ref, opIsN_non, opIsN_int, opIsN_tup, opIsN_str, opIsN_bl, opEq_bl, opNe_bl, opFdiv_int, opMul_int, opPow_int, atI_0, atI_1, atI_2, opIx_ref, opIx_tup, opIx_rl, opLen_tup, opLen_str, opLen_rl, opMax2_int, opMin2_int, opInt_int, opInt_bl, tyN_non, tyN_bl, tyN_int, tyN_str, tyN_tup, tyN_rl, truthW_bl, srcW_tup, srcW_rl, isT, String.reduceBEq, Bool.and_false, Bool.false_and, Bool.true_and, Bool.and_true, Bool.or_false, Bool.false_or, Bool.true_or, Bool.or_true]
      exact Fr.refl
    · simp only [wp_ok, wp_exc, wp_ret, wp_badM, wp_lift, wp_chk, wp_alloc, wp_grd, wp_tgt, wp_noXe, wp_dVar, wp_dC, wp_aNil, wp_aCons, wp_dTup, wp_dLst, wp_dOp, wp_dUn, wp_dFn, wB_bl, wp_dChain, wp_dTru, wp_dBool, wp_dNot, wp_dAnd, wp_dOr, wp_dAndV, wp_dOrV, wp_dNotV, wp_dIfE, wp_dYes, wp_dCall, wp_dCallK, wp_dIsi, wp_dIsi2, wp_dMt, wp_oN, wI_int, wp_oS, wp_dSl, wp_dSrc, wp_dZip, wp_dRng1, wp_dRng2, wp_dEnum, wp_dLc, wpS_nx, wpS_rt, wpS_bk, wpS_ct, wpS_exc, wpS_bad, wpS_ite, wpS_dSeq, wpS_dNx, wpS_dBk, wpS_dCt, wpS_dDrop, wpS_dRet, wpS_dRetN, wpS_dIf, wpS_dSet, wpS_dAsg, wpS_dPar, wpS_dPar3, wpS_dSet2, wpS_dPut, wpS_dRaise, wpS_dFor, wp_dfn, wO_some, wO_none, wO_map, wO_bind, wO_ite, List.map_cons, List.map_nil, List.replicate_succ, List.replicate_zero, List.cons_append, List.nil_append, Nat.reduceSub, Nat.reduceAdd, List.getElem?_cons_zero, List.getElem?_cons_succ, List.set_cons_zero, List.set_cons_succ, List.length_cons, List.length_nil, tgN, tgNil, tgCons, tgTup, wipeE, isT, String.reduceBEq, Bool.and_false, Bool.false_and, Bool.true_and, Bool.and_true, Bool.or_false, Bool.false_or, Bool.true_or, Bool.or_true, Bool.not_true, Bool.not_false, if_true, if_false, true_and, and_true, Bool.false_eq_true, Bool.true_eq_false, reduceIte, opEq_int, opNe_int, opEq_str, opNe_str, opAdd_int, opSub_int, opMod_pos, opLt_int, opLe_int, opGt_int, opGe_int, opLt_str, opLe_str, opIsN_ref, opIsN_non, opIsN_int, opIsN_tup, opIsN_str, opIsN_bl, opEq_bl, opNe_bl, opFdiv_int, opMul_int, opPow_int, atI_0, atI_1, atI_2, opIx_ref, opIx_tup, opIx_rl, opLen_tup, opLen_str, opLen_rl, opMax2_int, opMin2_int, opInt_int, opInt_bl, tyN_non, tyN_bl, tyN_int, tyN_str, tyN_tup, tyN_rl, truthW_bl, srcW_tup, srcW_rl, isT, String.reduceBEq, Bool.and_false, Bool.false_and, Bool.true_and, Bool.and_true, Bool.or_false, Bool.false_or, Bool.true_or, Bool.or_true, opIsN_bl, opEq_bl, opNe_bl, beq_self_eq_true, Bool.not_true]
      exact Fr.refl
    · simp only [wp_ok, wp_exc, wp_ret, wp_badM, wp_lift, wp_chk, wp_alloc, wp_grd, wp_tgt, wp_noXe, wp_dVar, wp_dC, wp_aNil, wp_aCons, wp_dTup, wp_dLst, wp_dOp, wp_dUn, wp_dFn, wB_bl, wp_dChain, wp_dTru, wp_dBool, wp_dNot, wp_dAnd, wp_dOr, wp_dAndV, wp_dOrV, wp_dNotV, wp_dIfE, wp_dYes, wp_dCall, wp_dCallK, wp_dIsi, wp_dIsi2, wp_dMt, wp_oN, wI_int, wp_oS, wp_dSl, wp_dSrc, wp_dZip, wp_dRng1, wp_dRng2, wp_dEnum, wp_dLc, wpS_nx, wpS_rt, wpS_bk, wpS_ct, wpS_exc, wpS_bad, wpS_ite, wpS_dSeq, wpS_dNx, wpS_dBk, wpS_dCt, wpS_dDrop, wpS_dRet, wpS_dRetN, wpS_dIf, wpS_dSet, wpS_dAsg, wpS_dPar, wpS_dPar3, wpS_dSet2, wpS_dPut, wpS_dRaise, wpS_dFor, wp_dfn, wO_some, wO_none, wO_map, wO_bind, wO_ite, List.map_cons, List.map_nil, List.replicate_succ, List.replicate_zero, List.cons_append, List.nil_append, Nat.reduceSub, Nat.reduceAdd, List.getElem?_cons_zero, List.getElem?_cons_succ, List.set_cons_zero, List.set_cons_succ, List.length_cons, List.length_nil, tgN, tgNil, tgCons, tgTup, wipeE, isT, String.reduceBEq, Bool.and_false, Bool.false_and, Bool.true_and, Bool.and_true, Bool.or_false, Bool.false_or, Bool.true_or, Bool.or_true, Bool.not_true, Bool.not_false, if_true, if_false, true_and, and_true, Bool.false_eq_true, Bool.true_eq_false, reduceIte, opEq_int, opNe_int, opEq_str, opNe_str, opAdd_int, opSub_int, opMod_pos, opLt_int, opLe_int, opGt_int, opGe_int, opLt_str, opLe_str, opIsN_ref, opIsN_non, opIsN_int, opIsN_tup, opIsN_str, opIsN_bl, opEq_bl, opNe_bl, opFdiv_int, opMul_int, opPow_int, atI_0, atI_1, atI_2, opIx_ref, opIx_tup, opIx_rl, opLen_tup, opLen_str, opLen_rl, opMax2_int, opMin2_int, opInt_int, opInt_bl, tyN_non, tyN_bl, tyN_int, tyN_str, tyN_tup, tyN_rl, truthW_bl, srcW_tup, srcW_rl, isT, String.reduceBEq, Bool.and_false, Bool.false_and, Bool.true_and, Bool.and_true, Bool.or_false, Bool.false_or, Bool.true_or, Bool.or_true, opIsN_bl, opEq_bl, opNe_bl, beq_self_eq_true, Bool.not_true]
      exact Fr.refl
    · simp only [wp_ok, wp_exc, wp_ret, wp_badM, wp_lift, wp_chk, wp_alloc, wp_grd, wp_tgt, wp_noXe, wp_dVar, wp_dC, wp_aNil, wp_aCons, wp_dTup, wp_dLst, wp_dOp, wp_dUn, wp_dFn, wB_bl, wp_dChain, wp_dTru, wp_dBool, wp_dNot, wp_dAnd, wp_dOr, wp_dAndV, wp_dOrV, wp_dNotV, wp_dIfE, wp_dYes, wp_dCall, wp_dCallK, wp_dIsi, wp_dIsi2, wp_dMt, wp_oN, wI_int, wp_oS, wp_dSl, wp_dSrc, wp_dZip, wp_dRng1, wp_dRng2, wp_dEnum, wp_dLc, wpS_nx, wpS_rt, wpS_bk, wpS_ct, wpS_exc, wpS_bad, wpS_ite, wpS_dSeq, wpS_dNx, wpS_dBk, wpS_dCt, wpS_dDrop, wpS_dRet, wpS_dRetN, wpS_dIf, wpS_dSet, wpS_dAsg, wpS_dPar, wpS_dPar3, wpS_dSet2, wpS_dPut, wpS_dRaise, wpS_dFor, wp_dfn, wO_some, wO_none, wO_map, wO_bind, wO_ite, List.map_cons, List.map_nil, List.replicate_succ, List.replicate_zero, List.cons_append, List.nil_append, Nat.reduceSub, Nat.reduceAdd, List.getElem?_cons_zero, List.getElem?_cons_succ, List.set_cons_zero, List.set_cons_succ, List.length_cons, List.length_nil, tgN, tgNil, tgCons, tgTup, wipeE, isT, String.reduceBEq, Bool.and_false, Bool.false_and, Bool.true_and, Bool.and_true, Bool.or_false, Bool.false_or, Bool.true_or, Bool.or_true, Bool.not_true, Bool.not_false, if_true, if_false, true_and, and_true, Bool.false_eq_true, Bool.true_eq_false, reduceIte, opEq_int, opNe_int, opEq_str, opNe_str, opAdd_int, opSub_int, opMod_pos, opLt_int, opLe_int, opGt_int, opGe_int, opLt_str, opLe_str, opIsN_ref, opIsN_non, opIsN_int, opIsN_tup, opIsN_str, opIsN_bl, opEq_bl, opNe_bl, opFdiv_int, opMul_int, opPow_int, atI_0, atI_1, atI_2, opIx_ref, opIx_tup, opIx_rl, opLen_tup, opLen_str, opLen_rl, opMax2_int, opMin2_int, opInt_int, opInt_bl, tyN_non, tyN_bl, tyN_int, tyN_str, tyN_tup, tyN_rl, truthW_bl, srcW_tup, srcW_rl, isT, String.reduceBEq, Bool.and_false, Bool.false_and, Bool.true_and, Bool.and_true, Bool.or_false, Bool.false_or, Bool.true_or, Bool.or_true, opIsN_bl, opEq_bl, opNe_bl, beq_self_eq_true, Bool.not_true]
      exact Fr.refl
    · simp only [wp_ok, wp_exc, wp_ret, wp_badM, wp_lift, wp_chk, wp_alloc, wp_grd, wp_tgt, wp_noXe, wp_dVar, wp_dC, wp_aNil, wp_aCons, wp_dTup, wp_dLst, wp_dOp, wp_dUn, wp_dFn, wB_bl, wp_dChain, wp_dTru, wp_dBool, wp_dNot, wp_dAnd, wp_dOr, wp_dAndV, wp_dOrV, wp_dNotV, wp_dIfE, wp_dYes, wp_dCall, wp_dCallK, wp_dIsi, wp_dIsi2, wp_dMt, wp_oN, wI_int, wp_oS, wp_dSl, wp_dSrc, wp_dZip, wp_dRng1, wp_dRng2, wp_dEnum, wp_dLc, wpS_nx, wpS_rt, wpS_bk, wpS_ct, wpS_exc, wpS_bad, wpS_ite, wpS_dSeq, wpS_dNx, wpS_dBk, wpS_dCt, wpS_dDrop, wpS_dRet, wpS_dRetN, wpS_dIf, wpS_dSet, wpS_dAsg, wpS_dPar, wpS_dPar3, wpS_dSet2, wpS_dPut, wpS_dRaise, wpS_dFor, wp_dfn, wO_some, wO_none, wO_map, wO_bind, wO_ite, List.map_cons, List.map_nil, List.replicate_succ, List.replicate_zero, List.cons_append, List.nil_append, Nat.reduceSub, Nat.reduceAdd, List.getElem?_cons_zero, List.getElem?_cons_succ, List.set_cons_zero, List.set_cons_succ, List.length_cons, List.length_nil, tgN, tgNil, tgCons, tgTup, wipeE, isT, String.reduceBEq, Bool.and_false, Bool.false_and, Bool.true_and, Bool.and_true, Bool.or_false, Bool.false_or, Bool.true_or, Bool.or_true, Bool.not_true, Bool.not_false, if_true, if_false, true_and, and_true, Bool.false_eq_true, Bool.true_eq_false, reduceIte, opEq_int, opNe_int, opEq_str, opNe_str, opAdd_int, opSub_int, opMod_pos, opLt_int, opLe_int, opGt_int, opGe_int, opLt_str, opLe_str, opIsN_ref, opIsN_non, opIsN_int, opIsN_tup, opIsN_str, opIsN_bl, opEq_bl, opNe_bl, opFdiv_int, opMul_int, opPow_int, atI_0, atI_1, atI_2, opIx_ref, opIx_tup, opIx_rl, opLen_tup, opLen_str, opLen_rl, opMax2_int, opMin2_int, opInt_int, opInt_bl, tyN_non, tyN_bl, tyN_int, tyN_str, tyN_tup, tyN_rl, truthW_bl, srcW_tup, srcW_rl, isT, String.reduceBEq, Bool.and_false, Bool.false_and, Bool.true_and, Bool.and_true, Bool.or_false, Bool.false_or, Bool.true_or, Bool.or_true, opIsN_bl, opEq_bl, opNe_bl, beq_self_eq_true, Bool.not_true, hl, zipW]
      refine ⟨lenOk_of (by rw [zipL_length hl]; exact hz), ?_⟩
      refine wp_mono (lc xs ys _ (fun _ _ => trivial) hl h _ ⟨_, _, rfl⟩) ?_ (fun _ _ q => q)
      rintro ws S2 ⟨rfl, f⟩
      refine ⟨lenOk_of (by decide), ?_⟩
      rw [opEq_nil (by rw [List.append_assoc]; exact get_new) get_new]
      exact ⟨rfl, f.snoc.snoc⟩
    · simp only [wp_ok, wp_exc, wp_ret, wp_badM, wp_lift, wp_chk, wp_alloc, wp_grd, wp_tgt, wp_noXe, wp_dVar, wp_dC, wp_aNil, wp_aCons, wp_dTup, wp_dLst, wp_dOp, wp_dUn, wp_dFn, wB_bl, wp_dChain, wp_dTru, wp_dBool, wp_dNot, wp_dAnd, wp_dOr, wp_dAndV, wp_dOrV, wp_dNotV, wp_dIfE, wp_dYes, wp_dCall, wp_dCallK, wp_dIsi, wp_dIsi2, wp_dMt, wp_oN, wI_int, wp_oS, wp_dSl, wp_dSrc, wp_dZip, wp_dRng1, wp_dRng2, wp_dEnum, wp_dLc, wpS_nx, wpS_rt, wpS_bk, wpS_ct, wpS_exc, wpS_bad, wpS_ite, wpS_dSeq, wpS_dNx, wpS_dBk, wpS_dCt, wpS_dDrop, wpS_dRet, wpS_dRetN, wpS_dIf, wpS_dSet, wpS_dAsg, wpS_dPar, wpS_dPar3, wpS_dSet2, wpS_dPut, wpS_dRaise, wpS_dFor, wp_dfn, wO_some, wO_none, wO_map, wO_bind, wO_ite, List.map_cons, List.map_nil, List.replicate_succ, List.replicate_zero, List.cons_append, List.nil_append, Nat.reduceSub, Nat.reduceAdd, List.getElem?_cons_zero, List.getElem?_cons_succ, List.set_cons_zero, List.set_cons_succ, List.length_cons, List.length_nil, tgN, tgNil, tgCons, tgTup, wipeE, isT, String.reduceBEq, Bool.and_false, Bool.false_and, Bool.true_and, Bool.and_true, Bool.or_false, Bool.false_or, Bool.true_or, Bool.or_true, Bool.not_true, Bool.not_false, if_true, if_false, true_and, and_true, Bool.false_eq_true, Bool.true_eq_false, reduceIte, opEq_int, opNe_int, opEq_str, opNe_str, opAdd_int, opSub_int, opMod_pos, opLt_int, opLe_int, opGt_int, opGe_int, opLt_str, opLe_str, opIsN_ref, opIsN_non, opIsN_int, opIsN_tup, opIsN_str, opIsN_bl, opEq_bl, opNe_bl, opFdiv_int, opMul_int, opPow_int, atI_0, atI_1, atI_2, opIx_ref, opIx_tup, opIx_rl, opLen_tup, opLen_str, opLen_rl, opMax2_int, opMin2_int, opInt_int, opInt_bl, tyN_non, tyN_bl, tyN_int, tyN_str, tyN_tup, tyN_rl, truthW_bl, srcW_tup, srcW_rl, isT, tyN_ref g1, tyN_ref g2, String.reduceBEq, Bool.and_false, Bool.false_and, Bool.true_and, Bool.and_true, Bool.or_false, Bool.false_or, Bool.true_or, Bool.or_true, opIsN_bl, opEq_bl, opNe_bl, beq_self_eq_true, Bool.not_true, hl, zipW, opLen_ref g1, opLen_ref g2, g1, g2]
      refine ⟨lenOk_of (by rw [zipL_length hl]; exact hz), ?_⟩
      refine wp_mono (lc xs ys _ (fun S' f => ⟨f.g0 g1, f.g0 g2⟩) hl h _ ⟨_, _, rfl⟩) ?_ (fun _ _ q => q)
      rintro ws S2 ⟨rfl, f⟩
      refine ⟨lenOk_of (by decide), ?_⟩
      rw [opEq_nil (by rw [List.append_assoc]; exact get_new) get_new]
      exact ⟨rfl, f.snoc.snoc⟩
end N
namespace N
open PySem L2
/-- the first answer of f at 0 .. n - 1 -/
def fstN {α : Type} (f : Nat → Option α) : Nat → Option α
  | 0 => none
  | n + 1 => match fstN f n with
    | some v => some v
    | none => f n
theorem fstN_none {α : Type} {f : Nat → Option α} : ∀ {n : Nat}, fstN f n = none ↔ ∀ i, i < n → f i = none
  | 0 => ⟨fun _ i h => absurd h (Nat.not_lt_zero _), fun _ => rfl⟩
  | n + 1 => by
    unfold fstN
    constructor
    · intro h i hi
      cases z : fstN f n with
      | some v => rw [z] at h; cases h
      | none =>
        rw [z] at h
        rcases Nat.lt_or_ge i n with q | q
        · exact fstN_none.mp z i q
        · have : i = n := by omega
          subst this
          exact h
    · intro h
      rw [fstN_none.mpr fun i hi => h i (by omega)]
      exact h n (by omega)
theorem fstN_some {α : Type} {f : Nat → Option α} {i : Nat} {v : α} (h : ∀ j, j < i → f j = none) (e : f i = some v) : ∀ {n : Nat}, i < n → fstN f n = some v
  | 0, hi => absurd hi (Nat.not_lt_zero _)
  | n + 1, hi => by
    unfold fstN
    rcases Nat.lt_or_ge i n with q | q
    · rw [fstN_some h e q]
    · have : i = n := by omega
      subst this
      rw [fstN_none.mpr h]
      exact e
theorem fstN_congr {α : Type} {f g : Nat → Option α} : ∀ {n : Nat}, (∀ i, i < n → f i = g i) → fstN f n = fstN g n
  | 0, _ => rfl
  | n + 1, h => by
    unfold fstN
    rw [fstN_congr fun i hi => h i (by omega), h n (by omega)]
theorem fstN_mem {α : Type} {f : Nat → Option α} {v : α} : ∀ {n : Nat}, fstN f n = some v → ∃ i, i < n ∧ f i = some v
  | 0, e => by cases e
  | n + 1, e => by
    unfold fstN at e
    cases z : fstN f n with
    | some u =>
      rw [z] at e
      obtain ⟨i, h1, h2⟩ := fstN_mem z
      cases e
      exact ⟨i, by omega, h2⟩
    | none => rw [z] at e; exact ⟨n, by omega, e⟩
/-- a loop that returns at the first answer -/
theorem wpS_forFind {t : DT} {body : DS} {g : Store → Prop} {D : NEnds} {items : List W} {ε : Ev} {S : Store} (f : Nat → Option W) (I : Ev → Store → Prop) (h0 : I ε S) (hg : ∀ ε S, I ε S → g S)
    (hs : ∀ (i : Nat) x ε S, items[i]? = some x → I ε S → wO (t x ε S) fun ε1 => wpS (body ε1 S) ⟨fun ε' S' => f i = none ∧ I ε' S', fun w S' => f i = some w ∧ (fstN f items.length = some w → D.rt w S'), fun _ _ => False, fun ε' S' => f i = none ∧ I ε' S', D.ex⟩)
    (hd : ∀ ε S, fstN f items.length = none → I ε S → D.nx ε S) : wpS (forL t body g items ε S) D := by
  refine wpS_forL (fun i ε S => (∀ j, j < i → f j = none) ∧ I ε S) ⟨fun j h => absurd h (Nat.not_lt_zero _), h0⟩ (fun _ _ _ _ h => hg _ _ h.2) ?_ (fun ε S h => hd ε S (fstN_none.mpr h.1) h.2)
  rintro i x ε S e ⟨hj, h⟩
  have q := hs i x ε S e h
  cases z : t x ε S with
  | none => rw [z] at q; exact q.elim
  | some ε1 =>
    rw [z] at q
    have lt : i < items.length := (List.getElem?_eq_some_iff.mp e).1
    have up : ∀ ε' S', f i = none ∧ I ε' S' → (∀ j, j < i + 1 → f j = none) ∧ I ε' S' := fun ε' S' ⟨a, b⟩ => ⟨fun j hh => by
      rcases Nat.lt_or_ge j i with q | q
      · exact hj j q
      · have : j = i := by omega
        rw [this]; exact a, b⟩
    refine wpS_mono (q : wpS (body ε1 S) _) up (fun w S' ⟨a, b⟩ => b (fstN_some hj a lt)) (fun _ _ h => h.elim) up (fun _ _ _ h => h)
/-- a comprehension without conditions, an answer for each item -/
theorem wp_lcMap {t : DT} {el : DE} {g : Store → Prop} {ε0 : Ev} {E : Ex → Store → Prop} {items : List W} {S : Store} (f : Nat → W) (I : Nat → Store → Prop) (h0 : I 0 S) (hg : ∀ i S, i ≤ items.length → I i S → g S)
    (hs : ∀ (i : Nat) x S, items[i]? = some x → I i S → wO (t x ε0 S) fun ε1 => wp (el ε1 S) (fun w S2 => w = f i ∧ I (i + 1) S2) (fun _ _ => False)) :
    wp (lcL t dYes el g ε0 items S) (fun ws S' => ws = (List.range items.length).map f ∧ I items.length S') E := by
  refine wp_mono (wp_lcL (acc := []) (fun i acc S => acc = (List.range i).map f ∧ I i S) ⟨rfl, h0⟩ (fun i _ S hi h => hg i S hi h.2) ?_) (fun ws S' q => by simpa using q) (fun _ _ q => q)
  rintro i x acc S e ⟨rfl, h⟩
  have q := hs i x S e h
  cases z : t x ε0 S with
  | none => rw [z] at q; exact q.elim
  | some ε1 =>
    rw [z] at q
    rw [wO_some, wp_dYes, if_pos rfl]
    refine wp_mono (q : wp (el ε1 S) _ _) (fun w S2 ⟨e1, h2⟩ => ⟨?_, h2⟩) (fun _ _ q => q)
    rw [e1, List.range_succ, List.map_append]
    rfl
theorem map_range {α β : Type} {f : α → β} {xs : List α} {g : Nat → β} (h : ∀ (i : Nat) x, xs[i]? = some x → g i = f x) : (List.range xs.length).map g = xs.map f := by
  apply List.ext_getElem?
  intro i
  rw [List.getElem?_map, List.getElem?_map]
  rcases Nat.lt_or_ge i xs.length with q | q
  · rw [List.getElem?_range q, List.getElem?_eq_getElem q]
    show some (g i) = some (f _)
    rw [h i _ (List.getElem?_eq_getElem q)]
  · rw [List.getElem?_eq_none (by simpa using q), List.getElem?_eq_none q]
    rfl
/-- each item answered alike -/
theorem wp_lcF {α : Type} {t : DT} {el : DE} {g : Store → Prop} {ε0 : Ev} {E : Ex → Store → Prop} {xs : List α} {c : α → W} {S : Store} (f : α → W) (I : Store → Prop) (h0 : I S) (hg : ∀ S, I S → g S)
    (hs : ∀ (i : Nat) x S, xs[i]? = some x → I S → wO (t (c x) ε0 S) fun ε1 => wp (el ε1 S) (fun w S2 => w = f x ∧ I S2) (fun _ _ => False)) :
    wp (lcL t dYes el g ε0 (xs.map c) S) (fun ws S' => ws = xs.map f ∧ I S') E := by
  refine wp_mono (wp_lcMap (fun i => match xs[i]? with
    | some x => f x
    | none => .non) (fun _ => I) h0 (fun _ S _ h => hg S h) ?_) (fun ws S' ⟨e, h⟩ => ⟨?_, h⟩) (fun _ _ q => q)
  · intro i w S e h
    rw [List.getElem?_map, Option.map_eq_some_iff] at e
    obtain ⟨x, e1, rfl⟩ := e
    rw [e1]
    exact hs i x S e1 h
  · rw [e, List.length_map]
    exact map_range fun i x e => by rw [e]
theorem blsOf_map : ∀ {bs : List Bool}, blsOf (bs.map W.bl) = some bs
  | [] => rfl
  | b :: bs => by
    have ih : blsOf (bs.map W.bl) = some bs := blsOf_map
    unfold blsOf at ih ⊢
    rw [List.map_cons]
    simp only [mapO, ih]
theorem listW_ref {n : Nat} {l : List W} {S : Store} (e : S[n]? = some (.lst l)) : listW (.ref n) S = some l := by
  unfold listW
  simp only [e]
theorem opAll_ref {n : Nat} {bs : List Bool} {S : Store} (e : S[n]? = some (.lst (bs.map W.bl))) : opAll [.ref n] S = some (.bl (bs.all id), S) := by
  unfold opAll
  simp only [listW_ref e, Option.bind_some, blsOf_map, Option.map_some]
theorem opAny_ref {n : Nat} {bs : List Bool} {S : Store} (e : S[n]? = some (.lst (bs.map W.bl))) : opAny [.ref n] S = some (.bl (bs.any id), S) := by
  unfold opAny
  simp only [listW_ref e, Option.bind_some, blsOf_map, Option.map_some]
/-- the comprehension under all(..) -/
theorem map_true {α : Type} {xs : List α} {f : α → Bool} (h : ∀ x ∈ xs, f x = true) : (xs.map f).all id = true := by
  simpa using h
/-- [1 for ..] == [], != [] : whether a list is empty -/
theorem toD_ints {S : Store} {k : Nat} : ∀ {ws : List W} {i : Int}, (∀ w ∈ ws, w = .int i) → mapO (toD S (k + 1)) ws = some (ws.map fun _ => PyData.int i)
  | [], i, _ => rfl
  | w :: ws, i, h => by
    have e := h w (List.mem_cons_self ..)
    subst e
    have ih := toD_ints (S := S) (k := k) fun w hw => h w (List.mem_cons_of_mem _ hw)
    simp only [mapO, ih, toD, List.map_cons]
theorem toD_lst {S : Store} {n k : Nat} {ws : List W} (e : S[n]? = some (.lst ws)) : toD S (k + 1) (.ref n) = (mapO (toD S k) ws).map PyData.list := by
  show (match S[n]? with
    | some (.lst ws) => (mapO (toD S k) ws).map PyData.list
    | _ => none) = _
  rw [e]
theorem eqv_nil {α : Type} {ws : List α} {f : α → PyData} : PyData.eqv (.list (ws.map f)) (.list []) = ws.isEmpty := by
  cases ws <;> simp [PyData.eqv, PyData.eqvAll]
theorem opEq_ones {n m : Nat} {ws : List W} {i : Int} {S : Store} (h1 : S[n]? = some (.lst ws)) (h2 : S[m]? = some (.lst [])) (hw : ∀ w ∈ ws, w = .int i) : opEq (.ref n) (.ref m) S = some (.bl ws.isEmpty, S) := by
  unfold opEq
  rw [toD_lst h1, toD_lst h2, toD_ints hw]
  show some (W.bl (PyData.eqv _ _), S) = _
  rw [eqv_nil]
theorem opNe_ones {n m : Nat} {ws : List W} {i : Int} {S : Store} (h1 : S[n]? = some (.lst ws)) (h2 : S[m]? = some (.lst [])) (hw : ∀ w ∈ ws, w = .int i) : opNe (.ref n) (.ref m) S = some (.bl (!ws.isEmpty), S) := by
  unfold opNe
  rw [toD_lst h1, toD_lst h2, toD_ints hw]
  show some (W.bl (!PyData.eqv _ _), S) = _
  rw [eqv_nil]

/-! ### repr of small data -/
mutual
def tiny : PyData → Bool
  | .none | .bool _ => true
  | .int i => decide (i.natAbs < 10 ^ 60)
  | .str x => x.cps.toList.all fun c => decide (c < 16 ^ 8)
  | .list xs | .tuple xs => tinyAll xs
  | .dict _ => false
def tinyAll : List PyData → Bool
  | [] => true
  | x :: xs => tiny x && tinyAll xs
end
mutual
theorem tiny_ok : ∀ d : PyData, tiny d = true → d.showable = true ∧ d.leavesShort 70 = true
  | .none, _ => ⟨rfl, rfl⟩
  | .bool _, _ => ⟨rfl, rfl⟩
  | .int i, h => by
    have h : i.natAbs < 10 ^ 60 := by simpa only [tiny, decide_eq_true_eq] using h
    constructor
    · simp only [PyData.showable, decide_eq_true_eq]
      by_cases z : i.natAbs = 0
      · rw [z]; decide
      · refine (Nat.log2_lt z).mpr (Nat.lt_of_lt_of_le h ?_)
        exact Nat.le_trans (by decide +kernel : 10 ^ 60 ≤ 2 ^ 200) (Nat.pow_le_pow_right (by decide) (by decide))
    · simp only [PyData.leavesShort, decide_eq_true_eq]
      have e := int_text_length_le10 (k := 60) (by decide) h
      show (Str.ofString (toString i)).length ≤ 70
      rw [ofString_length]; omega
  | .str x, h => by
    simp only [tiny] at h
    exact ⟨rfl, by simpa only [PyData.leavesShort] using h⟩
  | .list xs, h => by
    have h := tinyAll_ok xs (by simpa only [tiny] using h)
    exact ⟨by simpa only [PyData.showable] using h.1, by simpa only [PyData.leavesShort] using h.2⟩
  | .tuple xs, h => by
    have h := tinyAll_ok xs (by simpa only [tiny] using h)
    exact ⟨by simpa only [PyData.showable] using h.1, by simpa only [PyData.leavesShort] using h.2⟩
  | .dict _, h => by simp [tiny] at h
theorem tinyAll_ok : ∀ xs : List PyData, tinyAll xs = true → PyData.showableAll xs = true ∧ PyData.leavesShortAll 70 xs = true
  | [], _ => ⟨rfl, rfl⟩
  | x :: xs, h => by
    have h : tiny x = true ∧ tinyAll xs = true := by simpa only [tinyAll, Bool.and_eq_true] using h
    have h1 := tiny_ok x h.1
    have h2 := tinyAll_ok xs h.2
    exact ⟨by simp only [PyData.showableAll, h1.1, h2.1, Bool.and_self], by simp only [PyData.leavesShortAll, h1.2, h2.2, Bool.and_self]⟩
end
theorem tinyAll_map {α : Type} {f : α → PyData} : ∀ {xs : List α}, (∀ x ∈ xs, tiny (f x) = true) → tinyAll (xs.map f) = true
  | [], _ => rfl
  | x :: xs, h => by
    simp only [List.map_cons, tinyAll, h x (List.mem_cons_self ..), Bool.true_and]
    exact tinyAll_map fun y hy => h y (List.mem_cons_of_mem _ hy)
theorem bulkAll_map {α : Type} {f : α → PyData} {c : Nat} : ∀ {xs : List α}, (∀ x ∈ xs, (f x).bulk ≤ c) → PyData.bulkAll (xs.map f) ≤ xs.length * (c + 1)
  | [], _ => by simp [PyData.bulkAll]
  | x :: xs, h => by
    have h1 := h x (List.mem_cons_self ..)
    have h2 := bulkAll_map (xs := xs) fun y hy => h y (List.mem_cons_of_mem _ hy)
    simp only [List.map_cons, PyData.bulkAll, List.length_cons, Nat.add_mul, Nat.one_mul]
    omega
theorem opRepr_tiny {w : W} {S : Store} {d : PyData} (e : toD S deep w = some d) (h : tiny d = true) (hb : d.bulk ≤ 200000) : opRepr [w] S = some (.str d.shown, S) := by
  unfold opRepr
  have := tiny_ok d h
  have h2 := PyData.shown_le_bulk 70 (by decide) d this.2
  simp only [e, Option.bind_some]
  rw [if_pos ⟨this.1, by rw [sizeLine_eq]; omega⟩]
theorem mapO_map {α β γ : Type} {f : β → Option γ} {c : α → β} {g : α → γ} : ∀ {xs : List α}, (∀ x ∈ xs, f (c x) = some (g x)) → mapO f (xs.map c) = some (xs.map g)
  | [], _ => rfl
  | x :: xs, h => by
    have ih := mapO_map (f := f) (c := c) (g := g) (xs := xs) fun y hy => h y (List.mem_cons_of_mem _ hy)
    simp only [List.map_cons, mapO, h x (List.mem_cons_self ..), ih]
theorem str_tiny {x : Str} (h : okS x = true) : tiny (.str x) = true := by
  simp only [tiny, List.all_eq_true, decide_eq_true_eq]
  unfold okS at h
  rw [List.all_eq_true] at h
  intro c hc
  have := h c hc
  simp only [decide_eq_true_eq] at this
  exact Nat.lt_of_lt_of_le this (by decide)
theorem int_tiny {i : Int} (h : i.natAbs < 10 ^ 60) : tiny (.int i) = true := by simpa only [tiny, decide_eq_true_eq] using h

/-! ### comprehensions with a condition -/
theorem wp_lcP {α : Type} {t : DT} {cnd : DB} {el : DE} {g : Store → Prop} {ε0 : Ev} {E : Ex → Store → Prop} {xs : List α} {c : α → W} {S : Store} (p : α → Bool) (f : α → W) (I : Store → Prop) (h0 : I S) (hg : ∀ S, I S → g S)
    (hs : ∀ (i : Nat) x S, xs[i]? = some x → I S → wO (t (c x) ε0 S) fun ε1 => wp (cnd ε1 S) (fun b S1 => b = p x ∧ (if p x = true then wp (el ε1 S1) (fun w S2 => w = f x ∧ I S2) (fun _ _ => False) else I S1)) (fun _ _ => False)) :
    wp (lcL t cnd el g ε0 (xs.map c) S) (fun ws S' => ws = (xs.filter p).map f ∧ I S') E := by
  refine wp_mono (wp_lcL (acc := []) (fun i acc S => acc = ((xs.take i).filter p).map f ∧ I S) ⟨rfl, h0⟩ (fun i _ S hi h => hg S h.2) ?_) (fun ws S' q => ?_) (fun _ _ q => q)
  · rintro i w acc S e ⟨rfl, h⟩
    rw [List.getElem?_map, Option.map_eq_some_iff] at e
    obtain ⟨x, e1, rfl⟩ := e
    have q := hs i x S e1 h
    cases z : t (c x) ε0 S with
    | none => rw [z] at q; exact q.elim
    | some ε1 =>
      rw [z] at q
      rw [wO_some]
      refine wp_mono (q : wp (cnd ε1 S) _ _) (fun b S1 ⟨e2, q2⟩ => ?_) (fun _ _ q => q)
      have e3 : (xs.take (i + 1)).filter p = (xs.take i).filter p ++ (if p x = true then [x] else []) := by
        rw [List.take_succ, e1, List.filter_append]
        simp only [Option.toList, List.filter_cons, List.filter_nil]
      rw [e2, e3]
      cases hp : p x with
      | true =>
        rw [hp] at q2
        rw [if_pos rfl, if_pos rfl]
        refine wp_mono (q2 : wp (el ε1 S1) _ _) (fun w S2 ⟨e4, h4⟩ => ⟨?_, h4⟩) (fun _ _ q => q)
        rw [e4, List.map_append]; rfl
      | false =>
        rw [hp] at q2
        rw [if_neg (by decide), if_neg (by decide)]
        exact ⟨by rw [List.append_nil], q2⟩
  · simp only [List.nil_append, List.length_map, List.take_length] at q
    exact q
/-- [1 for ..]: whether one is there -/
theorem wp_lcEx {t : DT} {cnd : DB} {i1 : Int} {g : Store → Prop} {ε0 : Ev} {E : Ex → Store → Prop} {items : List W} {S : Store} (P : Nat → Prop) (I : Store → Prop) (h0 : I S) (hg : ∀ S, I S → g S)
    (hs : ∀ (i : Nat) x S, items[i]? = some x → I S → wO (t x ε0 S) fun ε1 => wp (cnd ε1 S) (fun b S1 => (b = true ↔ P i) ∧ I S1) (fun _ _ => False)) :
    wp (lcL t cnd (dC (.int i1)) g ε0 items S) (fun ws S' => (∀ w ∈ ws, w = .int i1) ∧ (ws.isEmpty = false ↔ ∃ i, i < items.length ∧ P i) ∧ I S') E := by
  refine wp_mono (wp_lcL (acc := []) (fun i acc S => (∀ w ∈ acc, w = .int i1) ∧ (acc.isEmpty = false ↔ ∃ j, j < i ∧ P j) ∧ I S) ⟨fun w h => by simp at h, ⟨fun h => by simp at h, fun ⟨j, h, _⟩ => absurd h (Nat.not_lt_zero _)⟩, h0⟩ (fun i _ S hi h => hg S h.2.2) ?_) (fun ws S' q => by simpa only [List.nil_append] using q) (fun _ _ q => q)
  rintro i w acc S e ⟨h1, h2, h⟩
  have q := hs i w S e h
  cases z : t w ε0 S with
  | none => rw [z] at q; exact q.elim
  | some ε1 =>
    rw [z] at q
    rw [wO_some]
    refine wp_mono (q : wp (cnd ε1 S) _ _) (fun b S1 ⟨e2, q2⟩ => ?_) (fun _ _ q => q)
    cases b with
    | true =>
      rw [if_pos rfl, wp_dC]
      refine ⟨fun w hw => ?_, ⟨fun _ => ⟨i, by omega, e2.mp rfl⟩, fun _ => by simp⟩, q2⟩
      rcases List.mem_append.mp hw with h | h
      · exact h1 w h
      · exact List.mem_singleton.mp h
    | false =>
      rw [if_neg (by decide)]
      refine ⟨h1, ⟨fun h => ?_, fun ⟨j, hj, hp⟩ => ?_⟩, q2⟩
      · obtain ⟨j, hj, hp⟩ := h2.mp h
        exact ⟨j, by omega, hp⟩
      · rcases Nat.lt_or_ge j i with q | q
        · exact h2.mpr ⟨j, q, hp⟩
        · have : j = i := by omega
          subst this
          exact absurd (e2.mpr hp) (by decide)
end N
namespace N
open PySem L2
theorem EVA : (type_of% @List.map_cons.{0,0}) ∧
  (type_of% @List.map_nil.{0,0}) ∧
  (type_of% @List.replicate_succ.{0}) ∧
  (type_of% @List.replicate_zero.{0}) ∧
  (type_of% @List.cons_append.{0}) ∧
  (type_of% @List.nil_append.{0}) ∧
  (type_of% @List.getElem?_cons_zero.{0}) ∧
  (type_of% @List.getElem?_cons_succ.{0}) ∧
  (type_of% @List.set_cons_zero.{0}) ∧
  (type_of% @List.set_cons_succ.{0}) ∧
  (type_of% @List.length_cons.{0}) ∧
  (type_of% @List.length_nil.{0}) ∧
  (type_of% @Bool.and_false) ∧
  (type_of% @Bool.false_and) ∧
  (type_of% @Bool.true_and) ∧
  (type_of% @Bool.and_true) ∧
  (type_of% @Bool.or_false) ∧
  (type_of% @Bool.false_or) ∧
  (type_of% @Bool.true_or) ∧
  (type_of% @Bool.or_true) ∧
  (type_of% @Bool.not_true) ∧
  (type_of% @Bool.not_false) ∧
  (type_of% @if_true.{1}) ∧
  (type_of% @if_false.{1}) ∧
  (type_of% @true_and) ∧
  (type_of% @and_true) ∧
  (type_of% @Bool.false_eq_true) ∧
  (type_of% @Bool.true_eq_false) :=
  ⟨@List.map_cons.{0,0},
  @List.map_nil.{0,0},
  @List.replicate_succ.{0},
  @List.replicate_zero.{0},
  @List.cons_append.{0},
  @List.nil_append.{0},
  @List.getElem?_cons_zero.{0},
  @List.getElem?_cons_succ.{0},
  @List.set_cons_zero.{0},
  @List.set_cons_succ.{0},
  @List.length_cons.{0},
  @List.length_nil.{0},
  @Bool.and_false,
  @Bool.false_and,
  @Bool.true_and,
  @Bool.and_true,
  @Bool.or_false,
  @Bool.false_or,
  @Bool.true_or,
  @Bool.or_true,
  @Bool.not_true,
  @Bool.not_false,
  @if_true.{1},
  @if_false.{1},
  @true_and,
  @and_true,
  @Bool.false_eq_true,
  @Bool.true_eq_false⟩
theorem WPA : (type_of% @wp_ok) ∧
  (type_of% @wp_exc) ∧
  (type_of% @wp_ret) ∧
  (type_of% @wp_badM) ∧
  (type_of% @wp_lift) ∧
  (type_of% @wp_chk) ∧
  (type_of% @wp_alloc) ∧
  (type_of% @wp_grd) ∧
  (type_of% @wp_tgt) ∧
  (type_of% @wp_noXe) ∧
  (type_of% @wp_dVar) ∧
  (type_of% @wp_dC) ∧
  (type_of% @wp_aNil) ∧
  (type_of% @wp_aCons) ∧
  (type_of% @wp_dTup) ∧
  (type_of% @wp_dLst) ∧
  (type_of% @wp_dOp) ∧
  (type_of% @wp_dUn) ∧
  (type_of% @wp_dFn) ∧
  (type_of% @wB_bl) ∧
  (type_of% @wp_dChain) ∧
  (type_of% @wp_dTru) ∧
  (type_of% @wp_dBool) ∧
  (type_of% @wp_dNot) ∧
  (type_of% @wp_dAnd) ∧
  (type_of% @wp_dOr) ∧
  (type_of% @wp_dAndV) ∧
  (type_of% @wp_dOrV) ∧
  (type_of% @wp_dNotV) ∧
  (type_of% @wp_dIfE) ∧
  (type_of% @wp_dYes) ∧
  (type_of% @wp_dCall) ∧
  (type_of% @wp_dCallK) ∧
  (type_of% @wp_dIsi) ∧
  (type_of% @wp_dIsi2) ∧
  (type_of% @wp_dMt) ∧
  (type_of% @wp_oN) ∧
  (type_of% @wI_int) ∧
  (type_of% @wp_oS) ∧
  (type_of% @wp_dSl) ∧
  (type_of% @wp_dSrc) ∧
  (type_of% @wp_dZip) ∧
  (type_of% @wp_dRng1) ∧
  (type_of% @wp_dRng2) ∧
  (type_of% @wp_dEnum) ∧
  (type_of% @wp_dLc) ∧
  (type_of% @wpS_nx) ∧
  (type_of% @wpS_rt) ∧
  (type_of% @wpS_bk) ∧
  (type_of% @wpS_ct) ∧
  (type_of% @wpS_exc) ∧
  (type_of% @wpS_bad) ∧
  (type_of% @wpS_ite) ∧
  (type_of% @wpS_dSeq) ∧
  (type_of% @wpS_dNx) ∧
  (type_of% @wpS_dBk) ∧
  (type_of% @wpS_dCt) ∧
  (type_of% @wpS_dDrop) ∧
  (type_of% @wpS_dRet) ∧
  (type_of% @wpS_dRetN) ∧
  (type_of% @wpS_dIf) ∧
  (type_of% @wpS_dSet) ∧
  (type_of% @wpS_dAsg) ∧
  (type_of% @wpS_dPar) ∧
  (type_of% @wpS_dPar3) ∧
  (type_of% @wpS_dSet2) ∧
  (type_of% @wpS_dPut) ∧
  (type_of% @wpS_dRaise) ∧
  (type_of% @wpS_dFor) ∧
  (type_of% @wp_dfn) ∧
  (type_of% @wO_some) ∧
  (type_of% @wO_none) ∧
  (type_of% @wO_map) ∧
  (type_of% @wO_bind) ∧
  (type_of% @wO_ite) ∧
  (type_of% @List.map_cons.{0,0}) ∧
  (type_of% @List.map_nil.{0,0}) ∧
  (type_of% @List.replicate_succ.{0}) ∧
  (type_of% @List.replicate_zero.{0}) ∧
  (type_of% @List.cons_append.{0}) ∧
  (type_of% @List.nil_append.{0}) ∧
  (type_of% @List.getElem?_cons_zero.{0}) ∧
  (type_of% @List.getElem?_cons_succ.{0}) ∧
  (type_of% @List.set_cons_zero.{0}) ∧
  (type_of% @List.set_cons_succ.{0}) ∧
  (type_of% @List.length_cons.{0}) ∧
  (type_of% @List.length_nil.{0}) ∧
  (type_of% @Bool.and_false) ∧
  (type_of% @Bool.false_and) ∧
  (type_of% @Bool.true_and) ∧
  (type_of% @Bool.and_true) ∧
  (type_of% @Bool.or_false) ∧
  (type_of% @Bool.false_or) ∧
  (type_of% @Bool.true_or) ∧
  (type_of% @Bool.or_true) ∧
  (type_of% @Bool.not_true) ∧
  (type_of% @Bool.not_false) ∧
  (type_of% @if_true.{1}) ∧
  (type_of% @if_false.{1}) ∧
  (type_of% @true_and) ∧
  (type_of% @and_true) ∧
  (type_of% @Bool.false_eq_true) ∧
  (type_of% @Bool.true_eq_false) ∧
  (type_of% @opEq_int) ∧
  (type_of% @opNe_int) ∧
  (type_of% @opEq_str) ∧
  (type_of% @opNe_str) ∧
  (type_of% @opAdd_int) ∧
  (type_of% @opSub_int) ∧
  (type_of% @opMod_pos) ∧
  (type_of% @opLt_int) ∧
  (type_of% @opLe_int) ∧
  (type_of% @opGt_int) ∧
  (type_of% @opGe_int) ∧
  (type_of% @opLt_str) ∧
  (type_of% @opLe_str) ∧
  (type_of% @opIsN_ref) ∧
  (type_of% @opIsN_non) ∧
  (type_of% @opIsN_int) ∧
  (type_of% @opIsN_tup) ∧
  (type_of% @opIsN_str) ∧
  (type_of% @opIsN_bl) ∧
  (type_of% @opEq_bl) ∧
  (type_of% @opNe_bl) ∧
  (type_of% @opFdiv_int) ∧
  (type_of% @opMul_int) ∧
  (type_of% @opPow_int) ∧
  (type_of% @atI_0) ∧
  (type_of% @atI_1) ∧
  (type_of% @atI_2) ∧
  (type_of% @opIx_ref) ∧
  (type_of% @opIx_tup) ∧
  (type_of% @opIx_rl) ∧
  (type_of% @opLen_tup) ∧
  (type_of% @opLen_str) ∧
  (type_of% @opLen_rl) ∧
  (type_of% @opMax2_int) ∧
  (type_of% @opMin2_int) ∧
  (type_of% @opInt_int) ∧
  (type_of% @opInt_bl) ∧
  (type_of% @tyN_non) ∧
  (type_of% @tyN_bl) ∧
  (type_of% @tyN_int) ∧
  (type_of% @tyN_str) ∧
  (type_of% @tyN_tup) ∧
  (type_of% @tyN_rl) ∧
  (type_of% @truthW_bl) ∧
  (type_of% @srcW_tup) ∧
  (type_of% @srcW_rl) :=
  ⟨@wp_ok,
  @wp_exc,
  @wp_ret,
  @wp_badM,
  @wp_lift,
  @wp_chk,
  @wp_alloc,
  @wp_grd,
  @wp_tgt,
  @wp_noXe,
  @wp_dVar,
  @wp_dC,
  @wp_aNil,
  @wp_aCons,
  @wp_dTup,
  @wp_dLst,
  @wp_dOp,
  @wp_dUn,
  @wp_dFn,
  @wB_bl,
  @wp_dChain,
  @wp_dTru,
  @wp_dBool,
  @wp_dNot,
  @wp_dAnd,
  @wp_dOr,
  @wp_dAndV,
  @wp_dOrV,
  @wp_dNotV,
  @wp_dIfE,
  @wp_dYes,
  @wp_dCall,
  @wp_dCallK,
  @wp_dIsi,
  @wp_dIsi2,
  @wp_dMt,
  @wp_oN,
  @wI_int,
  @wp_oS,
  @wp_dSl,
  @wp_dSrc,
  @wp_dZip,
  @wp_dRng1,
  @wp_dRng2,
  @wp_dEnum,
  @wp_dLc,
  @wpS_nx,
  @wpS_rt,
  @wpS_bk,
  @wpS_ct,
  @wpS_exc,
  @wpS_bad,
  @wpS_ite,
  @wpS_dSeq,
  @wpS_dNx,
  @wpS_dBk,
  @wpS_dCt,
  @wpS_dDrop,
  @wpS_dRet,
  @wpS_dRetN,
  @wpS_dIf,
  @wpS_dSet,
  @wpS_dAsg,
  @wpS_dPar,
  @wpS_dPar3,
  @wpS_dSet2,
  @wpS_dPut,
  @wpS_dRaise,
  @wpS_dFor,
  @wp_dfn,
  @wO_some,
  @wO_none,
  @wO_map,
  @wO_bind,
  @wO_ite,
  @List.map_cons.{0,0},
  @List.map_nil.{0,0},
  @List.replicate_succ.{0},
  @List.replicate_zero.{0},
  @List.cons_append.{0},
  @List.nil_append.{0},
  @List.getElem?_cons_zero.{0},
  @List.getElem?_cons_succ.{0},
  @List.set_cons_zero.{0},
  @List.set_cons_succ.{0},
  @List.length_cons.{0},
  @List.length_nil.{0},
  @Bool.and_false,
  @Bool.false_and,
  @Bool.true_and,
  @Bool.and_true,
  @Bool.or_false,
  @Bool.false_or,
  @Bool.true_or,
  @Bool.or_true,
  @Bool.not_true,
  @Bool.not_false,
  @if_true.{1},
  @if_false.{1},
  @true_and,
  @and_true,
  @Bool.false_eq_true,
  @Bool.true_eq_false,
  @opEq_int,
  @opNe_int,
  @opEq_str,
  @opNe_str,
  @opAdd_int,
  @opSub_int,
  @opMod_pos,
  @opLt_int,
  @opLe_int,
  @opGt_int,
  @opGe_int,
  @opLt_str,
  @opLe_str,
  @opIsN_ref,
  @opIsN_non,
  @opIsN_int,
  @opIsN_tup,
  @opIsN_str,
  @opIsN_bl,
  @opEq_bl,
  @opNe_bl,
  @opFdiv_int,
  @opMul_int,
  @opPow_int,
  @atI_0,
  @atI_1,
  @atI_2,
  @opIx_ref,
  @opIx_tup,
  @opIx_rl,
  @opLen_tup,
  @opLen_str,
  @opLen_rl,
  @opMax2_int,
  @opMin2_int,
  @opInt_int,
  @opInt_bl,
  @tyN_non,
  @tyN_bl,
  @tyN_int,
  @tyN_str,
  @tyN_tup,
  @tyN_rl,
  @truthW_bl,
  @srcW_tup,
  @srcW_rl⟩
end N
namespace N
open PySem L2
noncomputable section
def d_law_bag : DS :=
  dSeq (dSet 2 (dIfE (dBool (dOp opLt (dVar 1) (dFn opLen (aCons (dVar 0) aNil)))) (dOp opIx (dVar 0) (dVar 1)) (dC (.int 0))))
  (dRet (dLst (aCons (dFn opMax2 (aCons (dC (.int 0)) (aCons (dOp opSub (dFn opAbs (aCons (dVar 2) aNil)) (dOp opPow (dC (.int 10)) (dC (.int 18)))) aNil))) (aCons (dOp opMod (dOp opAdd (dOp opAdd (dOp opMul (dVar 2) (dC (.int 67))) (dOp opMul (dC (.int 23)) (dVar 1))) (dC (.int 11))) (dOp opAdd (dOp opPow (dC (.int 10)) (dC (.int 37))) (dC (.int 43)))) (aCons (dC (.int 0)) (aNil))))))
def n_law_bag : List W → M W := dfn 3 2 d_law_bag
def d_law_take : DS :=
  dSeq (dIf (dBool (dOp opGt (dOp opIx (dVar 0) (dC (.int 0))) (dC (.int 0)))) (dSeq (dSet 3 (dOp opMod (dOp opIx (dVar 0) (dC (.int 0))) (dVar 1)))
  (dSeq (dPut (dOp opFdiv (dOp opIx (dVar 0) (dC (.int 0))) (dVar 1)) (dVar 0) (dC (.int 0)))
  (dRet (dVar 3)))) (dNx))
  (dSeq (dPut (dOp opAdd (dOp opIx (dVar 0) (dC (.int 2))) (dC (.int 1))) (dVar 0) (dC (.int 2)))
  (dSeq (dSet 2 (dOp opMod (dOp opPow (dOp opAdd (dOp opIx (dVar 0) (dC (.int 1))) (dOp opMul (dC (.int 32452843)) (dOp opIx (dVar 0) (dC (.int 2))))) (dC (.int 3))) (dOp opAdd (dOp opPow (dC (.int 10)) (dC (.int 40))) (dC (.int 121)))))
  (dSeq (dSet 2 (dOp opMod (dOp opPow (dOp opAdd (dVar 2) (dOp opMul (dC (.int 15485863)) (dOp opIx (dVar 0) (dC (.int 2))))) (dC (.int 2))) (dOp opAdd (dOp opPow (dC (.int 10)) (dC (.int 39))) (dC (.int 3)))))
  (dRet (dOp opMod (dOp opFdiv (dVar 2) (dOp opPow (dC (.int 10)) (dC (.int 5)))) (dVar 1))))))
def n_law_take : List W → M W := dfn 4 2 d_law_take
def d_law_purse : DS :=
  dSeq (dSet 2 (dIfE (dBool (dOp opLt (dVar 1) (dFn opLen (aCons (dVar 0) aNil)))) (dOp opIx (dVar 0) (dVar 1)) (dC (.int 0))))
  (dRet (dLst (aCons (dFn opMax2 (aCons (dC (.int 0)) (aCons (dOp opSub (dFn opAbs (aCons (dVar 2) aNil)) (dOp opPow (dC (.int 10)) (dC (.int 18)))) aNil))) (aCons (dOp opAdd (dOp opAdd (dOp opMul (dOp opMod (dVar 2) (dOp opAdd (dOp opPow (dC (.int 10)) (dC (.int 35))) (dC (.int 69)))) (dC (.int 5))) (dOp opMul (dC (.int 10039)) (dVar 1))) (dC (.int 1))) (aCons (dC (.int 0)) (aNil))))))
def n_law_purse : List W → M W := dfn 3 2 d_law_purse
def d_law_coin : DS :=
  dSeq (dIf (dBool (dOp opGt (dOp opIx (dVar 0) (dC (.int 0))) (dC (.int 0)))) (dSeq (dSet 3 (dOp opMod (dOp opIx (dVar 0) (dC (.int 0))) (dVar 1)))
  (dSeq (dPut (dOp opFdiv (dOp opIx (dVar 0) (dC (.int 0))) (dVar 1)) (dVar 0) (dC (.int 0)))
  (dRet (dVar 3)))) (dNx))
  (dSeq (dPut (dOp opAdd (dOp opIx (dVar 0) (dC (.int 2))) (dC (.int 1))) (dVar 0) (dC (.int 2)))
  (dSeq (dSet 2 (dOp opMod (dOp opPow (dOp opAdd (dOp opIx (dVar 0) (dC (.int 1))) (dOp opMul (dC (.int 67867979)) (dOp opIx (dVar 0) (dC (.int 2))))) (dC (.int 3))) (dOp opAdd (dOp opPow (dC (.int 10)) (dC (.int 39))) (dC (.int 3)))))
  (dSeq (dSet 2 (dOp opMod (dOp opPow (dOp opAdd (dVar 2) (dOp opMul (dC (.int 32416190071)) (dOp opIx (dVar 0) (dC (.int 2))))) (dC (.int 3))) (dOp opAdd (dOp opPow (dC (.int 10)) (dC (.int 38))) (dC (.int 133)))))
  (dRet (dOp opMod (dOp opFdiv (dVar 2) (dC (.int 90001))) (dVar 1))))))
def n_law_coin : List W → M W := dfn 4 2 d_law_coin
end
/-- three numbers in a list of their own -/
structure Purse (B n p : Nat) (S : Store) : Prop where
  bl : B ≤ S.length
  lt : p < B
  ex : ∃ a b t : Int, S[p]? = some (.lst [.int a, .int b, .int t]) ∧ b.natAbs < 2 ^ 150 ∧ 0 ≤ t ∧ t ≤ n
theorem Purse.mono {B n p m : Nat} {S S' : Store} (D : Purse B n p S) (h : n ≤ m) (f : Fr 0 S S') : Purse B m p S' := by
  obtain ⟨a, b, t, e, hb, t0, t1⟩ := D.ex
  exact ⟨Nat.le_trans D.bl f.len, D.lt, a, b, t, f.g0 e, hb, t0, by omega⟩
theorem Purse.setB {B n p m k : Nat} {o : O} {S : Store} (D : Purse B n p S) (h : n ≤ m) (hk : B ≤ k) : Purse B m p (S.set k o) := by
  obtain ⟨a, b, t, e, hb, t0, t1⟩ := D.ex
  have := D.lt
  exact ⟨by rw [List.length_set]; exact D.bl, D.lt, a, b, t, by rw [List.getElem?_set_ne (by omega)]; exact e, hb, t0, by omega⟩
/-- a purse over everything that stands -/
theorem Purse.all {B n p : Nat} {S : Store} (D : Purse B n p S) : Purse S.length n p S := ⟨Nat.le_refl _, Nat.lt_of_lt_of_le D.lt D.bl, D.ex⟩
theorem b3 (x y : Int) (h : 0 < y) (h2 : y < 2 ^ 150) : (x % y).natAbs < 2 ^ 150 := by
  have := Int.emod_nonneg x (show y ≠ 0 by omega)
  have := Int.emod_lt_of_pos x h
  omega
theorem b4 (x c t : Int) (hx : x.natAbs < 2 ^ 150) (h : 0 < c) (h2 : c < 2 ^ 40) (t0 : 0 ≤ t) (t1 : t ≤ 2 ^ 101) : (x + c * t).natAbs < 2 ^ 1000 := by
  have h4 : (c * t).natAbs ≤ 2 ^ 40 * 2 ^ 101 := by
    rw [Int.natAbs_mul]
    exact Nat.mul_le_mul (by omega) (by omega)
  have h5 : (x + c * t).natAbs ≤ x.natAbs + (c * t).natAbs := Int.natAbs_add_le _ _
  have h6 : (x + c * t).natAbs < 2 ^ 151 := by omega
  exact Nat.lt_of_lt_of_le h6 (Nat.pow_le_pow_right (by decide) (by decide))
theorem b5 (c t : Int) (h : 0 < c) (h2 : c < 2 ^ 40) (t0 : 0 ≤ t) (t1 : t ≤ 2 ^ 101) : mulOk c t = true := by
  refine mulOk_of ?_ ?_
  · exact Nat.lt_of_lt_of_le (by omega : c.natAbs < 2 ^ 40) (Nat.pow_le_pow_right (by decide) (by decide))
  · exact Nat.lt_of_lt_of_le (by omega : t.natAbs < 2 ^ 102) (Nat.pow_le_pow_right (by decide) (by decide))
section
variable {B n p : Nat} {S : Store} {m : Int} {E : Ex → Store → Prop}
theorem coin_spec (D : Purse B n p S) (hn : n < 2 ^ 100) (h0 : 0 < m) (h1 : m < 2 ^ 900) :
    wp (n_law_coin [.ref p, .int m] S) (fun r S' => ∃ k : Int, r = .int k ∧ 0 ≤ k ∧ k < m ∧ Purse B (n + 1) p S' ∧ Fr B S S' ∧ S'.length = S.length) E := by
  obtain ⟨a, b, t, e, hb, t0, t1⟩ := D.ex
  have i30 : ixN 3 0 = some 0 := rfl
  have i32 : ixN 3 2 = some 2 := rfl
  have mod_lt : ∀ x : Int, 0 ≤ x % m ∧ x % m < m := fun x => ⟨Int.emod_nonneg _ (by omega), Int.emod_lt_of_pos _ h0⟩
  have mabs : m.natAbs < 2 ^ 1000 := Nat.lt_of_lt_of_le (by omega : m.natAbs < 2 ^ 900) (Nat.pow_le_pow_right (by decide) (by decide))
  have fin : ∀ (a' t' : Int), 0 ≤ t' → t' ≤ n + 1 → Purse B (n + 1) p (List.set S p (.lst [.int a', .int b, .int t'])) ∧ Fr B S (List.set S p (.lst [.int a', .int b, .int t'])) ∧ (List.set S p (.lst [.int a', .int b, .int t'])).length = S.length := fun a' t' q0 q1 =>
    ⟨⟨by rw [List.length_set]; exact D.bl, D.lt, a', b, t', get_set e, hb, q0, by omega⟩, Fr.refl.setB D.lt, by simp⟩
  unfold n_law_coin d_law_coin
  simp only [WPA, Nat.reduceSub, Nat.reduceAdd, tgN, tgNil, tgCons, tgTup, wipeE, isT, String.reduceBEq, reduceIte, lstAt_of e, Option.bind_some, Option.map_some, h0, divOk_of h0 mabs, setIx_ref e, i30, i32]
  by_cases ha : 0 < a
  · rw [if_pos (decide_eq_true ha)]
    exact ⟨_, rfl, (mod_lt a).1, (mod_lt a).2, fin _ _ t0 (by omega)⟩
  · rw [if_neg (by simpa using ha)]
    obtain ⟨f1, f2, f3⟩ := fin a (t + 1) (by omega) (by omega)
    have e5 : (List.set S p (O.lst [W.int a, W.int b, W.int (t + 1)]))[p]? = some (.lst [.int a, .int b, .int (t + 1)]) := get_set e
    generalize List.set S p (O.lst [W.int a, W.int b, W.int (t + 1)]) = S2 at e5 f1 f2 f3 ⊢
    have z1 : powOk 10 39 = true := by decide +kernel
    have z2 : powOk 10 38 = true := by decide +kernel
    have v1 : (10 : Int) ^ Int.toNat 39 + 3 = 1000000000000000000000000000000000000003 := by decide +kernel
    have v2 : (10 : Int) ^ Int.toNat 38 + 133 = 100000000000000000000000000000000000133 := by decide +kernel
    simp only [WPA, Nat.reduceSub, Nat.reduceAdd, tgN, tgNil, tgCons, tgTup, wipeE, isT, String.reduceBEq, reduceIte, lstAt_of e5, Option.bind_some, Option.map_some, b5 67867979 (t + 1) (by decide) (by decide) (by omega) (by omega), b5 32416190071 (t + 1) (by decide) (by decide) (by omega) (by omega),
      pow3Ok (b4 b 67867979 (t + 1) hb (by decide) (by decide) (by omega) (by omega)), z1, z2, v1, v2]
    have c1 : (0 : Int) < 1000000000000000000000000000000000000003 := by decide
    have c2 : (0 : Int) < 100000000000000000000000000000000000133 := by decide
    simp only [c1, c2, if_true, wO_some, opAdd_int, opPow_int, opMod_pos]
    have k4 := fun x => pow3Ok (b4 (x % 1000000000000000000000000000000000000003) 32416190071 (t + 1) (b3 _ _ c1 (by decide)) (by decide) (by decide) (by omega) (by omega))
    simp only [k4, c1, c2, if_true, wO_some, opFdiv_int, opMod_pos]
    have k5 : ∀ x, divOk x 90001 = true := fun x => divOk_of (by decide) (by decide)
    simp only [k5, h0, if_true, wO_some, opMod_pos]
    exact ⟨_, rfl, (mod_lt _).1, (mod_lt _).2, f1, f2, f3⟩
theorem take_spec (D : Purse B n p S) (hn : n < 2 ^ 100) (h0 : 0 < m) (h1 : m < 2 ^ 900) :
    wp (n_law_take [.ref p, .int m] S) (fun r S' => ∃ k : Int, r = .int k ∧ 0 ≤ k ∧ k < m ∧ Purse B (n + 1) p S' ∧ Fr B S S' ∧ S'.length = S.length) E := by
  obtain ⟨a, b, t, e, hb, t0, t1⟩ := D.ex
  have i30 : ixN 3 0 = some 0 := rfl
  have i32 : ixN 3 2 = some 2 := rfl
  have mod_lt : ∀ x : Int, 0 ≤ x % m ∧ x % m < m := fun x => ⟨Int.emod_nonneg _ (by omega), Int.emod_lt_of_pos _ h0⟩
  have mabs : m.natAbs < 2 ^ 1000 := Nat.lt_of_lt_of_le (by omega : m.natAbs < 2 ^ 900) (Nat.pow_le_pow_right (by decide) (by decide))
  have fin : ∀ (a' t' : Int), 0 ≤ t' → t' ≤ n + 1 → Purse B (n + 1) p (List.set S p (.lst [.int a', .int b, .int t'])) ∧ Fr B S (List.set S p (.lst [.int a', .int b, .int t'])) ∧ (List.set S p (.lst [.int a', .int b, .int t'])).length = S.length := fun a' t' q0 q1 =>
    ⟨⟨by rw [List.length_set]; exact D.bl, D.lt, a', b, t', get_set e, hb, q0, by omega⟩, Fr.refl.setB D.lt, by simp⟩
  unfold n_law_take d_law_take
  simp only [WPA, Nat.reduceSub, Nat.reduceAdd, tgN, tgNil, tgCons, tgTup, wipeE, isT, String.reduceBEq, reduceIte, lstAt_of e, Option.bind_some, Option.map_some, h0, divOk_of h0 mabs, setIx_ref e, i30, i32]
  by_cases ha : 0 < a
  · rw [if_pos (decide_eq_true ha)]
    exact ⟨_, rfl, (mod_lt a).1, (mod_lt a).2, fin _ _ t0 (by omega)⟩
  · rw [if_neg (by simpa using ha)]
    obtain ⟨f1, f2, f3⟩ := fin a (t + 1) (by omega) (by omega)
    have e5 : (List.set S p (O.lst [W.int a, W.int b, W.int (t + 1)]))[p]? = some (.lst [.int a, .int b, .int (t + 1)]) := get_set e
    generalize List.set S p (O.lst [W.int a, W.int b, W.int (t + 1)]) = S2 at e5 f1 f2 f3 ⊢
    have z1 : powOk 10 40 = true := by decide +kernel
    have z2 : powOk 10 39 = true := by decide +kernel
    have z3 : powOk 10 5 = true := by decide +kernel
    have v1 : (10 : Int) ^ Int.toNat 40 + 121 = 10000000000000000000000000000000000000121 := by decide +kernel
    have v2 : (10 : Int) ^ Int.toNat 39 + 3 = 1000000000000000000000000000000000000003 := by decide +kernel
    have v3 : (10 : Int) ^ Int.toNat 5 = 100000 := by decide +kernel
    simp only [WPA, Nat.reduceSub, Nat.reduceAdd, tgN, tgNil, tgCons, tgTup, wipeE, isT, String.reduceBEq, reduceIte, lstAt_of e5, Option.bind_some, Option.map_some, b5 32452843 (t + 1) (by decide) (by decide) (by omega) (by omega), b5 15485863 (t + 1) (by decide) (by decide) (by omega) (by omega),
      pow3Ok (b4 b 32452843 (t + 1) hb (by decide) (by decide) (by omega) (by omega)), z1, z2, z3, v1, v2, v3]
    have c1 : (0 : Int) < 10000000000000000000000000000000000000121 := by decide
    have c2 : (0 : Int) < 1000000000000000000000000000000000000003 := by decide
    simp only [c1, c2, if_true, wO_some, opAdd_int, opPow_int, opMod_pos]
    have k4 := fun x => pow2Ok (b4 (x % 10000000000000000000000000000000000000121) 15485863 (t + 1) (b3 _ _ c1 (by decide)) (by decide) (by decide) (by omega) (by omega))
    simp only [k4, c1, c2, if_true, wO_some, opFdiv_int, opMod_pos]
    have k5 : ∀ x, divOk x 100000 = true := fun x => divOk_of (by decide) (by decide)
    simp only [k5, h0, if_true, wO_some, opMod_pos]
    exact ⟨_, rfl, (mod_lt _).1, (mod_lt _).2, f1, f2, f3⟩
end
theorem purse_spec {ns : List Int} {k : Nat} {S : Store} {E : Ex → Store → Prop} (hk : k ≤ 1000) : wp (n_law_purse [.rl (ns.map W.int), .int k] S) (fun r S' => ∃ a b : Int, r = .ref S.length ∧ S' = S ++ [.lst [.int a, .int b, .int 0]] ∧ Purse (S.length + 1) 0 S.length S') E := by
  have z1 : powOk 10 18 = true := by decide +kernel
  have z2 : powOk 10 35 = true := by decide +kernel
  have v2 : (10 : Int) ^ Int.toNat 35 + 69 = 100000000000000000000000000000000069 := by decide +kernel
  have c1 : (0 : Int) < 100000000000000000000000000000000069 := by decide
  have fin : ∀ (c i : Int), mulOk (c % 100000000000000000000000000000000069) 5 = true ∧ (0 ≤ i → i ≤ 1000 → mulOk 10039 i = true ∧ (c % 100000000000000000000000000000000069 * 5 + 10039 * i + 1).natAbs < 2 ^ 150) := fun c i => by
    have h1 := Int.emod_nonneg c (show (100000000000000000000000000000000069 : Int) ≠ 0 by decide)
    have h2 := Int.emod_lt_of_pos c c1
    refine ⟨mulOk_of (Nat.lt_of_lt_of_le (by omega : _ < 2 ^ 150) (Nat.pow_le_pow_right (by decide) (by decide))) (Nat.lt_of_lt_of_le (by decide : _ < 2 ^ 150) (Nat.pow_le_pow_right (by decide) (by decide))), fun h3 h4 => ⟨mulOk_of (Nat.lt_of_lt_of_le (by decide : _ < 2 ^ 150) (Nat.pow_le_pow_right (by decide) (by decide))) (Nat.lt_of_lt_of_le (by omega : _ < 2 ^ 150) (Nat.pow_le_pow_right (by decide) (by decide))), by omega⟩⟩
  have out : ∀ c : Int, wpS ((dRet (dLst (aCons (dFn opMax2 (aCons (dC (.int 0)) (aCons (dOp opSub (dFn opAbs (aCons (dVar 2) aNil)) (dOp opPow (dC (.int 10)) (dC (.int 18)))) aNil))) (aCons (dOp opAdd (dOp opAdd (dOp opMul (dOp opMod (dVar 2) (dOp opAdd (dOp opPow (dC (.int 10)) (dC (.int 35))) (dC (.int 69)))) (dC (.int 5))) (dOp opMul (dC (.int 10039)) (dVar 1))) (dC (.int 1))) (aCons (dC (.int 0)) (aNil)))))) [some (.rl (ns.map W.int)), some (.int k), some (.int c)] S)
      ⟨fun _ _ => False, fun r S' => ∃ a b : Int, r = .ref S.length ∧ S' = S ++ [.lst [.int a, .int b, .int 0]] ∧ Purse (S.length + 1) 0 S.length S', fun _ _ => False, fun _ _ => False, fun _ _ _ => False⟩ := fun c => by
    obtain ⟨m1, m2⟩ := fin c k
    obtain ⟨m2, m3⟩ := m2 (by omega) (by omega)
    simp only [WPA, Nat.reduceSub, Nat.reduceAdd, tgN, tgNil, tgCons, tgTup, wipeE, isT, String.reduceBEq, reduceIte, opAbs, z1, z2, v2, c1, m1, m2, lenOk_of (show 3 ≤ 1000000 by decide)]
    exact ⟨_, _, rfl, ⟨by simp, by omega, _, _, 0, get_new, m3, Int.le_refl _, by omega⟩⟩
  unfold n_law_purse d_law_purse
  simp only [wp_dfn, wpS_dSeq, wpS_dSet, wp_dIfE, EVA, Nat.reduceSub, Nat.reduceAdd, tgN, tgNil, tgCons, tgTup, wipeE, isT, String.reduceBEq, reduceIte, wp_dBool, wp_dOp, wp_dVar, wO_some, wp_dFn, wp_aCons, wp_aNil, opLen_rl, opLt_int, wB_bl, List.length_map, opIx_rl, wp_dC]
  split
  · rename_i h
    have hk2 : k < ns.length := by simpa using h
    rw [atI_n, List.getElem?_map, List.getElem?_eq_getElem hk2]
    simp only [Option.map_some, wO_some]
    exact wpS_mono (out _) (fun _ _ h => h.elim) (fun _ _ h => h) (fun _ _ h => h.elim) (fun _ _ h => h.elim) (fun _ _ _ h => h.elim)
  · exact wpS_mono (out _) (fun _ _ h => h.elim) (fun _ _ h => h) (fun _ _ h => h.elim) (fun _ _ h => h.elim) (fun _ _ _ h => h.elim)
end N
namespace N
open PySem L2
noncomputable section
def d_spelled_at : DS :=
  dSeq (dSet 2 (dLst (aNil)))
  (dSeq (dFor (dEnum (aCons (dVar 1) aNil)) (tgTup 2 (tgCons (tgN 3) (tgCons (tgN 4) (tgNil)))) (dIf (dAnd (dBool (dOp opLt (dFn opLen (aCons (dVar 2) aNil)) (dFn opLen (aCons (dVar 0) aNil)))) (dBool (dOp opEq (dOp opIx (dVar 0) (dFn opLen (aCons (dVar 2) aNil))) (dVar 4)))) (dDrop (dMt "list" mAppend (dVar 2) (aCons (dVar 3) aNil))) (dNx)))
  (dRet (dIfE (dBool (dOp opEq (dFn opLen (aCons (dVar 2) aNil)) (dFn opLen (aCons (dVar 0) aNil)))) (dVar 2) (dC .non))))
def n_spelled_at : List W → M W := dfn 5 2 d_spelled_at
def d_is_office : DS :=
  dSeq (dIf (dOr (dNot (dTru (dIsi "str" (dVar 0)))) (dNot (dBool (dChain opLe opLe (dC (.int 1)) (dFn opLen (aCons (dVar 0) aNil)) (dC (.int 8)))))) (dRet (dC (.bl false))) (dNx))
  (dRet (dFn opAll (aCons (dLc (dSrc (dVar 0)) (tgN 1) (dYes) (dChain opLe opLe (dC (.str "a")) (dVar 1) (dC (.str "z"))) [1]) aNil)))
def n_is_office : List W → M W := dfn 2 1 d_is_office
def d_is_letter : DS :=
  dRet (dOrV (dCall n_is_office (aCons (dVar 0) (aNil))) (dAndV (dIsi "str" (dVar 0)) (dOp opEq (dVar 0) (dC (.str "+")))))
def n_is_letter : List W → M W := dfn 1 1 d_is_letter
def d_is_rule : DS :=
  dRet (dAndV (dIsi "list" (dVar 0)) (dFn opAll (aCons (dLc (dSrc (dVar 0)) (tgN 1) (dYes) (dCall n_is_letter (aCons (dVar 1) (aNil))) [1]) aNil)))
def n_is_rule : List W → M W := dfn 2 1 d_is_rule
def d_require_rule (x : Nat) : DS :=
  dIf (dNot (dTru (dCall n_is_rule (aCons (dVar 0) (aNil))))) (dRaise x) (dNx)
def n_require_rule (x : Nat) : List W → M W := dfn 1 1 (d_require_rule x)
def d_reduced_of : DS :=
  dSeq (dSet 1 (dLst (aNil)))
  (dSeq (dFor (dSrc (dVar 0)) (tgN 2) (dIf (dOr (dBool (dOp opEq (dVar 1) (dLst (aNil)))) (dOr (dBool (dOp opEq (dVar 2) (dC (.str "+")))) (dBool (dOp opNe (dVar 2) (dOp opIx (dVar 1) (dUn opNeg (dC (.int 1)))))))) (dDrop (dMt "list" mAppend (dVar 1) (aCons (dVar 2) aNil))) (dNx)))
  (dRet (dVar 1)))
def n_reduced_of : List W → M W := dfn 3 1 d_reduced_of
def d_law_names : DS :=
  dSeq (dSet 2 (dLst (aCons (dC (.str "a")) (aCons (dC (.str "b")) (aCons (dC (.str "ny")) (aCons (dC (.str "ldn")) (aCons (dC (.str "zz")) (aCons (dC (.str "tokyoabc")) (aCons (dC (.str "closed")) (aCons (dC (.str "o")) (aCons (dC (.str "day")) (aCons (dC (.str "opened")) (aNil)))))))))))))
  (dRet (dLc (dRng1 (aCons (dOp opAdd (dC (.int 1)) (dCall n_law_coin (aCons (dVar 0) (aCons (dVar 1) (aNil))))) aNil)) (tgN 3) (dYes) (dMt "list" mPop (dVar 2) (aCons (dCall n_law_coin (aCons (dVar 0) (aCons (dFn opLen (aCons (dVar 2) aNil)) (aNil)))) (aNil))) [3]))
def n_law_names : List W → M W := dfn 4 2 d_law_names
def d_law_letters : DS :=
  dSeq (dPar3 4 5 6 (aCons (dCall n_law_coin (aCons (dVar 0) (aCons (dOp opAdd (dVar 2) (dC (.int 1))) (aNil)))) (aCons (dCall n_law_coin (aCons (dVar 0) (aCons (dC (.int 4)) (aNil)))) (aCons (dLst (aNil)) (aNil)))))
  (dSeq (dFor (dRng1 (aCons (dVar 4) aNil)) (tgN 3) (dSeq (dSet 7 (dOp opIx (dOp opAdd (dVar 1) (dLst (aCons (dC (.str "+")) (aNil)))) (dCall n_law_coin (aCons (dVar 0) (aCons (dOp opAdd (dFn opLen (aCons (dVar 1) aNil)) (dC (.int 1))) (aNil))))))
  (dSeq (dIf (dAnd (dBool (dOp opEq (dVar 5) (dC (.int 1)))) (dBool (dOp opGt (dCall n_law_coin (aCons (dVar 0) (aCons (dC (.int 3)) (aNil)))) (dC (.int 0))))) (dSet 7 (dC (.str "+"))) (dNx))
  (dSeq (dIf (dBool (dOp opEq (dVar 5) (dC (.int 2)))) (dSet 7 (dOp opIx (dVar 1) (dOp opMod (dVar 3) (dFn opLen (aCons (dVar 1) aNil))))) (dNx))
  (dSeq (dIf (dBool (dOp opEq (dVar 5) (dC (.int 3)))) (dSet 7 (dOp opIx (dLst (aCons (dOp opIx (dVar 1) (dC (.int 0))) (aCons (dC (.str "+")) (aNil)))) (dOp opMod (dVar 3) (dC (.int 2))))) (dNx))
  (dDrop (dMt "list" mAppend (dVar 6) (aCons (dVar 7) aNil))))))))
  (dRet (dVar 6)))
def n_law_letters : List W → M W := dfn 8 3 d_law_letters
def d_law_changed : DS :=
  dSeq (dSet 3 (dFn opList (aCons (dVar 1) aNil)))
  (dSeq (dFor (dRng1 (aCons (dOp opAdd (dC (.int 1)) (dCall n_law_coin (aCons (dVar 0) (aCons (dC (.int 3)) (aNil))))) aNil)) (tgN 4) (dSeq (dPar 7 8 (aCons (dCall n_law_coin (aCons (dVar 0) (aCons (dOp opAdd (dFn opLen (aCons (dVar 3) aNil)) (dC (.int 1))) (aNil)))) (aCons (dCall n_law_coin (aCons (dVar 0) (aCons (dC (.int 5)) (aNil)))) (aNil))))
  (dSeq (dSet 5 (dOp opIx (dOp opAdd (dVar 2) (dLst (aCons (dC (.str "+")) (aNil)))) (dCall n_law_coin (aCons (dVar 0) (aCons (dOp opAdd (dFn opLen (aCons (dVar 2) aNil)) (dC (.int 1))) (aNil))))))
  (dSeq (dSet 6 (dOp opIx (dLst (aCons (dLst (aCons (dVar 5) (aNil))) (aCons (dLst (aNil)) (aCons (dLst (aCons (dVar 5) (aNil))) (aCons (dOp opMul (dSl (dVar 3) (oS (dVar 7)) (oS (dOp opAdd (dVar 7) (dC (.int 1))))) (dC (.int 2))) (aCons (dUn opRevL (dSl (dVar 3) (oS (dVar 7)) (oS (dOp opAdd (dVar 7) (dC (.int 2)))))) (aNil))))))) (dVar 8)))
  (dSet 3 (dOp opAdd (dOp opAdd (dSl (dVar 3) (oN) (oS (dVar 7))) (dVar 6)) (dSl (dVar 3) (oS (dOp opAdd (dVar 7) (dOp opIx (dLst (aCons (dC (.int 0)) (aCons (dC (.int 1)) (aCons (dC (.int 1)) (aCons (dC (.int 1)) (aCons (dC (.int 2)) (aNil))))))) (dVar 8)))) (oN))))))))
  (dRet (dSl (dVar 3) (oN) (oS (dC (.int 200))))))
def n_law_changed : List W → M W := dfn 9 3 d_law_changed
def d_law_longer : DS :=
  dSeq (dSet 4 (dFn opList (aCons (dVar 1) aNil)))
  (dSeq (dFor (dRng1 (aCons (dCall n_law_coin (aCons (dVar 0) (aCons (dOp opAdd (dVar 3) (dC (.int 1))) (aNil)))) aNil)) (tgN 5) (dSeq (dSet 6 (dCall n_law_coin (aCons (dVar 0) (aCons (dOp opAdd (dFn opLen (aCons (dVar 4) aNil)) (dC (.int 1))) (aNil)))))
  (dDrop (dMt "list" mInsert (dVar 4) (aCons (dVar 6) (aCons (dOp opIx (dOp opAdd (dVar 2) (dLst (aCons (dC (.str "+")) (aNil)))) (dCall n_law_coin (aCons (dVar 0) (aCons (dOp opAdd (dFn opLen (aCons (dVar 2) aNil)) (dC (.int 1))) (aNil))))) (aNil)))))))
  (dRet (dVar 4)))
def n_law_longer : List W → M W := dfn 7 4 d_law_longer
def d_law_reduced : DS :=
  dSeq (dSet 1 (dLst (aNil)))
  (dSeq (dFor (dSrc (dVar 0)) (tgN 2) (dIf (dOr (dBool (dOp opEq (dVar 2) (dC (.str "+")))) (dBool (dOp opNe (dSl (dVar 1) (oS (dUn opNeg (dC (.int 1)))) (oN)) (dLst (aCons (dVar 2) (aNil)))))) (dDrop (dMt "list" mAppend (dVar 1) (aCons (dVar 2) aNil))) (dNx)))
  (dRet (dVar 1)))
def n_law_reduced : List W → M W := dfn 3 1 d_law_reduced
def d_law_spelled : DS :=
  dSeq (dPar 3 4 (aCons (dLst (aNil)) (aCons (dC (.int 0)) (aNil))))
  (dSeq (dFor (dSrc (dCall n_law_reduced (aCons (dVar 0) (aNil)))) (tgN 2) (dSeq (dIf (dBool (dOp opNotIn (dVar 2) (dSl (dVar 1) (oS (dVar 4)) (oN)))) (dRet (dC .non)) (dNx))
  (dSeq (dSet 4 (dOp opAdd (dOp opAdd (dVar 4) (dMt "list" mIndex (dSl (dVar 1) (oS (dVar 4)) (oN)) (aCons (dVar 2) (aNil)))) (dC (.int 1))))
  (dDrop (dMt "list" mAppend (dVar 3) (aCons (dOp opSub (dVar 4) (dC (.int 1))) aNil))))))
  (dRet (dVar 3)))
def n_law_spelled : List W → M W := dfn 5 2 d_law_spelled

end
/-- a name of an office -/
structure Name (x : Str) : Prop where
  len : 1 ≤ x.length ∧ x.length ≤ 8
  low : ∀ c ∈ x.cps.toList, 97 ≤ c ∧ c ≤ 122
theorem letter {c : Nat} (h : 97 ≤ c ∧ c ≤ 122) : (!decide ((⟨#[c]⟩ : Str).cps.toList < ("a" : Str).cps.toList)) = true ∧ (!decide (("z" : Str).cps.toList < (⟨#[c]⟩ : Str).cps.toList)) = true := by
  have e1 : ("a" : Str).cps.toList = [97] := by decide
  have e2 : ("z" : Str).cps.toList = [122] := by decide
  rw [e1, e2]
  have lt1 : ∀ a b : Nat, ([a] < [b]) ↔ a < b := fun a b => by
    rw [List.cons_lt_cons_iff]
    constructor
    · rintro (h | ⟨_, h⟩)
      · exact h
      · exact absurd h (List.not_lt_nil _)
    · exact .inl
  constructor
  · rw [Bool.not_eq_true', decide_eq_false_iff_not]
    exact fun q => absurd ((lt1 _ _).mp q) (by omega)
  · rw [Bool.not_eq_true', decide_eq_false_iff_not]
    exact fun q => absurd ((lt1 _ _).mp q) (by omega)
theorem is_office_spec {x : Str} {S : Store} {E : Ex → Store → Prop} (h : Name x) : wp (n_is_office [.str x] S) (fun r S' => r = .bl true ∧ Fr 0 S S') E := by
  unfold n_is_office d_is_office
  have h1 : x.length ≤ sizeLine := by rw [sizeLine_eq]; have := h.len.2; omega
  have h2 : (1 : Int) ≤ x.length := by have := h.len.1; omega
  have h3 : (x.length : Int) ≤ 8 := by have := h.len.2; omega
  have hl : x.cps.toList.length ≤ 8 := h.len.2
  simp only [WPA, Nat.reduceSub, Nat.reduceAdd, tgN, tgNil, tgCons, tgTup, wipeE, isT, String.reduceBEq, reduceIte, h1, decide_eq_true h2, decide_eq_true h3, srcW, List.length_map, lenOk_of (show x.cps.toList.length ≤ 1000000 by omega)]
  refine wp_mono (wp_lcF (f := fun _ => W.bl true) (fun S' => Fr 0 S S') Fr.refl (fun _ _ => trivial) ?_) ?_ (fun _ _ q => q)
  · intro i c S' e f
    have hc := letter (h.low c (List.mem_of_getElem? e))
    simp only [WPA, Nat.reduceSub, Nat.reduceAdd, tgN, tgNil, tgCons, tgTup, wipeE, isT, String.reduceBEq, reduceIte, hc.1, hc.2]
    exact f
  · rintro ws S' ⟨rfl, f⟩
    have e : (S' ++ [O.lst (x.cps.toList.map fun _ => W.bl true)])[S'.length]? = some (.lst ((x.cps.toList.map fun _ => true).map W.bl)) := by
      rw [List.map_map]; exact get_new
    rw [opAll_ref e, wO_some, map_true fun _ _ => rfl]
    exact ⟨rfl, f.snoc⟩
/-- a letter of a rule -/
def Letter (x : Str) : Prop := Name x ∨ x = "+"
theorem plus_not_name : ¬ Name "+" := fun h => by
  have := h.low 43 (by decide)
  omega
theorem is_office_plus {S : Store} {E : Ex → Store → Prop} : wp (n_is_office [.str "+"] S) (fun r S' => r = .bl false ∧ Fr 0 S S') E := by
  unfold n_is_office d_is_office
  have e0 : ("+" : Str).length = 1 := by decide
  have e1 : ("+" : Str).cps.toList = [43] := by decide
  have h1 : ("+" : Str).length ≤ sizeLine := by rw [sizeLine_eq, e0]; omega
  simp only [WPA, Nat.reduceSub, Nat.reduceAdd, tgN, tgNil, tgCons, tgTup, wipeE, isT, String.reduceBEq, reduceIte, e0, show (1 : Nat) ≤ sizeLine by rw [sizeLine_eq]; omega, srcW, e1, lenOk_of (show 1 ≤ 1000000 by omega)]
  have d1 : decide ((1 : Int) ≤ ((1 : Nat) : Int)) = true := by decide
  have d2 : decide (((1 : Nat) : Int) ≤ 8) = true := by decide
  simp only [d1, d2, EVA, Nat.reduceSub, Nat.reduceAdd, tgN, tgNil, tgCons, tgTup, wipeE, isT, String.reduceBEq, reduceIte]
  refine wp_mono (wp_lcF (xs := [43]) (c := fun c => W.str ⟨#[c]⟩) (f := fun _ => W.bl false) (fun S' => Fr 0 S S') Fr.refl (fun _ _ => trivial) ?_) ?_ (fun _ _ q => q)
  · intro i c S' e f
    have hc : c = 43 := by
      have := List.mem_of_getElem? e
      simpa using this
    subst hc
    have k1 : (!decide ((⟨#[43]⟩ : Str).cps.toList < ("a" : Str).cps.toList)) = false := by decide
    simp only [WPA, Nat.reduceSub, Nat.reduceAdd, tgN, tgNil, tgCons, tgTup, wipeE, isT, String.reduceBEq, reduceIte, k1]
    exact f
  · rintro ws S' ⟨rfl, f⟩
    have e : (S' ++ [O.lst ([43].map fun _ => W.bl false)])[S'.length]? = some (.lst (([43].map fun _ => false).map W.bl)) := get_new
    rw [opAll_ref e, wO_some]
    exact ⟨rfl, f.snoc⟩
theorem is_letter_spec {x : Str} {S : Store} {E : Ex → Store → Prop} (h : Letter x) : wp (n_is_letter [.str x] S) (fun r S' => r = .bl true ∧ Fr 0 S S') E := by
  unfold n_is_letter d_is_letter
  simp only [WPA, Nat.reduceSub, Nat.reduceAdd, tgN, tgNil, tgCons, tgTup, wipeE, isT, String.reduceBEq, reduceIte]
  rcases h with h | rfl
  · refine wp_mono (is_office_spec h) ?_ (fun _ _ q => q)
    rintro r S' ⟨rfl, f⟩
    simp only [WPA, Nat.reduceSub, Nat.reduceAdd, tgN, tgNil, tgCons, tgTup, wipeE, isT, String.reduceBEq, reduceIte]
    exact f
  · refine wp_mono is_office_plus ?_ (fun _ _ q => q)
    rintro r S' ⟨rfl, f⟩
    simp only [WPA, Nat.reduceSub, Nat.reduceAdd, tgN, tgNil, tgCons, tgTup, wipeE, isT, String.reduceBEq, reduceIte, beq_self_eq_true]
    exact f
theorem is_rule_spec {n : Nat} {xs : List Str} {S : Store} {E : Ex → Store → Prop} (g : S[n]? = some (.lst (xs.map W.str))) (hl : xs.length ≤ 10000) (h : ∀ x ∈ xs, Letter x) : wp (n_is_rule [.ref n] S) (fun r S' => r = .bl true ∧ Fr 0 S S') E := by
  unfold n_is_rule d_is_rule
  simp only [WPA, Nat.reduceSub, Nat.reduceAdd, tgN, tgNil, tgCons, tgTup, wipeE, isT, String.reduceBEq, reduceIte, tyN_ref g, srcW_ref g, List.length_map, lenOk_of (show xs.length ≤ 1000000 by omega)]
  refine wp_mono (wp_lcF (f := fun _ => W.bl true) (fun S' => Fr 0 S S') Fr.refl (fun S' f => f.g0 g) ?_) ?_ (fun _ _ q => q)
  · intro i c S' e f
    simp only [WPA, Nat.reduceSub, Nat.reduceAdd, tgN, tgNil, tgCons, tgTup, wipeE, isT, String.reduceBEq, reduceIte]
    refine wp_mono (is_letter_spec (h c (List.mem_of_getElem? e))) ?_ (fun _ _ q => q)
    rintro r S2 ⟨rfl, f2⟩
    exact ⟨rfl, f.trans f2⟩
  · rintro ws S' ⟨rfl, f⟩
    have e : (S' ++ [O.lst (xs.map fun _ => W.bl true)])[S'.length]? = some (.lst ((xs.map fun _ => true).map W.bl)) := by
      rw [List.map_map]; exact get_new
    rw [opAll_ref e, wO_some, map_true fun _ _ => rfl]
    exact ⟨rfl, f.snoc⟩
theorem require_rule_spec {i n : Nat} {xs : List Str} {S : Store} {E : Ex → Store → Prop} (g : S[n]? = some (.lst (xs.map W.str))) (hl : xs.length ≤ 10000) (h : ∀ x ∈ xs, Letter x) : wp (n_require_rule i [.ref n] S) (fun r S' => Fr 0 S S') E := by
  unfold n_require_rule d_require_rule
  simp only [WPA, Nat.reduceSub, Nat.reduceAdd, tgN, tgNil, tgCons, tgTup, wipeE, isT, String.reduceBEq, reduceIte]
  refine wp_mono (is_rule_spec g hl h) ?_ (fun _ _ q => q)
  rintro r S' ⟨rfl, f⟩
  simp only [WPA, Nat.reduceSub, Nat.reduceAdd, tgN, tgNil, tgCons, tgTup, wipeE, isT, String.reduceBEq, reduceIte]
  exact f
/-! ### reduced -/
def redS (acc : List Str) (x : Str) : List Str := if x = "+" ∨ acc.getLast? ≠ some x then acc ++ [x] else acc
def red (xs : List Str) : List Str := xs.foldl redS []
theorem red_len (xs : List Str) : (red xs).length ≤ xs.length := by
  have : ∀ (xs acc : List Str), (xs.foldl redS acc).length ≤ acc.length + xs.length := fun xs => by
    induction xs with
    | nil => intro acc; simp
    | cons x xs ih =>
      intro acc
      have := ih (redS acc x)
      have h2 : (redS acc x).length ≤ acc.length + 1 := by
        unfold redS
        split <;> simp
      simp only [List.foldl_cons, List.length_cons]
      omega
  simpa [red] using this xs []
theorem red_mem {xs : List Str} {x : Str} (h : x ∈ red xs) : x ∈ xs := by
  have : ∀ (xs acc : List Str), x ∈ xs.foldl redS acc → x ∈ acc ∨ x ∈ xs := fun xs => by
    induction xs with
    | nil => intro acc h; exact .inl h
    | cons y xs ih =>
      intro acc h
      rcases ih _ h with h | h
      · unfold redS at h
        split at h
        · rcases List.mem_append.mp h with h | h
          · exact .inl h
          · exact .inr (by rw [List.mem_singleton.mp h]; exact List.mem_cons_self ..)
        · exact .inl h
      · exact .inr (List.mem_cons_of_mem _ h)
  rcases this xs [] h with h | h
  · cases h
  · exact h
theorem red_take {xs : List Str} {i : Nat} {x : Str} (e : xs[i]? = some x) : red (xs.take (i + 1)) = redS (red (xs.take i)) x := by
  unfold red
  rw [List.take_succ, e, List.foldl_append]
  rfl
theorem toD_strs {S : Store} {k : Nat} (xs : List Str) : mapO (toD S (k + 1)) (xs.map W.str) = some (xs.map PyData.str) := mapO_map fun _ _ => rfl
theorem eqvAll_strs : ∀ {xs ys : List Str}, PyData.eqvAll (xs.map PyData.str) (ys.map PyData.str) = decide (xs = ys)
  | [], [] => by simp [PyData.eqvAll]
  | [], y :: ys => by simp [PyData.eqvAll]
  | x :: xs, [] => by simp [PyData.eqvAll]
  | x :: xs, y :: ys => by
    simp only [List.map_cons, PyData.eqvAll, PyData.eqv, eqvAll_strs]
    by_cases h : x = y
    · subst h; simp
    · have : (x == y) = false := by simpa using h
      simp [this, h]
theorem opEq_strs {n m : Nat} {xs ys : List Str} {S : Store} (h1 : S[n]? = some (.lst (xs.map W.str))) (h2 : S[m]? = some (.lst (ys.map W.str))) : opEq (.ref n) (.ref m) S = some (.bl (decide (xs = ys)), S) := by
  unfold opEq
  rw [toD_lst h1, toD_lst h2, toD_strs, toD_strs]
  show some (W.bl (PyData.eqv (.list _) (.list _)), S) = _
  simp only [PyData.eqv, eqvAll_strs]
theorem opNe_strs {n m : Nat} {xs ys : List Str} {S : Store} (h1 : S[n]? = some (.lst (xs.map W.str))) (h2 : S[m]? = some (.lst (ys.map W.str))) : opNe (.ref n) (.ref m) S = some (.bl (!decide (xs = ys)), S) := by
  unfold opNe
  rw [toD_lst h1, toD_lst h2, toD_strs, toD_strs]
  show some (W.bl (!PyData.eqv (.list _) (.list _)), S) = _
  simp only [PyData.eqv, eqvAll_strs]
theorem opNeg_int {i : Int} {S : Store} : opNeg (.int i) S = some (.int (-i), S) := rfl
theorem atI_last {α : Type} {xs : List α} : atI xs (-1) = xs.getLast? := by
  unfold atI ixN
  rw [if_neg (by decide), List.getLast?_eq_getElem?]
  by_cases h : xs.length = 0
  · rw [if_neg (by omega), List.length_eq_zero_iff.mp h]; rfl
  · rw [if_pos (by omega)]
    show xs[(-1 + (xs.length : Int)).toNat]? = _
    congr 1; omega
theorem reduced_of_spec {n : Nat} {xs : List Str} {S : Store} {E : Ex → Store → Prop} (g : S[n]? = some (.lst (xs.map W.str))) (hl : xs.length ≤ 10000) :
    wp (n_reduced_of [.ref n] S) (fun r S' => r = .ref S.length ∧ S'[S.length]? = some (.lst ((red xs).map W.str)) ∧ Fr 0 S S') E := by
  unfold n_reduced_of d_reduced_of
  have g1 : (S ++ [O.lst []])[n]? = some (.lst (xs.map W.str)) := Fr.app.g0 g
  simp only [WPA, Nat.reduceSub, Nat.reduceAdd, tgN, tgNil, tgCons, tgTup, wipeE, isT, String.reduceBEq, reduceIte, lenOk_of (show 0 ≤ 1000000 by decide), srcW_ref g1]
  refine wpS_forL (fun i ε S' => ∃ x2, ε = [some (.ref n), some (.ref S.length), x2] ∧ S'[S.length]? = some (.lst ((red (xs.take i)).map W.str)) ∧ Fr 0 S S') ⟨_, rfl, get_new, Fr.app⟩ (fun _ _ S' _ ⟨_, _, _, f⟩ => f.g0 g) ?_ ?_
  · rintro i w ε S' e ⟨x2, rfl, gr, f⟩
    rw [List.getElem?_map, Option.map_eq_some_iff] at e
    obtain ⟨x, e, rfl⟩ := e
    have hz : (red (xs.take i)).length < 1000000 := by
      have h1 := red_len (xs.take i)
      have h2 : (xs.take i).length ≤ xs.length := by rw [List.length_take]; omega
      omega
    have gr2 : (S' ++ [O.lst []])[S.length]? = some (.lst ((red (xs.take i)).map W.str)) := Fr.app.g0 gr
    have em : opEq (.ref S.length) (.ref S'.length) (S' ++ [O.lst []]) = some (.bl (decide (red (xs.take i) = [])), S' ++ [O.lst []]) := opEq_strs (ys := []) gr2 get_new
    simp only [WPA, Nat.reduceSub, Nat.reduceAdd, tgN, tgNil, tgCons, tgTup, wipeE, isT, String.reduceBEq, reduceIte, lenOk_of (show 0 ≤ 1000000 by decide), em, tyM_ref gr2, lstAt_of gr2, opNeg_int, atI_last, List.getLast?_map, List.length_map]
    rw [red_take e]
    have app : wO (mAppend (.ref S.length) [.str x] (S' ++ [O.lst []])) fun p => ∃ x2,
        [some (W.ref n), some (W.ref S.length), some (W.str x)] = [some (W.ref n), some (W.ref S.length), x2] ∧ p.snd[S.length]? = some (O.lst ((red (xs.take i) ++ [x]).map W.str)) ∧ Fr 0 S p.snd := by
      rw [mAppend_ref gr2, if_pos (by rw [sizeLine_eq, List.length_map]; omega), wO_some]
      refine ⟨_, rfl, ?_, f.snoc.setN (Nat.le_refl _)⟩
      rw [List.map_append]; exact get_set gr2
    by_cases h0 : red (xs.take i) = []
    · rw [if_pos (decide_eq_true h0)]
      have : redS (red (xs.take i)) x = red (xs.take i) ++ [x] := if_pos (.inr (by rw [h0]; simp))
      rw [this]
      exact app
    · rw [if_neg (by simpa using h0)]
      by_cases h1 : x = "+"
      · rw [if_pos (by rw [h1]; exact beq_self_eq_true _)]
        have : redS (red (xs.take i)) x = red (xs.take i) ++ [x] := if_pos (.inl h1)
        rw [this]
        exact app
      · rw [if_neg (by simpa using h1)]
        obtain ⟨y, hy⟩ : ∃ y, (red (xs.take i)).getLast? = some y := by
          cases z : (red (xs.take i)).getLast? with
          | none => exact absurd (List.getLast?_eq_none_iff.mp z) h0
          | some y => exact ⟨y, rfl⟩
        rw [hy]
        simp only [Option.map_some, wO_some, opNe_str, wB_bl]
        by_cases h2 : x = y
        · rw [if_neg (by simp [h2])]
          have : redS (red (xs.take i)) x = red (xs.take i) := if_neg (by rw [hy, h2]; rw [h2] at h1; simp [h1])
          rw [this]
          exact ⟨_, rfl, gr2, f.snoc⟩
        · rw [if_pos (by simp [h2])]
          have : redS (red (xs.take i)) x = red (xs.take i) ++ [x] := if_pos (.inr (by rw [hy]; simpa using fun e => h2 e.symm))
          rw [this]
          exact app
  · rintro ε S' ⟨x2, rfl, gr, f⟩
    rw [List.length_map, List.take_length] at gr
    simp only [WPA, Nat.reduceSub, Nat.reduceAdd, tgN, tgNil, tgCons, tgTup, wipeE, isT, String.reduceBEq, reduceIte]
    exact ⟨gr, f⟩
theorem cut_last {α : Type} {xs : List α} : cutL xs (some (-1)) none = xs.getLast?.toList := by
  unfold cutL
  have e1 : HT.sIx xs.length 0 (some (-1)) = (-1 + (xs.length : Int)).toNat := by
    unfold HT.sIx
    exact if_pos (by decide)
  rw [e1, HT.sIx_none]
  rcases List.eq_nil_or_concat xs with rfl | ⟨ys, y, rfl⟩
  · rfl
  · simp
    have : (-1 + ((ys.length : Int) + 1)).toNat = ys.length := by omega
    rw [this]
    simp
theorem law_reduced_spec {n : Nat} {xs : List Str} {S : Store} {E : Ex → Store → Prop} (g : S[n]? = some (.lst (xs.map W.str))) (hl : xs.length ≤ 10000) :
    wp (n_law_reduced [.ref n] S) (fun r S' => r = .ref S.length ∧ S'[S.length]? = some (.lst ((red xs).map W.str)) ∧ Fr 0 S S') E := by
  unfold n_law_reduced d_law_reduced
  have g1 : (S ++ [O.lst []])[n]? = some (.lst (xs.map W.str)) := Fr.app.g0 g
  simp only [WPA, Nat.reduceSub, Nat.reduceAdd, tgN, tgNil, tgCons, tgTup, wipeE, isT, String.reduceBEq, reduceIte, lenOk_of (show 0 ≤ 1000000 by decide), srcW_ref g1]
  refine wpS_forL (fun i ε S' => ∃ x2, ε = [some (.ref n), some (.ref S.length), x2] ∧ S'[S.length]? = some (.lst ((red (xs.take i)).map W.str)) ∧ Fr 0 S S') ⟨_, rfl, get_new, Fr.app⟩ (fun _ _ S' _ ⟨_, _, _, f⟩ => f.g0 g) ?_ ?_
  · rintro i w ε S' e ⟨x2, rfl, gr, f⟩
    rw [List.getElem?_map, Option.map_eq_some_iff] at e
    obtain ⟨x, e, rfl⟩ := e
    have hz : (red (xs.take i)).length < 1000000 := by
      have h1 := red_len (xs.take i)
      have h2 : (xs.take i).length ≤ xs.length := by rw [List.length_take]; omega
      omega
    rw [red_take e]
    have app : ∀ S2, S2[S.length]? = some (.lst ((red (xs.take i)).map W.str)) → Fr 0 S S2 → wO (mAppend (.ref S.length) [.str x] S2) fun p => ∃ x2,
        [some (W.ref n), some (W.ref S.length), some (W.str x)] = [some (W.ref n), some (W.ref S.length), x2] ∧ p.snd[S.length]? = some (O.lst ((red (xs.take i) ++ [x]).map W.str)) ∧ Fr 0 S p.snd := fun S2 g2 f2 => by
      rw [mAppend_ref g2, if_pos (by rw [sizeLine_eq, List.length_map]; omega), wO_some]
      refine ⟨_, rfl, ?_, f2.setN (Nat.le_refl _)⟩
      rw [List.map_append]; exact get_set g2
    have c1 : (((red (xs.take i)).map W.str).getLast?).toList = ((red (xs.take i)).getLast?.toList).map W.str := by
      rw [List.getLast?_map]
      cases (red (xs.take i)).getLast? <;> rfl
    have gr3 : (S' ++ [O.lst (((red (xs.take i)).getLast?.toList).map W.str)] ++ [O.lst [W.str x]])[S.length]? = some (.lst ((red (xs.take i)).map W.str)) := Fr.app.g0 (Fr.app.g0 gr)
    have em : opNe (.ref S'.length) (.ref (S' ++ [O.lst (((red (xs.take i)).getLast?.toList).map W.str)]).length) (S' ++ [O.lst (((red (xs.take i)).getLast?.toList).map W.str)] ++ [O.lst [W.str x]]) = some (.bl (!decide ((red (xs.take i)).getLast?.toList = [x])), S' ++ [O.lst (((red (xs.take i)).getLast?.toList).map W.str)] ++ [O.lst [W.str x]]) := opNe_strs (ys := [x]) (Fr.app.g0 get_new) get_new
    simp only [WPA, Nat.reduceSub, Nat.reduceAdd, tgN, tgNil, tgCons, tgTup, wipeE, isT, String.reduceBEq, reduceIte, lenOk_of (show 0 ≤ 1000000 by decide), lenOk_of (show 1 ≤ 1000000 by decide), opNeg_int, opSl_ref gr, cut_last, c1, em, tyM_ref gr, tyM_ref gr3]
    by_cases h1 : x = "+"
    · rw [if_pos (by rw [h1]; exact beq_self_eq_true _)]
      have : redS (red (xs.take i)) x = red (xs.take i) ++ [x] := if_pos (.inl h1)
      rw [this]
      exact app _ gr f
    · rw [if_neg (by simpa using h1)]
      by_cases h2 : (red (xs.take i)).getLast? = some x
      · rw [if_neg (by rw [h2]; simp)]
        have : redS (red (xs.take i)) x = red (xs.take i) := if_neg (by rw [h2]; simp [h1])
        rw [this]
        exact ⟨_, rfl, gr3, f.snoc.snoc⟩
      · rw [if_pos (by
          cases z : (red (xs.take i)).getLast? with
          | none => simp
          | some y =>
            rw [z] at h2
            have : y ≠ x := fun e => h2 (by rw [e])
            simpa using this)]
        have : redS (red (xs.take i)) x = red (xs.take i) ++ [x] := if_pos (.inr h2)
        rw [this]
        exact app _ gr3 f.snoc.snoc
  · rintro ε S' ⟨x2, rfl, gr, f⟩
    rw [List.length_map, List.take_length] at gr
    simp only [WPA, Nat.reduceSub, Nat.reduceAdd, tgN, tgNil, tgCons, tgTup, wipeE, isT, String.reduceBEq, reduceIte]
    exact ⟨gr, f⟩
/-! ### drawn rules -/
theorem eraseIdx_mapW {α β : Type} {f : α → β} : ∀ {xs : List α} {i : Nat}, (xs.map f).eraseIdx i = (xs.eraseIdx i).map f
  | [], _ => rfl
  | x :: xs, 0 => rfl
  | x :: xs, i + 1 => by
    have ih := eraseIdx_mapW (f := f) (xs := xs) (i := i)
    simp only [List.map_cons, List.eraseIdx_cons_succ, ih]
theorem pick_perm {α : Type} : ∀ {xs : List α} {i : Nat} {x : α}, xs[i]? = some x → (x :: xs.eraseIdx i).Perm xs
  | [], _, _, h => by simp at h
  | y :: xs, 0, x, h => by simp at h; subst h; exact List.Perm.refl _
  | y :: xs, i + 1, x, h => by
    have ih := pick_perm (xs := xs) (i := i) (x := x) (by simpa using h)
    rw [List.eraseIdx_cons_succ]
    exact (List.Perm.swap y x _).trans (ih.cons y)
def tenNames : List Str := ["a", "b", "ny", "ldn", "zz", "tokyoabc", "closed", "o", "day", "opened"]
theorem ten_ok : ∀ x ∈ tenNames, Name x ∧ okS x = true ∧ x.cps.size ≤ 8 := by
  intro x hx
  simp only [tenNames, List.mem_cons, List.mem_nil_iff, or_false] at hx
  rcases hx with rfl | rfl | rfl | rfl | rfl | rfl | rfl | rfl | rfl | rfl <;> exact ⟨⟨by decide, by decide⟩, by decide, by decide⟩
theorem bnd_of {i : Int} (h0 : 0 ≤ i) (h1 : i ≤ 2 ^ 60) : bnd i = true := by
  unfold bnd
  exact decide_eq_true (by omega)
theorem mPop_at {n j : Nat} {i : Int} {l : List W} {w : W} {S : Store} (e : S[n]? = some (.lst l)) (hi : i = (j : Int)) (hj : l[j]? = some w) (hl : l.length < 2 ^ 60) : mPop (.ref n) [.int i] S = some (w, S.set n (.lst (l.eraseIdx j))) := by
  have lt := (List.getElem?_eq_some_iff.mp hj).1
  unfold mPop
  simp only [e]
  rw [if_pos (by omega), ixN_pos (by omega) (by omega), hi]
  simp only [Int.toNat_natCast, Option.bind_some, hj, Option.map_some]
theorem names_spec {B n p : Nat} {S : Store} {most : Nat} {E : Ex → Store → Prop} (D : Purse B n p S) (hn : n < 2 ^ 90) (h0 : 0 < most) (h1 : most ≤ 9) :
    wp (n_law_names [.ref p, .int most] S) (fun r S' => ∃ (q : Nat) (ns : List Str), r = .ref q ∧ S.length ≤ q ∧ S'[q]? = some (.lst (ns.map W.str)) ∧ 1 ≤ ns.length ∧ ns.length ≤ most ∧ (∃ left, (ns ++ left).Perm tenNames) ∧ Purse B (n + 20) p S' ∧ Fr B S S') E := by
  unfold n_law_names d_law_names
  simp only [WPA, Nat.reduceSub, Nat.reduceAdd, tgN, tgNil, tgCons, tgTup, wipeE, isT, String.reduceBEq, reduceIte, lenOk_of (show 10 ≤ 1000000 by decide)]
  have hb := D.bl
  refine wp_mono (coin_spec (D.mono (Nat.le_refl _) Fr.app) (by omega) (by omega) (by omega)) ?_ (fun _ _ q => q)
  rintro r S1 ⟨k, rfl, k0, k1, D1, f1, l1⟩
  have g1 : S1[S.length]? = some (.lst (tenNames.map W.str)) := f1.get _ _ hb get_new
  obtain ⟨m, hm, hm1, hm2⟩ : ∃ m : Nat, 1 + k = (m : Int) ∧ 1 ≤ m ∧ m ≤ most := ⟨(1 + k).toNat, by omega, by omega, by omega⟩
  simp only [WPA, Nat.reduceSub, Nat.reduceAdd, tgN, tgNil, tgCons, tgTup, wipeE, isT, String.reduceBEq, reduceIte, hm]
  refine ⟨bnd_of (by omega) (by omega), ?_, ?_⟩
  · rw [rngW_len]; exact lenOk_of (by omega)
  refine wp_mono (wp_lcL (acc := []) (fun i acc S' => ∃ ns left : List Str, acc = ns.map W.str ∧ ns.length = i ∧ S'[S.length]? = some (.lst (left.map W.str)) ∧ (ns ++ left).Perm tenNames ∧ Purse B (n + 1 + i) p S' ∧ Fr B S S' ∧ i ≤ m) ⟨[], tenNames, rfl, rfl, g1, List.Perm.refl _, D1, Fr.app.trans f1, Nat.zero_le _⟩ (fun _ _ _ _ _ => trivial) ?_) ?_ (fun _ _ q => q)
  · rintro i x acc S' e ⟨ns, left, rfl, hl, g, hp, D', f, hi⟩
    obtain ⟨hi, rfl⟩ := rngW_get e
    have hi : i < m := by simpa using hi
    have hlen : left.length = 10 - i := by
      have := hp.length_eq
      rw [List.length_append, hl] at this
      have h10 : tenNames.length = 10 := rfl
      omega
    simp only [WPA, Nat.reduceSub, Nat.reduceAdd, tgN, tgNil, tgCons, tgTup, wipeE, isT, String.reduceBEq, reduceIte, tyM_ref g, opLen_ref g, List.length_map]
    refine wp_mono (coin_spec D' (by omega) (by omega) (by omega)) ?_ (fun _ _ q => q)
    rintro r S2 ⟨j, rfl, j0, j1, D2, f2, l2⟩
    have g2 := f2.get _ _ hb g
    have hj : j.toNat < left.length := by omega
    have e2 : mPop (.ref S.length) [.int j] S2 = some (.str left[j.toNat], S2.set S.length (.lst ((left.eraseIdx j.toNat).map W.str))) := by
      rw [mPop_at (j := j.toNat) (w := .str left[j.toNat]) g2 (by omega) (by rw [List.getElem?_map, List.getElem?_eq_getElem hj]; rfl) (by rw [List.length_map]; omega), eraseIdx_mapW]
    simp only [WPA, Nat.reduceSub, Nat.reduceAdd, tgN, tgNil, tgCons, tgTup, wipeE, isT, String.reduceBEq, reduceIte, e2]
    refine ⟨ns ++ [left[j.toNat]], left.eraseIdx j.toNat, by simp, by simp [hl], get_set g2, ?_, D2.setB (by omega) hb, (f.trans f2).setN (Nat.le_refl _), hi⟩
    rw [List.append_assoc]
    exact ((pick_perm (List.getElem?_eq_getElem hj)).append_left ns).trans hp
  · rintro ws S' ⟨ns, left, e, hl, g, hp, D', f, hi⟩
    simp only [List.nil_append] at e
    subst e
    rw [rngW_len] at hl D' hi
    refine ⟨S'.length, ns, rfl, f.len, get_new, by omega, by omega, ⟨left, hp⟩, D'.mono (by omega) Fr.app, f.snoc⟩
section
variable {B n p nr : Nat} {S : Store} {E : Ex → Store → Prop} {ns : List Str} {P : Str → Prop}
theorem pick_at {ns : List Str} {k : Int} {P : Str → Prop} (k0 : 0 ≤ k) (k1 : k < (ns.length : Int) + 1) (hP : ∀ x ∈ ns, P x) (hp : P "+") : ∃ x, (ns.map W.str ++ [W.str "+"])[k.toNat]? = some (.str x) ∧ P x := by
  by_cases h : k.toNat < ns.length
  · exact ⟨ns[k.toNat], by rw [List.getElem?_append_left (by simpa using h), List.getElem?_map, List.getElem?_eq_getElem h]; rfl, hP _ (List.getElem_mem h)⟩
  · have : k.toNat = (ns.map W.str).length := by rw [List.length_map]; omega
    exact ⟨"+", by rw [this]; simp, hp⟩
theorem letters_spec {most : Nat} (D : Purse B n p S) (hn : n < 2 ^ 90) (g : S[nr]? = some (.lst (ns.map W.str))) (hr : B ≤ nr) (h0 : ns ≠ []) (hns : ns.length ≤ 100) (hP : ∀ x ∈ ns, P x) (hp : P "+") (hm : most ≤ 10000) :
    wp (n_law_letters [.ref p, .ref nr, .int most] S) (fun r S' => ∃ (q : Nat) (xs : List Str), r = .ref q ∧ S.length ≤ q ∧ S'[q]? = some (.lst (xs.map W.str)) ∧ xs.length ≤ most ∧ (∀ x ∈ xs, P x) ∧ Purse B (n + 2 + 2 * most) p S' ∧ Fr B S S') E := by
  have hb := D.bl
  have hpos : 0 < ns.length := List.length_pos_iff.mpr h0
  unfold n_law_letters d_law_letters
  simp only [wp_dfn, EVA, Nat.reduceSub, Nat.reduceAdd, tgN, tgNil, tgCons, tgTup, wipeE, isT, String.reduceBEq, reduceIte]
  rw [wpS_dSeq]
  simp only [WPA, Nat.reduceSub, Nat.reduceAdd, tgN, tgNil, tgCons, tgTup, wipeE, isT, String.reduceBEq, reduceIte]
  refine wp_mono (coin_spec D (by omega) (by omega) (by omega)) ?_ (fun _ _ q => q)
  rintro r S1 ⟨k, rfl, k0, k1, D1, f1, l1⟩
  simp only [WPA, Nat.reduceSub, Nat.reduceAdd, tgN, tgNil, tgCons, tgTup, wipeE, isT, String.reduceBEq, reduceIte]
  refine wp_mono (coin_spec D1 (by omega) (by decide) (by decide)) ?_ (fun _ _ q => q)
  rintro r S2 ⟨style, rfl, s0, s1, D2, f2, l2⟩
  simp only [WPA, Nat.reduceSub, Nat.reduceAdd, tgN, tgNil, tgCons, tgTup, wipeE, isT, String.reduceBEq, reduceIte, lenOk_of (show 0 ≤ 1000000 by decide)]
  obtain ⟨size, rfl, hsz⟩ : ∃ size : Nat, k = (size : Int) ∧ size ≤ most := ⟨k.toNat, by omega, by omega⟩
  refine ⟨bnd_of (by omega) (by omega), ?_⟩
  have f02 := f1.trans f2
  have g2 := f02.get _ _ hr g
  have b2 := D2.bl
  refine wpS_forL (fun i ε S' => ∃ (xs : List Str) (x3 x7 : Option W), ε = [some (.ref p), some (.ref nr), some (.int most), x3, some (.int size), some (.int style), some (.ref S2.length), x7] ∧
    S'[S2.length]? = some (.lst (xs.map W.str)) ∧ xs.length = i ∧ (∀ x ∈ xs, P x) ∧ Purse B (n + 2 + 2 * i) p S' ∧ Fr B S2 S') ⟨[], _, _, rfl, get_new, rfl, fun _ h => (by simp at h), D2.mono (Nat.le_refl _) Fr.app, Fr.app⟩ (fun _ _ _ _ _ => trivial) ?_ ?_
  · rintro i x ε S' e ⟨xs, x3, x7, rfl, gx, hl, hx, D3, f3⟩
    obtain ⟨hi, rfl⟩ := rngW_get e
    have hi : i < size := by simpa using hi
    have g3 := f3.get _ _ hr g2
    have D4 := D3.mono (Nat.le_refl _) (Fr.app (B := 0) (S := S') (T := [O.lst [W.str "+"]]))
    have ga := opAdd_ref (S := S' ++ [O.lst [W.str "+"]]) (n := nr) (m := S'.length) (a := ns.map W.str) (b := [W.str "+"]) (Fr.app.g0 g3) get_new (by simp; omega)
    have D5 := D4.mono (Nat.le_refl _) (Fr.app (B := 0) (S := S' ++ [O.lst [W.str "+"]]) (T := [O.lst (ns.map W.str ++ [W.str "+"])]))
    have f5 : Fr B S' (S' ++ [O.lst [W.str "+"]] ++ [O.lst (ns.map W.str ++ [W.str "+"])]) := Fr.app.snoc
    have gs : (S' ++ [O.lst [W.str "+"]] ++ [O.lst (ns.map W.str ++ [W.str "+"])])[(S' ++ [O.lst [W.str "+"]]).length]? = some (.lst (ns.map W.str ++ [W.str "+"])) := get_new
    have gn5 := f5.get _ _ hr g3
    have b4 : B ≤ (S' ++ [O.lst [W.str "+"]]).length := D4.bl
    simp only [EVA, Nat.reduceSub, Nat.reduceAdd, tgN, tgNil, tgCons, tgTup, wipeE, isT, String.reduceBEq, reduceIte, wO_some]
    rw [wpS_dSeq]
    refine wpS_join (fun ε' S6 => ∃ (y : Str), ε' = [some (.ref p), some (.ref nr), some (.int most), some (.int (0 + i)), some (.int size), some (.int style), some (.ref S2.length), some (.str y)] ∧ P y ∧ Purse B (n + 2 + 2 * i + 1) p S6 ∧ Fr B S' S6) ?_ ?_
    · simp only [WPA, Nat.reduceSub, Nat.reduceAdd, tgN, tgNil, tgCons, tgTup, wipeE, isT, String.reduceBEq, reduceIte, lenOk_of (show 1 ≤ 1000000 by decide), ga, opLen_ref gn5, List.length_map]
      refine wp_mono (coin_spec D5 (by omega) (by omega) (by omega)) ?_ (fun _ _ q => q)
      rintro r S6 ⟨j, rfl, j0, j1, D6, f6, l6⟩
      obtain ⟨y, hy, py⟩ := pick_at j0 j1 hP hp
      simp only [WPA, Nat.reduceSub, Nat.reduceAdd, tgN, tgNil, tgCons, tgTup, wipeE, isT, String.reduceBEq, reduceIte, lstAt_of (f6.get _ _ b4 gs), atI_nn j0, hy]
      exact ⟨y, rfl, py, D6, f5.trans f6⟩
    rintro ε' S6 ⟨y, rfl, py, D6, f6⟩
    dsimp only
    rw [wpS_dSeq]
    have gn6 := f6.get _ _ hr g3
    refine wpS_join (fun ε' S7 => ∃ (y : Str), ε' = [some (.ref p), some (.ref nr), some (.int most), some (.int (0 + i)), some (.int size), some (.int style), some (.ref S2.length), some (.str y)] ∧ P y ∧ Purse B (n + 2 + 2 * i + 2) p S7 ∧ Fr B S' S7) ?_ ?_
    · simp only [WPA, Nat.reduceSub, Nat.reduceAdd, tgN, tgNil, tgCons, tgTup, wipeE, isT, String.reduceBEq, reduceIte]
      by_cases hs : (style == 1) = true
      · rw [if_pos hs]
        refine wp_mono (coin_spec D6 (by omega) (by decide) (by decide)) ?_ (fun _ _ q => q)
        rintro r S7 ⟨j, rfl, j0, j1, D7, f7, l7⟩
        simp only [WPA, Nat.reduceSub, Nat.reduceAdd, tgN, tgNil, tgCons, tgTup, wipeE, isT, String.reduceBEq, reduceIte]
        split
        · exact ⟨"+", rfl, hp, D7, f6.trans f7⟩
        · exact ⟨y, rfl, py, D7, f6.trans f7⟩
      · rw [if_neg hs]
        exact ⟨y, rfl, py, D6.mono (by omega) Fr.refl, f6⟩
    rintro ε' S7 ⟨y, rfl, py, D7, f7⟩
    dsimp only
    rw [wpS_dSeq]
    have gn7 := f7.get _ _ hr g3
    refine wpS_join (fun ε' S8 => S8 = S7 ∧ ∃ (y : Str), ε' = [some (.ref p), some (.ref nr), some (.int most), some (.int (0 + i)), some (.int size), some (.int style), some (.ref S2.length), some (.str y)] ∧ P y) ?_ ?_
    · simp only [WPA, Nat.reduceSub, Nat.reduceAdd, tgN, tgNil, tgCons, tgTup, wipeE, isT, String.reduceBEq, reduceIte]
      split
      · have m0 : 0 ≤ (0 + (i : Int)) % (ns.length : Int) := Int.emod_nonneg _ (by omega)
        have m1 : (0 + (i : Int)) % (ns.length : Int) < ns.length := Int.emod_lt_of_pos _ (by omega)
        have hh : ((0 + (i : Int)) % (ns.length : Int)).toNat < ns.length := by omega
        have hz : (0 : Int) < (ns.length : Int) := by omega
        simp only [WPA, Nat.reduceSub, Nat.reduceAdd, tgN, tgNil, tgCons, tgTup, wipeE, isT, String.reduceBEq, reduceIte, opLen_ref gn7, List.length_map, hz, lstAt_of gn7, atI_nn m0, List.getElem?_map, List.getElem?_eq_getElem hh, Option.map_some]
        exact ⟨_, rfl, hP _ (List.getElem_mem hh)⟩
      · exact ⟨y, rfl, py⟩
    rintro ε' S8 ⟨rfl, y, rfl, py⟩
    dsimp only
    rw [wpS_dSeq]
    refine wpS_join (fun ε' S9 => Fr 0 S8 S9 ∧ ∃ (y : Str), ε' = [some (.ref p), some (.ref nr), some (.int most), some (.int (0 + i)), some (.int size), some (.int style), some (.ref S2.length), some (.str y)] ∧ P y) ?_ ?_
    · simp only [WPA, Nat.reduceSub, Nat.reduceAdd, tgN, tgNil, tgCons, tgTup, wipeE, isT, String.reduceBEq, reduceIte, lenOk_of (show 2 ≤ 1000000 by decide)]
      split
      · have m0 : 0 ≤ (0 + (i : Int)) % 2 := Int.emod_nonneg _ (by omega)
        have m1 : (0 + (i : Int)) % 2 < 2 := Int.emod_lt_of_pos _ (by omega)
        obtain ⟨x0, hx0⟩ : ∃ x0, ns[0]? = some x0 := ⟨_, List.getElem?_eq_getElem hpos⟩
        simp only [WPA, Nat.reduceSub, Nat.reduceAdd, tgN, tgNil, tgCons, tgTup, wipeE, isT, String.reduceBEq, reduceIte, lstAt_of gn7, List.getElem?_map, hx0, Option.map_some, lenOk_of (show 2 ≤ 1000000 by decide), lstAt_of get_new, atI_nn m0, show (0 : Int) < 2 by decide]
        rcases (show ((0 + (i : Int)) % 2).toNat = 0 ∨ ((0 + (i : Int)) % 2).toNat = 1 by omega) with z | z
        · rw [z]
          exact ⟨Fr.app, x0, rfl, hP _ (List.mem_of_getElem? hx0)⟩
        · rw [z]
          exact ⟨Fr.app, "+", rfl, hp⟩
      · exact ⟨Fr.refl, y, rfl, py⟩
    rintro ε' S9 ⟨f9, y, rfl, py⟩
    have ff := f7.trans (f9.up (Nat.zero_le _))
    have gx9 := ff.get _ _ b2 gx
    simp only [WPA, Nat.reduceSub, Nat.reduceAdd, tgN, tgNil, tgCons, tgTup, wipeE, isT, String.reduceBEq, reduceIte, tyM_ref gx9, mAppend_ref gx9, List.length_map]
    rw [if_pos (by rw [sizeLine_eq]; omega)]
    refine ⟨xs ++ [y], _, _, rfl, ?_, by simp [hl], fun z hz => ?_, (D7.mono (Nat.le_refl _) f9).setB (by omega) b2, (f3.trans ff).setN (Nat.le_refl _)⟩
    · rw [List.map_append]; exact get_set gx9
    · rcases List.mem_append.mp hz with h | h
      · exact hx z h
      · rw [List.mem_singleton.mp h]; exact py
  · rintro ε S' ⟨xs, x3, x7, rfl, gx, hl, hx, D3, f3⟩
    rw [rngW_len] at hl D3
    have hl : xs.length = size := by simpa using hl
    simp only [WPA, Nat.reduceSub, Nat.reduceAdd, tgN, tgNil, tgCons, tgTup, wipeE, isT, String.reduceBEq, reduceIte]
    exact ⟨S2.length, xs, rfl, f02.len, gx, by omega, hx, D3.mono (by simp; omega) Fr.refl, f02.trans f3⟩
theorem mInsert_at {l : List W} {q : Nat} {i : Int} {w : W} {S : Store} (e : S[q]? = some (.lst l)) (h0 : 0 ≤ i) (h1 : i < 2 ^ 60) (hl : l.length ≤ 1000000) : mInsert (.ref q) [.int i, w] S = some (.non, S.set q (.lst (l.take i.toNat ++ [w] ++ l.drop i.toNat))) := by
  unfold mInsert
  simp only [e]
  rw [if_pos ⟨by rw [sizeLine_eq]; omega, h0, by omega⟩]
theorem opList_ref {q : Nat} {l : List W} {S : Store} (e : S[q]? = some (.lst l)) : opList [.ref q] S = some (.ref S.length, S ++ [.lst l]) := by
  unfold opList
  have : seqW (.ref q) S = some l := by
    unfold seqW
    simp only [e]
  simp only [this, Option.map_some]
theorem longer_spec {most rl : Nat} {xs : List Str} (D : Purse B n p S) (hn : n < 2 ^ 90) (g : S[nr]? = some (.lst (ns.map W.str))) (hr : B ≤ nr) (gl : S[rl]? = some (.lst (xs.map W.str))) (hns : ns.length ≤ 100) (hxs : xs.length ≤ 10000) (hP : ∀ x ∈ ns, P x) (hp : P "+") (hx : ∀ x ∈ xs, P x) (hm : most ≤ 10000) :
    wp (n_law_longer [.ref p, .ref rl, .ref nr, .int most] S) (fun r S' => ∃ (q : Nat) (ys : List Str), r = .ref q ∧ S.length ≤ q ∧ S'[q]? = some (.lst (ys.map W.str)) ∧ ys.length ≤ xs.length + most ∧ (∀ x ∈ ys, P x) ∧ Purse B (n + 1 + 2 * most) p S' ∧ Fr B S S') E := by
  have hb := D.bl
  unfold n_law_longer d_law_longer
  simp only [WPA, Nat.reduceSub, Nat.reduceAdd, tgN, tgNil, tgCons, tgTup, wipeE, isT, String.reduceBEq, reduceIte, opList_ref gl]
  refine wp_mono (coin_spec (D.mono (Nat.le_refl _) Fr.app) (by omega) (by omega) (by omega)) ?_ (fun _ _ q => q)
  rintro r S1 ⟨k, rfl, k0, k1, D1, f1, l1⟩
  obtain ⟨size, rfl, hsz⟩ : ∃ size : Nat, k = (size : Int) ∧ size ≤ most := ⟨k.toNat, by omega, by omega⟩
  simp only [WPA, Nat.reduceSub, Nat.reduceAdd, tgN, tgNil, tgCons, tgTup, wipeE, isT, String.reduceBEq, reduceIte]
  refine ⟨bnd_of (by omega) (by omega), ?_⟩
  refine wpS_forL (fun i ε S' => ∃ (ys : List Str) (x5 x6 : Option W), ε = [some (.ref p), some (.ref rl), some (.ref nr), some (.int most), some (.ref S.length), x5, x6] ∧
    S'[S.length]? = some (.lst (ys.map W.str)) ∧ ys.length = xs.length + i ∧ (∀ x ∈ ys, P x) ∧ Purse B (n + 1 + 2 * i) p S' ∧ Fr B S S' ∧ i ≤ size) ⟨xs, _, _, rfl, f1.get _ _ hb get_new, rfl, hx, D1, Fr.app.trans f1, Nat.zero_le _⟩ (fun _ _ _ _ _ => trivial) ?_ ?_
  · rintro i x ε S' e ⟨ys, x5, x6, rfl, gy, hl, hy, D3, f3, hi⟩
    obtain ⟨hi, rfl⟩ := rngW_get e
    have hi : i < size := by simpa using hi
    simp only [WPA, Nat.reduceSub, Nat.reduceAdd, tgN, tgNil, tgCons, tgTup, wipeE, isT, String.reduceBEq, reduceIte, opLen_ref gy, List.length_map]
    refine wp_mono (coin_spec D3 (by omega) (by omega) (by omega)) ?_ (fun _ _ q => q)
    rintro r S4 ⟨pos, rfl, p0, p1, D4, f4, l4⟩
    have gy4 := f4.get _ _ hb gy
    have gn4 := (f3.trans f4).get _ _ hr g
    have D5 := D4.mono (Nat.le_refl _) (Fr.app (B := 0) (S := S4) (T := [O.lst [W.str "+"]]))
    have ga := opAdd_ref (S := S4 ++ [O.lst [W.str "+"]]) (n := nr) (m := S4.length) (a := ns.map W.str) (b := [W.str "+"]) (Fr.app.g0 gn4) get_new (by simp; omega)
    have D6 := D5.mono (Nat.le_refl _) (Fr.app (B := 0) (S := S4 ++ [O.lst [W.str "+"]]) (T := [O.lst (ns.map W.str ++ [W.str "+"])]))
    have f5 : Fr B S4 (S4 ++ [O.lst [W.str "+"]] ++ [O.lst (ns.map W.str ++ [W.str "+"])]) := Fr.app.snoc
    have gs : (S4 ++ [O.lst [W.str "+"]] ++ [O.lst (ns.map W.str ++ [W.str "+"])])[(S4 ++ [O.lst [W.str "+"]]).length]? = some (.lst (ns.map W.str ++ [W.str "+"])) := get_new
    have gn5 := f5.get _ _ hr gn4
    have b4 : B ≤ (S4 ++ [O.lst [W.str "+"]]).length := D5.bl
    simp only [WPA, Nat.reduceSub, Nat.reduceAdd, tgN, tgNil, tgCons, tgTup, wipeE, isT, String.reduceBEq, reduceIte, tyM_ref gy4, lenOk_of (show 1 ≤ 1000000 by decide), ga, opLen_ref gn5, List.length_map]
    refine wp_mono (coin_spec D6 (by omega) (by omega) (by omega)) ?_ (fun _ _ q => q)
    rintro r S6 ⟨j, rfl, j0, j1, D7, f6, l6⟩
    obtain ⟨y, hy2, py⟩ := pick_at j0 j1 hP hp
    have gy6 := (f5.trans f6).get _ _ hb gy4
    have hins := mInsert_at (w := .str y) gy6 p0 (by omega) (by rw [List.length_map]; omega)
    simp only [WPA, Nat.reduceSub, Nat.reduceAdd, tgN, tgNil, tgCons, tgTup, wipeE, isT, String.reduceBEq, reduceIte, lstAt_of (f6.get _ _ b4 gs), atI_nn j0, hy2, hins]
    refine ⟨ys.take pos.toNat ++ [y] ++ ys.drop pos.toNat, _, _, rfl, ?_, ?_, fun z hz => ?_, D7.setB (by omega) hb, (f3.trans (f4.trans (f5.trans f6))).setN (Nat.le_refl _), hi⟩
    · rw [get_set gy6, List.map_append, List.map_append, List.map_take, List.map_drop]; rfl
    · simp only [List.length_append, List.length_take, List.length_drop, List.length_cons, List.length_nil]
      omega
    · rcases List.mem_append.mp hz with h | h
      · rcases List.mem_append.mp h with h | h
        · exact hy z (List.mem_of_mem_take h)
        · rw [List.mem_singleton.mp h]; exact py
      · exact hy z (List.mem_of_mem_drop h)
  · rintro ε S' ⟨ys, x5, x6, rfl, gy, hl, hy, D3, f3, hi⟩
    rw [rngW_len] at hl D3 hi
    simp only [WPA, Nat.reduceSub, Nat.reduceAdd, tgN, tgNil, tgCons, tgTup, wipeE, isT, String.reduceBEq, reduceIte]
    exact ⟨S.length, ys, rfl, Nat.le_refl _, gy, by omega, hy, D3.mono (by omega) Fr.refl, f3⟩
theorem cut_mem {xs : List Str} {lo hi : Option Int} {x : Str} (h : x ∈ cutL xs lo hi) : x ∈ xs := List.mem_of_mem_drop (List.mem_of_mem_take h)
theorem cut_len {xs : List Str} {lo hi : Option Int} : (cutL xs lo hi).length ≤ xs.length := by
  unfold cutL
  rw [List.length_take, List.length_drop]
  omega
theorem cut_mapW {α β : Type} {f : α → β} {xs : List α} {lo hi : Option Int} : cutL (xs.map f) lo hi = (cutL xs lo hi).map f := by
  unfold cutL
  rw [List.length_map, List.map_take, List.map_drop]
theorem opRevL_ref {q : Nat} {l : List W} {S : Store} (e : S[q]? = some (.lst l)) : opRevL (.ref q) S = some (.ref S.length, S ++ [.lst l.reverse]) := by
  unfold opRevL
  rw [listW_ref e]
  rfl
theorem opMul_ref2 {q : Nat} {l : List W} {S : Store} (e : S[q]? = some (.lst l)) (hl : l.length ≤ 100000) : opMul (.ref q) (.int 2) S = some (.ref S.length, S ++ [.lst (l ++ l)]) := by
  unfold opMul
  simp only [e]
  rw [if_pos ⟨by decide, by decide, by rw [sizeLine_eq]; show l.length * 2 ≤ _; omega⟩]
  have : (List.replicate (Int.toNat 2) l).flatten = l ++ l := by simp [List.replicate]
  rw [this]
/-- a list of texts as an answer -/
def LV (P : Str → Prop) (N : Nat) (S : Store) (w : W) (S' : Store) : Prop := ∃ (q : Nat) (l : List Str), w = .ref q ∧ S'[q]? = some (.lst (l.map W.str)) ∧ l.length ≤ N ∧ (∀ x ∈ l, P x) ∧ Fr 0 S S'
theorem changed_spec {rl : Nat} {xs : List Str} (D : Purse B n p S) (hn : n < 2 ^ 90) (g : S[nr]? = some (.lst (ns.map W.str))) (hr : B ≤ nr) (gl : S[rl]? = some (.lst (xs.map W.str))) (hns : ns.length ≤ 100) (hxs : xs.length ≤ 10000) (hP : ∀ x ∈ ns, P x) (hp : P "+") (hx : ∀ x ∈ xs, P x) :
    wp (n_law_changed [.ref p, .ref rl, .ref nr] S) (fun r S' => ∃ (q : Nat) (ys : List Str), r = .ref q ∧ S.length ≤ q ∧ S'[q]? = some (.lst (ys.map W.str)) ∧ ys.length ≤ 200 ∧ (∀ x ∈ ys, P x) ∧ Purse B (n + 10) p S' ∧ Fr B S S') E := by
  have hb := D.bl
  unfold n_law_changed d_law_changed
  simp only [WPA, Nat.reduceSub, Nat.reduceAdd, tgN, tgNil, tgCons, tgTup, wipeE, isT, String.reduceBEq, reduceIte, opList_ref gl]
  refine wp_mono (coin_spec (D.mono (Nat.le_refl _) Fr.app) (by omega) (by omega) (by omega)) ?_ (fun _ _ q => q)
  rintro r S1 ⟨k, rfl, k0, k1, D1, f1, l1⟩
  obtain ⟨size, hsz, hsz2⟩ : ∃ size : Nat, 1 + k = (size : Int) ∧ size ≤ 3 := ⟨(1 + k).toNat, by omega, by omega⟩
  simp only [WPA, Nat.reduceSub, Nat.reduceAdd, tgN, tgNil, tgCons, tgTup, wipeE, isT, String.reduceBEq, reduceIte, hsz]
  refine ⟨bnd_of (by omega) (by omega), ?_⟩
  refine wpS_forL (fun i ε S' => ∃ (q : Nat) (ys : List Str) (x4 x5 x6 x7 x8 : Option W), ε = [some (.ref p), some (.ref rl), some (.ref nr), some (.ref q), x4, x5, x6, x7, x8] ∧
    S.length ≤ q ∧ S'[q]? = some (.lst (ys.map W.str)) ∧ ys.length ≤ xs.length + 20000 * i ∧ (∀ x ∈ ys, P x) ∧ Purse B (n + 1 + 3 * i) p S' ∧ Fr B S S' ∧ i ≤ size) ⟨S.length, xs, _, _, _, _, _, rfl, Nat.le_refl _, f1.get _ _ hb get_new, by omega, hx, D1, Fr.app.trans f1, Nat.zero_le _⟩ (fun _ _ _ _ _ => trivial) ?_ ?_
  · rintro i x ε S' e ⟨q, ys, x4, x5, x6, x7, x8, rfl, hq, gy, hl, hy, D3, f3, hi⟩
    obtain ⟨hi, rfl⟩ := rngW_get e
    have hi : i < size := by simpa using hi
    have hq' : B ≤ q := Nat.le_trans hb hq
    simp only [EVA, Nat.reduceSub, Nat.reduceAdd, tgN, tgNil, tgCons, tgTup, wipeE, isT, String.reduceBEq, reduceIte, wO_some]
    rw [wpS_dSeq]
    refine wpS_join (fun ε' S5 => ∃ (pos way : Int), ε' = [some (.ref p), some (.ref rl), some (.ref nr), some (.ref q), some (.int (0 + i)), x5, x6, some (.int pos), some (.int way)] ∧ 0 ≤ pos ∧ pos < (ys.length : Int) + 1 ∧ 0 ≤ way ∧ way < 5 ∧ Purse B (n + 1 + 3 * i + 2) p S5 ∧ Fr B S' S5) ?_ ?_
    · simp only [WPA, Nat.reduceSub, Nat.reduceAdd, tgN, tgNil, tgCons, tgTup, wipeE, isT, String.reduceBEq, reduceIte, opLen_ref gy, List.length_map]
      refine wp_mono (coin_spec D3 (by omega) (by omega) (by omega)) ?_ (fun _ _ q => q)
      rintro r S4 ⟨pos, rfl, p0, p1, D4, f4, l4⟩
      refine wp_mono (coin_spec D4 (by omega) (by decide) (by decide)) ?_ (fun _ _ q => q)
      rintro r S5 ⟨way, rfl, w0, w1, D5, f5, l5⟩
      exact ⟨pos, way, rfl, p0, p1, w0, w1, D5, f4.trans f5⟩
    rintro ε' S5 ⟨pos, way, rfl, p0, p1, w0, w1, D5, f45⟩
    dsimp only
    have gy5 := f45.get _ _ hq' gy
    have gn5 := (f3.trans f45).get _ _ hr g
    have D6 := D5.mono (Nat.le_refl _) (Fr.app (B := 0) (S := S5) (T := [O.lst [W.str "+"]]))
    have ga := opAdd_ref (S := S5 ++ [O.lst [W.str "+"]]) (n := nr) (m := S5.length) (a := ns.map W.str) (b := [W.str "+"]) (Fr.app.g0 gn5) get_new (by simp; omega)
    have D7 := D6.mono (Nat.le_refl _) (Fr.app (B := 0) (S := S5 ++ [O.lst [W.str "+"]]) (T := [O.lst (ns.map W.str ++ [W.str "+"])]))
    have f6 : Fr B S5 (S5 ++ [O.lst [W.str "+"]] ++ [O.lst (ns.map W.str ++ [W.str "+"])]) := Fr.app.snoc
    have gs : (S5 ++ [O.lst [W.str "+"]] ++ [O.lst (ns.map W.str ++ [W.str "+"])])[(S5 ++ [O.lst [W.str "+"]]).length]? = some (.lst (ns.map W.str ++ [W.str "+"])) := get_new
    have gn6 := f6.get _ _ hr gn5
    have b4 : B ≤ (S5 ++ [O.lst [W.str "+"]]).length := D6.bl
    rw [wpS_dSeq]
    refine wpS_join (fun ε' S6 => ∃ (y : Str), ε' = [some (.ref p), some (.ref rl), some (.ref nr), some (.ref q), some (.int (0 + i)), some (.str y), x6, some (.int pos), some (.int way)] ∧ P y ∧ Purse B (n + 1 + 3 * i + 3) p S6 ∧ Fr B S5 S6) ?_ ?_
    · simp only [WPA, Nat.reduceSub, Nat.reduceAdd, tgN, tgNil, tgCons, tgTup, wipeE, isT, String.reduceBEq, reduceIte, lenOk_of (show 1 ≤ 1000000 by decide), ga, opLen_ref gn6, List.length_map]
      refine wp_mono (coin_spec D7 (by omega) (by omega) (by omega)) ?_ (fun _ _ q => q)
      rintro r S6 ⟨j, rfl, j0, j1, D8, f8, l8⟩
      obtain ⟨y, hy2, py⟩ := pick_at j0 j1 hP hp
      simp only [WPA, Nat.reduceSub, Nat.reduceAdd, tgN, tgNil, tgCons, tgTup, wipeE, isT, String.reduceBEq, reduceIte, lstAt_of (f8.get _ _ b4 gs), atI_nn j0, hy2]
      exact ⟨y, rfl, py, D8, f6.trans f8⟩
    rintro ε' S6 ⟨y, rfl, py, D8, f8⟩
    dsimp only
    have gy6 := f8.get _ _ hq' gy5
    have hyl : ys.length ≤ 70000 := by omega
    rw [wpS_dSeq]
    have a1 : ∀ T, Fr 0 S6 T → wp (dLst (aCons (dVar 5) aNil) [some (.ref p), some (.ref rl), some (.ref nr), some (.ref q), some (.int (0 + i)), some (.str y), x6, some (.int pos), some (.int way)] T) (LV P 20000 T) (fun _ _ => False) := fun T _ => by
      simp only [WPA, Nat.reduceSub, Nat.reduceAdd, tgN, tgNil, tgCons, tgTup, wipeE, isT, String.reduceBEq, reduceIte, lenOk_of (show 1 ≤ 1000000 by decide)]
      exact ⟨T.length, [y], rfl, get_new, by simp, fun x hx => by rw [List.mem_singleton.mp hx]; exact py, Fr.app⟩
    have a2 : ∀ T, Fr 0 S6 T → wp (dLst aNil [some (.ref p), some (.ref rl), some (.ref nr), some (.ref q), some (.int (0 + i)), some (.str y), x6, some (.int pos), some (.int way)] T) (LV P 20000 T) (fun _ _ => False) := fun T _ => by
      simp only [WPA, Nat.reduceSub, Nat.reduceAdd, tgN, tgNil, tgCons, tgTup, wipeE, isT, String.reduceBEq, reduceIte, lenOk_of (show 0 ≤ 1000000 by decide)]
      exact ⟨T.length, [], rfl, get_new, by simp, fun x hx => (by simp at hx), Fr.app⟩
    have c2 : ∀ d : Nat, d ≤ 10 → (cutL ys (some pos) (some (pos + d))).length ≤ 10 := fun d hd => by
      obtain ⟨m, rfl⟩ : ∃ m : Nat, pos = (m : Int) := ⟨pos.toNat, by omega⟩
      unfold cutL
      rw [show ((m : Int) + (d : Int)) = ((m + d : Nat) : Int) by omega, HT.sIx_nat, HT.sIx_nat, List.length_take]
      omega
    have a4 : ∀ T, Fr 0 S6 T → wp (dOp opMul (dSl (dVar 3) (oS (dVar 7)) (oS (dOp opAdd (dVar 7) (dC (.int 1))))) (dC (.int 2)) [some (.ref p), some (.ref rl), some (.ref nr), some (.ref q), some (.int (0 + i)), some (.str y), x6, some (.int pos), some (.int way)] T) (LV P 20000 T) (fun _ _ => False) := fun T f => by
      have c3 := c2 1 (by decide)
      have eq2 := opMul_ref2 (S := T ++ [O.lst ((cutL ys (some pos) (some (pos + 1))).map W.str)]) (q := T.length) get_new (by rw [List.length_map]; simp only [Int.natCast_one] at c3; omega)
      simp only [WPA, Nat.reduceSub, Nat.reduceAdd, tgN, tgNil, tgCons, tgTup, wipeE, isT, String.reduceBEq, reduceIte, opSl_ref (f.g0 gy6), cut_mapW, eq2]
      refine ⟨_, cutL ys (some pos) (some (pos + 1)) ++ cutL ys (some pos) (some (pos + 1)), rfl, by rw [List.map_append]; exact get_new, by simp only [Int.natCast_one] at c3; rw [List.length_append]; omega, fun x hx => ?_, Fr.app.snoc⟩
      rcases List.mem_append.mp hx with h | h <;> exact hy x (cut_mem h)
    have a5 : ∀ T, Fr 0 S6 T → wp (dUn opRevL (dSl (dVar 3) (oS (dVar 7)) (oS (dOp opAdd (dVar 7) (dC (.int 2))))) [some (.ref p), some (.ref rl), some (.ref nr), some (.ref q), some (.int (0 + i)), some (.str y), x6, some (.int pos), some (.int way)] T) (LV P 20000 T) (fun _ _ => False) := fun T f => by
      have c3 := c2 2 (by decide)
      have eq2 := opRevL_ref (S := T ++ [O.lst ((cutL ys (some pos) (some (pos + 2))).map W.str)]) (q := T.length) get_new
      simp only [WPA, Nat.reduceSub, Nat.reduceAdd, tgN, tgNil, tgCons, tgTup, wipeE, isT, String.reduceBEq, reduceIte, opSl_ref (f.g0 gy6), cut_mapW, eq2]
      exact ⟨_, (cutL ys (some pos) (some (pos + 2))).reverse, rfl, by rw [← List.map_reverse]; exact get_new, by rw [List.length_reverse]; have : ((2 : Nat) : Int) = 2 := rfl; rw [this] at c3; omega, fun x hx => hy x (cut_mem (List.mem_reverse.mp hx)), Fr.app.snoc⟩
    refine wpS_join (fun ε' S9 => ∃ (r6 : Nat) (part : List Str), ε' = [some (.ref p), some (.ref rl), some (.ref nr), some (.ref q), some (.int (0 + i)), some (.str y), some (.ref r6), some (.int pos), some (.int way)] ∧ S9[r6]? = some (.lst (part.map W.str)) ∧ part.length ≤ 20000 ∧ (∀ x ∈ part, P x) ∧ Fr 0 S6 S9) ?_ ?_
    · rw [wpS_dSet, wp_dOp, wp_dLst, wp_aCons]
      refine wp_mono (a1 S6 Fr.refl) ?_ (fun _ _ q => q.elim)
      rintro w1' T1 ⟨q1, t1, rfl, h1, m1, b1, e1⟩
      rw [wp_aCons]
      refine wp_mono (a2 T1 e1) ?_ (fun _ _ q => q.elim)
      rintro w2' T2 ⟨q2, t2, rfl, h2, m2, b2, e2⟩
      rw [wp_aCons]
      refine wp_mono (a1 T2 (e1.trans e2)) ?_ (fun _ _ q => q.elim)
      rintro w3' T3 ⟨q3, t3, rfl, h3, m3, b3, e3⟩
      rw [wp_aCons]
      refine wp_mono (a4 T3 (e1.trans (e2.trans e3))) ?_ (fun _ _ q => q.elim)
      rintro w4' T4 ⟨q4, t4, rfl, h4, m4, b4', e4⟩
      rw [wp_aCons]
      refine wp_mono (a5 T4 (e1.trans (e2.trans (e3.trans e4)))) ?_ (fun _ _ q => q.elim)
      rintro w5' T5 ⟨q5, t5, rfl, h5, m5, b5', e5⟩
      have eT := e1.trans (e2.trans (e3.trans (e4.trans e5)))
      simp only [WPA, Nat.reduceSub, Nat.reduceAdd, tgN, tgNil, tgCons, tgTup, wipeE, isT, String.reduceBEq, reduceIte, lenOk_of (show 5 ≤ 1000000 by decide), lstAt_of get_new, atI_nn w0]
      have out : ∀ (qq : Nat) (t : List Str), T5[qq]? = some (.lst (t.map W.str)) → t.length ≤ 20000 → (∀ x ∈ t, P x) → ∃ (r6 : Nat) (part : List Str), [some (W.ref p), some (W.ref rl), some (W.ref nr), some (W.ref q), some (W.int (0 + ↑i)), some (W.str y), some (W.ref qq), some (W.int pos), some (W.int way)] = [some (W.ref p), some (W.ref rl), some (W.ref nr), some (W.ref q), some (W.int (0 + ↑i)), some (W.str y), some (W.ref r6), some (W.int pos), some (W.int way)] ∧
          (T5 ++ [O.lst [W.ref q1, W.ref q2, W.ref q3, W.ref q4, W.ref q5]])[r6]? = some (.lst (part.map W.str)) ∧ part.length ≤ 20000 ∧ (∀ x ∈ part, P x) ∧ Fr 0 S6 (T5 ++ [O.lst [W.ref q1, W.ref q2, W.ref q3, W.ref q4, W.ref q5]]) := fun qq t h m b => ⟨qq, t, rfl, Fr.app.g0 h, m, b, eT.snoc⟩
      rcases (show way.toNat = 0 ∨ way.toNat = 1 ∨ way.toNat = 2 ∨ way.toNat = 3 ∨ way.toNat = 4 by omega) with z | z | z | z | z <;> rw [z]
      · exact out q1 t1 (e5.g0 (e4.g0 (e3.g0 (e2.g0 h1)))) m1 b1
      · exact out q2 t2 (e5.g0 (e4.g0 (e3.g0 h2))) m2 b2
      · exact out q3 t3 (e5.g0 (e4.g0 h3)) m3 b3
      · exact out q4 t4 (e5.g0 h4) m4 b4'
      · exact out q5 t5 h5 m5 b5'
    rintro ε' S9 ⟨r6, part, rfl, g6, lp, hpart, f9⟩
    dsimp only
    have gy9 := f9.g0 gy6
    have D9 := D8.mono (Nat.le_refl _) f9
    have f09 := f8.trans (f9.up (Nat.zero_le _))
    have A1 := opAdd_ref (S := S9 ++ [O.lst ((cutL ys none (some pos)).map W.str)]) (n := S9.length) (m := r6) get_new (Fr.app.g0 g6) (by have := cut_len (xs := ys) (lo := none) (hi := some pos); rw [List.length_map, List.length_map]; omega)
    have gw : ∃ d : Int, (([W.int 0, W.int 1, W.int 1, W.int 1, W.int 2] : List W)[way.toNat]?) = some (.int d) ∧ 0 ≤ d ∧ d ≤ 2 := by
      rcases (show way.toNat = 0 ∨ way.toNat = 1 ∨ way.toNat = 2 ∨ way.toNat = 3 ∨ way.toNat = 4 by omega) with z | z | z | z | z <;> rw [z]
      · exact ⟨0, rfl, by decide, by decide⟩
      · exact ⟨1, rfl, by decide, by decide⟩
      · exact ⟨1, rfl, by decide, by decide⟩
      · exact ⟨1, rfl, by decide, by decide⟩
      · exact ⟨2, rfl, by decide, by decide⟩
    obtain ⟨d, hd, d0, d1⟩ := gw
    simp only [WPA, Nat.reduceSub, Nat.reduceAdd, tgN, tgNil, tgCons, tgTup, wipeE, isT, String.reduceBEq, reduceIte, opSl_ref gy9, cut_mapW, A1, lenOk_of (show 5 ≤ 1000000 by decide), lstAt_of get_new, atI_nn w0, hd]
    generalize hU : S9 ++ [O.lst ((cutL ys none (some pos)).map W.str)] = U at A1 ⊢
    have fU : Fr 0 S9 U := by rw [← hU]; exact Fr.app
    have gyU : (U ++ [O.lst ((cutL ys none (some pos)).map W.str ++ part.map W.str)] ++ [O.lst [W.int 0, W.int 1, W.int 1, W.int 1, W.int 2]])[q]? = some (.lst (ys.map W.str)) := Fr.app.g0 (Fr.app.g0 (fU.g0 gy9))
    have gA : (U ++ [O.lst ((cutL ys none (some pos)).map W.str ++ part.map W.str)] ++ [O.lst [W.int 0, W.int 1, W.int 1, W.int 1, W.int 2]])[U.length]? = some (.lst ((cutL ys none (some pos)).map W.str ++ part.map W.str)) := Fr.app.g0 get_new
    have fV : Fr 0 S9 (U ++ [O.lst ((cutL ys none (some pos)).map W.str ++ part.map W.str)] ++ [O.lst [W.int 0, W.int 1, W.int 1, W.int 1, W.int 2]]) := fU.snoc.snoc
    generalize U ++ [O.lst ((cutL ys none (some pos)).map W.str ++ part.map W.str)] ++ [O.lst [W.int 0, W.int 1, W.int 1, W.int 1, W.int 2]] = V at gyU gA fV ⊢
    have A2 := opAdd_ref (S := V ++ [O.lst ((cutL ys (some (pos + d)) none).map W.str)]) (n := U.length) (m := V.length) (Fr.app.g0 gA) get_new (by have := cut_len (xs := ys) (lo := none) (hi := some pos); have := cut_len (xs := ys) (lo := some (pos + d)) (hi := none); simp only [List.length_append, List.length_map]; omega)
    simp only [WPA, Nat.reduceSub, Nat.reduceAdd, tgN, tgNil, tgCons, tgTup, wipeE, isT, String.reduceBEq, reduceIte, opSl_ref gyU, cut_mapW, A2]
    have c1 : (cutL ys none (some pos)).length + (cutL ys (some (pos + d)) none).length ≤ ys.length := by
      obtain ⟨m, rfl⟩ : ∃ m : Nat, pos = (m : Int) := ⟨pos.toNat, by omega⟩
      obtain ⟨dd, rfl⟩ : ∃ dd : Nat, d = (dd : Int) := ⟨d.toNat, by omega⟩
      unfold cutL
      rw [show ((m : Int) + (dd : Int)) = ((m + dd : Nat) : Int) by omega]
      simp only [HT.sIx_none, HT.sIx_nat, List.length_take, List.length_drop]
      omega
    refine ⟨_, cutL ys none (some pos) ++ part ++ cutL ys (some (pos + d)) none, _, _, _, _, _, rfl, ?_, ?_, ?_, ?_, D9.mono (by omega) (fV.snoc.snoc), f3.trans (f45.trans (f09.trans ((fV.up (Nat.zero_le _)).snoc.snoc))), hi⟩
    · have := f3.len
      have := f45.len
      have := f09.len
      have := fV.len
      simp only [List.length_append]
      omega
    · rw [List.map_append, List.map_append]; exact get_new
    · simp only [List.length_append]
      omega
    · intro z hz
      rcases List.mem_append.mp hz with h | h
      · rcases List.mem_append.mp h with h | h
        · exact hy z (cut_mem h)
        · exact hpart z h
      · exact hy z (cut_mem h)
  · rintro ε S' ⟨q, ys, x4, x5, x6, x7, x8, rfl, hq, gy, hl, hy, D3, f3, hi⟩
    simp only [WPA, Nat.reduceSub, Nat.reduceAdd, tgN, tgNil, tgCons, tgTup, wipeE, isT, String.reduceBEq, reduceIte, opSl_ref gy, cut_mapW]
    have c : cutL ys none (some 200) = ys.take 200 := by
      unfold cutL
      rw [HT.sIx_none, show (200 : Int) = ((200 : Nat) : Int) from rfl, HT.sIx_nat, List.drop_zero, Nat.sub_zero]
      rw [← List.take_eq_take_min]
    rw [rngW_len] at D3 hi
    rw [c]
    exact ⟨S'.length, ys.take 200, rfl, f3.len, get_new, by rw [List.length_take]; omega, fun z hz => hy z (List.mem_of_mem_take hz), D3.mono (by omega) Fr.app, f3.snoc⟩
end
/-! ### spelled -/
def pg : List Str → List Str → Nat → List Nat
  | [], _, _ => []
  | _ :: _, [], _ => []
  | l :: ls, m :: ms, i => if l = m then i :: pg ls ms (i + 1) else pg (l :: ls) ms (i + 1)
theorem pg_nil {ms : List Str} {i : Nat} : pg [] ms i = [] := by cases ms <;> rfl
theorem pg_nil2 {ls : List Str} {i : Nat} : pg ls [] i = [] := by cases ls <;> rfl
theorem pg_cons {l m : Str} {ls ms : List Str} {i : Nat} : pg (l :: ls) (m :: ms) i = if l = m then i :: pg ls ms (i + 1) else pg (l :: ls) ms (i + 1) := by rw [pg]
theorem pg_snoc {m : Str} : ∀ {ms ls : List Str} {i : Nat}, pg ls (ms ++ [m]) i = pg ls ms i ++ (if ls[(pg ls ms i).length]? = some m then [i + ms.length] else [])
  | [], [], i => by simp [pg_nil]
  | [], l :: ls, i => by
    rw [List.nil_append, pg_cons, pg_nil2, pg_nil2, pg_nil2]
    by_cases h : l = m <;> simp [h]
  | a :: ms, [], i => by simp [pg_nil]
  | a :: ms, l :: ls, i => by
    rw [List.cons_append, pg_cons, pg_cons]
    by_cases h : l = a
    · rw [if_pos h, if_pos h, pg_snoc (ms := ms) (ls := ls) (i := i + 1)]
      simp only [List.length_cons, List.getElem?_cons_succ, List.cons_append]
      rw [show i + 1 + ms.length = i + (ms.length + 1) by omega]
    · rw [if_neg h, if_neg h, pg_snoc (ms := ms) (ls := l :: ls) (i := i + 1)]
      simp only [List.length_cons]
      rw [show i + 1 + ms.length = i + (ms.length + 1) by omega]
theorem pg_len : ∀ {ms ls : List Str} {i : Nat}, (pg ls ms i).length ≤ ls.length
  | ms, [], i => by rw [pg_nil]; simp
  | [], l :: ls, i => by rw [pg_nil2]; simp
  | m :: ms, l :: ls, i => by
    rw [pg_cons]
    split
    · have := pg_len (ms := ms) (ls := ls) (i := i + 1)
      simp only [List.length_cons]; omega
    · exact pg_len
theorem pg_none {l : Str} : ∀ {ms ls : List Str} {i : Nat}, l ∉ ms → pg (l :: ls) ms i = []
  | [], ls, i, _ => pg_nil2
  | m :: ms, ls, i, h => by
    rw [pg_cons, if_neg (fun e => h (by rw [e]; exact List.mem_cons_self ..))]
    exact pg_none fun q => h (List.mem_cons_of_mem _ q)
theorem pg_find {l : Str} : ∀ {ms ls : List Str} {i t : Nat}, ms[t]? = some l → (∀ s x, s < t → ms[s]? = some x → x ≠ l) → pg (l :: ls) ms i = (i + t) :: pg ls (ms.drop (t + 1)) (i + t + 1)
  | [], ls, i, t, h, _ => by simp at h
  | m :: ms, ls, i, 0, h, _ => by
    have h : m = l := by simpa using h
    rw [pg_cons, if_pos h.symm]
    simp
  | m :: ms, ls, i, t + 1, h, hn => by
    have h0 : m ≠ l := hn 0 m (by omega) rfl
    rw [pg_cons, if_neg (fun e => h0 e.symm), pg_find (t := t) (by simpa using h) (fun s x hs e => hn (s + 1) x (by omega) (by simpa using e))]
    rw [show i + 1 + t = i + (t + 1) by omega]
    rfl
def spell (ls ms : List Str) : Option (List Nat) := if (pg ls ms 0).length = ls.length then some (pg ls ms 0) else none
def natsW (f : List Nat) : List W := f.map fun i => .int (i : Nat)
/-- indices, or None, as an answer -/
def SpW (sp : Option (List Nat)) (S : Store) (r : W) (S' : Store) : Prop := match sp with
  | none => r = .non
  | some f => ∃ q : Nat, r = .ref q ∧ S.length ≤ q ∧ S'[q]? = some (.lst (natsW f))
theorem spelled_at_spec {a b : Nat} {ls ms : List Str} {S : Store} {E : Ex → Store → Prop} (ga : S[a]? = some (.lst (ls.map W.str))) (gb : S[b]? = some (.lst (ms.map W.str))) (hl : ls.length ≤ 10000) (hm : ms.length ≤ 10000) :
    wp (n_spelled_at [.ref a, .ref b] S) (fun r S' => SpW (spell ls ms) S r S' ∧ Fr 0 S S') E := by
  unfold n_spelled_at d_spelled_at
  have gb1 : (S ++ [O.lst []])[b]? = some (.lst (ms.map W.str)) := Fr.app.g0 gb
  simp only [WPA, Nat.reduceSub, Nat.reduceAdd, tgN, tgNil, tgCons, tgTup, wipeE, isT, String.reduceBEq, reduceIte, lenOk_of (show 0 ≤ 1000000 by decide)]
  refine ⟨b, ms.map W.str, rfl, gb1, ?_⟩
  refine wpS_forL (fun i ε S' => ∃ x3 x4, ε = [some (.ref a), some (.ref b), some (.ref S.length), x3, x4] ∧ S'[S.length]? = some (.lst (natsW (pg ls (ms.take i) 0))) ∧ Fr 0 S S') ⟨_, _, rfl, by rw [List.take_zero, pg_nil2]; exact get_new, Fr.app⟩ (fun _ _ S' _ ⟨_, _, _, _, f⟩ => f.g0 gb) ?_ ?_
  · rintro i w ε S' e ⟨x3, x4, rfl, g, f⟩
    have e0 : ∃ u, (ms.map W.str)[i]? = some u ∧ w = .tup [.int i, u] := by
      unfold enumL at e
      rw [List.getElem?_zipWith] at e
      cases z : (ms.map W.str)[i]? with
      | none => rw [z] at e; simp at e
      | some u =>
        have lt := (List.getElem?_eq_some_iff.mp z).1
        rw [z, List.getElem?_range lt] at e
        simp at e
        exact ⟨u, rfl, e.symm⟩
    obtain ⟨u, e1, rfl⟩ := e0
    rw [List.getElem?_map, Option.map_eq_some_iff] at e1
    obtain ⟨m, em, rfl⟩ := e1
    have hi := (List.getElem?_eq_some_iff.mp em).1
    have tk : ms.take (i + 1) = ms.take i ++ [m] := by rw [List.take_succ, em]; rfl
    have lt : (ms.take i).length = i := by rw [List.length_take]; omega
    have nx : pg ls (ms.take (i + 1)) 0 = pg ls (ms.take i) 0 ++ (if ls[(pg ls (ms.take i) 0).length]? = some m then [i] else []) := by
      rw [tk, pg_snoc, lt, Nat.zero_add]
    have ln : (natsW (pg ls (ms.take i) 0)).length = (pg ls (ms.take i) 0).length := by simp [natsW]
    have lp := pg_len (ls := ls) (ms := ms.take i) (i := 0)
    simp only [WPA, Nat.reduceSub, Nat.reduceAdd, tgN, tgNil, tgCons, tgTup, wipeE, isT, String.reduceBEq, reduceIte, opLen_ref g, opLen_ref (f.g0 ga), List.length_map, ln]
    rw [nx]
    split
    · rename_i hlt
      have hlt : (pg ls (ms.take i) 0).length < ls.length := by simpa using hlt
      simp only [WPA, Nat.reduceSub, Nat.reduceAdd, tgN, tgNil, tgCons, tgTup, wipeE, isT, String.reduceBEq, reduceIte, lstAt_of (f.g0 ga), atI_n, List.getElem?_map, List.getElem?_eq_getElem hlt, Option.map_some, tyM_ref g, mAppend_ref g, ln]
      by_cases h : ls[(pg ls (ms.take i) 0).length] = m
      · rw [if_pos (by simp [h]), if_pos (by rw [sizeLine_eq]; omega), if_pos (by rw [h])]
        refine ⟨_, _, rfl, ?_, f.setN (Nat.le_refl _)⟩
        have : natsW (pg ls (ms.take i) 0 ++ [i]) = natsW (pg ls (ms.take i) 0) ++ [.int i] := by simp [natsW]
        rw [this]; exact get_set g
      · rw [if_neg (by simpa using h), if_neg (by simpa using h), List.append_nil]
        exact ⟨_, _, rfl, g, f⟩
    · rename_i hlt
      have hlt : ¬ (pg ls (ms.take i) 0).length < ls.length := by simpa using hlt
      rw [List.getElem?_eq_none (l := ls) (i := (pg ls (ms.take i) 0).length) (by omega)]
      simp only [reduceCtorEq, if_false, List.append_nil]
      exact ⟨_, _, rfl, g, f⟩
  · rintro ε S' ⟨x3, x4, rfl, g, f⟩
    have le : (enumL (ms.map W.str)).length = ms.length := by simp [enumL]
    rw [le, List.take_length] at g
    have ln : (natsW (pg ls ms 0)).length = (pg ls ms 0).length := by simp [natsW]
    simp only [WPA, Nat.reduceSub, Nat.reduceAdd, tgN, tgNil, tgCons, tgTup, wipeE, isT, String.reduceBEq, reduceIte, opLen_ref g, opLen_ref (f.g0 ga), List.length_map, ln]
    unfold spell
    by_cases h : (pg ls ms 0).length = ls.length
    · rw [if_pos (by simp [h]), if_pos h]
      exact ⟨⟨_, rfl, Nat.le_refl _, g⟩, f⟩
    · have : ¬ ((pg ls ms 0).length : Int) = (ls.length : Int) := by omega
      rw [if_neg (by simpa using this), if_neg h]
      exact ⟨rfl, f⟩
theorem inW_strs {n : Nat} {x : Str} {ys : List Str} {S : Store} (h : S[n]? = some (.lst (ys.map W.str))) : opNotIn (.str x) (.ref n) S = some (.bl (!decide (x ∈ ys)), S) := by
  have e : ∀ zs : List Str, (zs.map PyData.str).any (fun z => PyData.eqv z (.str x)) = decide (x ∈ zs) := fun zs => by
    rw [Bool.eq_iff_iff, List.any_eq_true, decide_eq_true_eq]
    constructor
    · rintro ⟨d, hd, hz⟩
      obtain ⟨y, hy, rfl⟩ := List.mem_map.mp hd
      simp only [PyData.eqv, beq_iff_eq] at hz
      rw [← hz]; exact hy
    · intro hx
      exact ⟨_, List.mem_map.mpr ⟨x, hx, rfl⟩, by simp [PyData.eqv]⟩
  have e2 : inW (.str x) (.ref n) S = (match toD S (49 + 1) (.str x), toD S (49 + 1) (.ref n) with
    | some d, some (.list ds) => some (ds.any fun z => PyData.eqv z d)
    | _, _ => none) := rfl
  unfold opNotIn
  rw [e2, toD_lst h, toD_strs]
  simp only [toD, Option.map_some, e]
theorem mIndex_strs {n t : Nat} {x : Str} {ys : List Str} {S : Store} (h : S[n]? = some (.lst (ys.map W.str))) (ht : ys[t]? = some x) (hn : ∀ s y, s < t → ys[s]? = some y → y ≠ x) : mIndex (.ref n) [.str x] S = some (.int (t : Nat), S) := by
  have e : findD (ys.map PyData.str) (.str x) = some t := by
    unfold findD
    rw [List.findIdx?_eq_some_iff_getElem]
    obtain ⟨lt, e1⟩ := List.getElem?_eq_some_iff.mp ht
    refine ⟨by simpa using lt, by simp [PyData.eqv, e1], fun s hs => ?_⟩
    have := hn s ys[s] hs (List.getElem?_eq_getElem (by omega))
    simp [PyData.eqv, this]
  have e2 : mIndex (.ref n) [.str x] S = (match toD S (49 + 1) (.ref n), toD S (49 + 1) (.str x) with
    | some (.list ds), some d => (findD ds d).map fun j => (W.int (j : Nat), S)
    | _, _ => none) := rfl
  rw [e2, toD_lst h, toD_strs]
  simp only [toD, Option.map_some, e]
theorem first_at {x : Str} : ∀ {ys : List Str}, x ∈ ys → ∃ t : Nat, ys[t]? = some x ∧ ∀ (s : Nat) (y : Str), s < t → ys[s]? = some y → y ≠ x
  | [], h => by cases h
  | y :: ys, h => by
    by_cases e : y = x
    · exact ⟨0, by rw [e]; rfl, fun s _ hs _ => absurd hs (Nat.not_lt_zero _)⟩
    · rcases List.mem_cons.mp h with h | h
      · exact absurd h.symm e
      · obtain ⟨t, h1, h2⟩ := first_at h
        refine ⟨t + 1, by simpa using h1, fun s z hs hz => ?_⟩
        cases s with
        | zero => have hz : y = z := by simpa using hz
                  rw [← hz]; exact e
        | succ s => exact h2 s z (by omega) (by simpa using hz)
theorem cut_from {α : Type} {xs : List α} {b : Nat} : cutL xs (some (b : Int)) none = xs.drop b := by
  unfold cutL
  rw [HT.sIx_none, HT.sIx_nat, List.take_of_length_le (by rw [List.length_drop]; omega)]
  by_cases h : b ≤ xs.length
  · rw [Nat.min_eq_left h]
  · rw [Nat.min_eq_right (by omega), List.drop_eq_nil_of_le (Nat.le_refl _), List.drop_eq_nil_of_le (by omega)]
theorem law_spelled_spec {a b : Nat} {xs ms : List Str} {S : Store} {E : Ex → Store → Prop} (ga : S[a]? = some (.lst (xs.map W.str))) (gb : S[b]? = some (.lst (ms.map W.str))) (hl : xs.length ≤ 10000) (hm : ms.length ≤ 10000) :
    wp (n_law_spelled [.ref a, .ref b] S) (fun r S' => SpW (spell (red xs) ms) S r S' ∧ Fr 0 S S') E := by
  unfold n_law_spelled d_law_spelled
  simp only [WPA, Nat.reduceSub, Nat.reduceAdd, tgN, tgNil, tgCons, tgTup, wipeE, isT, String.reduceBEq, reduceIte, lenOk_of (show 0 ≤ 1000000 by decide)]
  refine wp_mono (law_reduced_spec (S := S ++ [O.lst []]) (Fr.app.g0 ga) hl) ?_ (fun _ _ q => q)
  rintro r S1 ⟨rfl, gr, f1⟩
  have l1 : (S ++ [O.lst []]).length = S.length + 1 := by simp
  rw [l1] at gr ⊢
  have hr : (red xs).length ≤ 10000 := Nat.le_trans (red_len xs) hl
  simp only [WPA, Nat.reduceSub, Nat.reduceAdd, tgN, tgNil, tgCons, tgTup, wipeE, isT, String.reduceBEq, reduceIte, srcW_ref gr]
  refine wpS_forL (fun j ε S' => ∃ (f : List Nat) (b0 : Nat) (x2 : Option W), ε = [some (.ref a), some (.ref b), x2, some (.ref S.length), some (.int b0)] ∧ S'[S.length]? = some (.lst (natsW f)) ∧ f.length = j ∧ b0 ≤ ms.length ∧
    pg (red xs) ms 0 = f ++ pg ((red xs).drop j) (ms.drop b0) b0 ∧ Fr 0 S S' ∧ S'[S.length + 1]? = some (.lst ((red xs).map W.str))) ⟨[], 0, _, rfl, f1.g0 get_new, rfl, Nat.zero_le _, by simp, Fr.app.trans f1, gr⟩ (fun _ _ S' _ h => by obtain ⟨_, _, _, _, _, _, _, _, _, g⟩ := h; exact g) ?_ ?_
  · rintro j w ε S' e ⟨f, b0, x2, rfl, g, lf, hb, hp, fr, gr'⟩
    rw [List.getElem?_map, Option.map_eq_some_iff] at e
    obtain ⟨l, el, rfl⟩ := e
    have hj := (List.getElem?_eq_some_iff.mp el).1
    have dr : (red xs).drop j = l :: (red xs).drop (j + 1) := by
      rw [List.drop_eq_getElem_cons hj, (List.getElem?_eq_some_iff.mp el).2]
    rw [dr] at hp
    have gb' := fr.g0 gb
    have gs : (S' ++ [O.lst ((ms.drop b0).map W.str)])[S'.length]? = some (.lst ((ms.drop b0).map W.str)) := get_new
    simp only [WPA, Nat.reduceSub, Nat.reduceAdd, tgN, tgNil, tgCons, tgTup, wipeE, isT, String.reduceBEq, reduceIte, opSl_ref gb', cut_from, ← List.map_drop, inW_strs gs]
    by_cases hin : l ∈ ms.drop b0
    · rw [if_neg (by simpa using hin)]
      obtain ⟨t, t1, t2⟩ := first_at hin
      have ht : t < (ms.drop b0).length := (List.getElem?_eq_some_iff.mp t1).1
      rw [List.length_drop] at ht
      have gb2 : (S' ++ [O.lst ((ms.drop b0).map W.str)])[b]? = some (.lst (ms.map W.str)) := Fr.app.g0 gb'
      have gs2 : (S' ++ [O.lst ((ms.drop b0).map W.str)] ++ [O.lst ((ms.drop b0).map W.str)])[(S' ++ [O.lst ((ms.drop b0).map W.str)]).length]? = some (.lst ((ms.drop b0).map W.str)) := get_new
      have g2 : (S' ++ [O.lst ((ms.drop b0).map W.str)] ++ [O.lst ((ms.drop b0).map W.str)])[S.length]? = some (.lst (natsW f)) := Fr.app.g0 (Fr.app.g0 g)
      have ln : (natsW f).length = f.length := by simp [natsW]
      simp only [WPA, Nat.reduceSub, Nat.reduceAdd, tgN, tgNil, tgCons, tgTup, wipeE, isT, String.reduceBEq, reduceIte, opSl_ref gb2, cut_from, ← List.map_drop, tyM_ref gs2, mIndex_strs gs2 t1 t2, tyM_ref g2, mAppend_ref g2, ln]
      rw [if_pos (by rw [sizeLine_eq]; omega)]
      have ei : (b0 : Int) + (t : Int) + 1 = ((b0 + t + 1 : Nat) : Int) := by omega
      have ei2 : ((b0 + t + 1 : Nat) : Int) - 1 = ((b0 + t : Nat) : Int) := by omega
      rw [ei, ei2]
      refine ⟨f ++ [b0 + t], b0 + t + 1, _, rfl, ?_, by simp [lf], by omega, ?_, fr.snoc.snoc.setN (Nat.le_refl _), ?_⟩
      · have : natsW (f ++ [b0 + t]) = natsW f ++ [.int ((b0 + t : Nat) : Int)] := by simp [natsW]
        rw [this]; exact get_set g2
      · rw [hp, pg_find t1 t2, List.append_assoc, List.drop_drop]
        rfl
      · rw [List.getElem?_set_ne (by omega)]
        exact Fr.app.g0 (Fr.app.g0 gr')
    · rw [if_pos (by simpa using hin)]
      rw [pg_none hin, List.append_nil] at hp
      have : spell (red xs) ms = none := if_neg (by rw [hp]; omega)
      rw [this]
      exact ⟨rfl, fr.snoc⟩
  · rintro ε S' ⟨f, b0, x2, rfl, g, lf, hb, hp, fr, gr'⟩
    rw [List.length_map] at lf hp
    rw [List.drop_length, pg_nil, List.append_nil] at hp
    simp only [WPA, Nat.reduceSub, Nat.reduceAdd, tgN, tgNil, tgCons, tgTup, wipeE, isT, String.reduceBEq, reduceIte]
    have : spell (red xs) ms = some f := by
      unfold spell
      rw [hp, if_pos lf]
    rw [this]
    exact ⟨⟨_, rfl, Nat.le_refl _, g⟩, fr⟩
/-! ### same, the other way -/
noncomputable section
def d_law_same2 (r : List W → M W) : DS :=
  dSeq (dIf (dOr (dTru (dIsi "list" (dVar 1))) (dTru (dIsi "tuple" (dVar 1)))) (dSeq (dIf (dOr (dBool (dOp opNe (dIsi "list" (dVar 0)) (dIsi "list" (dVar 1)))) (dNot (dTru (dIsi2 "list" "tuple" (dVar 0))))) (dRet (dC (.bl false))) (dNx))
  (dRet (dAndV (dOp opEq (dFn opLen (aCons (dVar 0) aNil)) (dFn opLen (aCons (dVar 1) aNil))) (dFn opAll (aCons (dLc (dZip (aCons (dVar 0) (aCons (dVar 1) aNil))) (tgTup 2 (tgCons (tgN 2) (tgCons (tgN 3) (tgNil)))) (dYes) (dCall r (aCons (dVar 2) (aCons (dVar 3) (aNil)))) [2, 3]) aNil))))) (dNx))
  (dSeq (dIf (dOr (dBool (dOp opIsN (dVar 1) (dC .non))) (dBool (dOp opIsN (dVar 0) (dC .non)))) (dRet (dAndV (dOp opIsN (dVar 1) (dC .non)) (dOp opIsN (dVar 0) (dC .non)))) (dNx))
  (dSeq (dIf (dOr (dBool (dOp opNe (dIsi "bool" (dVar 1)) (dIsi "bool" (dVar 0)))) (dBool (dOp opNe (dIsi "str" (dVar 1)) (dIsi "str" (dVar 0))))) (dRet (dC (.bl false))) (dNx))
  (dRet (dOp opEq (dVar 0) (dVar 1)))))
def n_law_same2 : Nat → List W → M W
  | 0 => fun _ => bad
  | j + 1 => dfn 4 2 (d_law_same2 (n_law_same2 j))
end
theorem same2_spec {E : Ex → Store → Prop} : ∀ (n : Nat) {a b : W} {S : Store}, Twin S n a b → wp (n_law_same2 n [a, b] S) (fun r S' => r = .bl true ∧ Fr 0 S S') E
  | 0, a, b, S, h => h.elim
  | n + 1, a, b, S, h => by
    have lc : ∀ (xs ys : List W) (g : Store → Prop), (∀ S', Fr 0 S S' → g S') → xs.length = ys.length → (∀ (i : Nat) x y, xs[i]? = some x → ys[i]? = some y → Twin S n x y) → ∀ ε0 : Ev, (∃ x0 y0, ε0 = [x0, y0, none, none]) →
        wp (lcL (tgTup 2 (tgCons (tgN 2) (tgCons (tgN 3) (tgNil)))) dYes (dCall (n_law_same2 n) (aCons (dVar 2) (aCons (dVar 3) (aNil)))) g ε0 (zipL xs ys) S) (fun ws S' => ws = ((List.range xs.length).map fun _ => true).map W.bl ∧ Fr 0 S S') E := by
      rintro xs ys g hg hl ht ε0 ⟨x0, y0, rfl⟩
      refine wp_mono (wp_lcMap (fun _ => .bl true) (fun _ S' => Fr 0 S S') Fr.refl (fun _ S' _ h => hg _ h) ?_) (fun ws S' ⟨q, f⟩ => ⟨?_, f⟩) (fun _ _ q => q)
      · rintro i x S' e f
        obtain ⟨u, v, e1, e2, rfl⟩ := zipL_at e
        simp only [WPA, Nat.reduceSub, Nat.reduceAdd, tgN, tgNil, tgCons, tgTup, wipeE, isT, String.reduceBEq, reduceIte]
        refine wp_mono (same2_spec n ((ht i u v e1 e2).mono f (Nat.le_refl _))) ?_ (fun _ _ q => q)
        rintro r S2 ⟨rfl, f2⟩
        exact ⟨rfl, f.trans f2⟩
      · rw [q, zipL_length hl, List.map_map]; rfl
    have all : ∀ m : Nat, ((List.range m).map fun _ => true).all id = true := fun m => map_true fun _ _ => rfl
    unfold n_law_same2 d_law_same2
    rcases h with ⟨rfl, rfl⟩ | ⟨x, rfl, rfl⟩ | ⟨x, rfl, rfl⟩ | ⟨x, rfl, rfl⟩ | ⟨xs, ys, rfl, rfl, hl, hz, h⟩ | ⟨p, q, xs, ys, rfl, rfl, g1, g2, hl, hz, h⟩
    · simp only [WPA, Nat.reduceSub, Nat.reduceAdd, tgN, tgNil, tgCons, tgTup, wipeE, isT, String.reduceBEq, reduceIte]
      exact Fr.refl
    · simp only [WPA, Nat.reduceSub, Nat.reduceAdd, tgN, tgNil, tgCons, tgTup, wipeE, isT, String.reduceBEq, reduceIte, beq_self_eq_true]
      exact Fr.refl
    · simp only [WPA, Nat.reduceSub, Nat.reduceAdd, tgN, tgNil, tgCons, tgTup, wipeE, isT, String.reduceBEq, reduceIte, beq_self_eq_true]
      exact Fr.refl
    · simp only [WPA, Nat.reduceSub, Nat.reduceAdd, tgN, tgNil, tgCons, tgTup, wipeE, isT, String.reduceBEq, reduceIte, beq_self_eq_true]
      exact Fr.refl
    · simp only [WPA, Nat.reduceSub, Nat.reduceAdd, tgN, tgNil, tgCons, tgTup, wipeE, isT, String.reduceBEq, reduceIte, beq_self_eq_true, hl, zipW]
      refine ⟨lenOk_of (by rw [zipL_length hl]; exact hz), ?_⟩
      refine wp_mono (lc xs ys _ (fun _ _ => trivial) hl h _ ⟨_, _, rfl⟩) ?_ (fun _ _ q => q)
      rintro ws S2 ⟨rfl, f⟩
      rw [opAll_ref get_new, all, wO_some]
      exact ⟨rfl, f.snoc⟩
    · simp only [WPA, Nat.reduceSub, Nat.reduceAdd, tgN, tgNil, tgCons, tgTup, wipeE, isT, String.reduceBEq, reduceIte, tyN_ref g1, tyN_ref g2, beq_self_eq_true, hl, zipW, opLen_ref g1, opLen_ref g2, g1, g2]
      refine ⟨lenOk_of (by rw [zipL_length hl]; exact hz), ?_⟩
      refine wp_mono (lc xs ys _ (fun S' f => ⟨f.g0 g1, f.g0 g2⟩) hl h _ ⟨_, _, rfl⟩) ?_ (fun _ _ q => q)
      rintro ws S2 ⟨rfl, f⟩
      rw [opAll_ref get_new, all, wO_some]
      exact ⟨rfl, f.snoc⟩
theorem opNotN_any {w : W} {S : Store} : opNotN w .non S = some (.bl (!isNon w), S) := rfl
theorem opIsB_bl {a b : Bool} {S : Store} : opIsB (.bl a) (.bl b) S = some (.bl (a == b), S) := rfl
/-- a letter, small -/
structure Let (x : Str) : Prop where
  l : Letter x
  ok : okS x = true
  sz : x.cps.size ≤ 8
theorem let_plus : Let "+" := ⟨.inr rfl, by decide, by decide⟩
theorem let_ten : ∀ x ∈ tenNames, Let x := fun x h => ⟨.inl (ten_ok x h).1, (ten_ok x h).2.1, (ten_ok x h).2.2⟩
theorem tiny_rule {xs : List Str} (h : ∀ x ∈ xs, Let x) : tiny (.list (xs.map PyData.str)) = true := by
  simp only [tiny]
  exact tinyAll_map fun x hx => str_tiny (h x hx).ok
theorem bulk_rule {xs : List Str} (h : ∀ x ∈ xs, Let x) : (PyData.list (xs.map PyData.str)).bulk ≤ xs.length * 9 := by
  simp only [PyData.bulk]
  exact bulkAll_map fun x hx => by simp only [PyData.bulk]; exact (h x hx).sz
theorem repr_two {n a b : Nat} {xs ms : List Str} {S : Store} (g : S[n]? = some (.lst [.ref a, .ref b])) (ga : S[a]? = some (.lst (xs.map W.str))) (gb : S[b]? = some (.lst (ms.map W.str))) (hx : ∀ x ∈ xs, Let x) (hm : ∀ x ∈ ms, Let x) (lx : xs.length ≤ 5000) (lm : ms.length ≤ 5000) :
    opRepr [.ref n] S = some (.str (PyData.list [.list (xs.map PyData.str), .list (ms.map PyData.str)]).shown, S) := by
  refine opRepr_tiny ?_ ?_ ?_
  · rw [toD_lst g]
    simp only [mapO]
    rw [toD_lst ga, toD_lst gb, toD_strs, toD_strs]
    rfl
  · have h1 := tiny_rule hx
    have h2 := tiny_rule hm
    simp only [tiny, tinyAll, Bool.and_true] at h1 h2 ⊢
    rw [h1, h2]; rfl
  · have h1 := bulk_rule hx
    have h2 := bulk_rule hm
    simp only [PyData.bulk, PyData.bulkAll] at h1 h2 ⊢
    omega
end N
namespace N
open PySem L2
noncomputable section
def d_is_integer : DS :=
  dSeq (dIf (dOr (dNot (dTru (dIsi "int" (dVar 0)))) (dTru (dIsi "bool" (dVar 0)))) (dRet (dC (.bl false))) (dNx))
  (dRet (dAndV (dOrV (dOp opIsN (dVar 1) (dC .non)) (dOp opLe (dVar 1) (dVar 0))) (dOrV (dOp opIsN (dVar 2) (dC .non)) (dOp opLe (dVar 0) (dVar 2)))))
def n_is_integer : List W → M W := dfn 3 3 d_is_integer
def d_is_day : DS :=
  dRet (dCallK n_is_integer 1 0 [.non, .non] [0, 1, 2] (aCons (dVar 0) (aNil)) (aNil))
def n_is_day : List W → M W := dfn 1 1 d_is_day
def d_is_entry : DS :=
  dSeq (dIf (dOr (dNot (dTru (dIsi "tuple" (dVar 0)))) (dOr (dBool (dOp opNe (dFn opLen (aCons (dVar 0) aNil)) (dC (.int 3)))) (dNot (dTru (dCall n_is_office (aCons (dOp opIx (dVar 0) (dC (.int 0))) (aNil))))))) (dRet (dC (.bl false))) (dNx))
  (dRet (dAndV (dCall n_is_day (aCons (dOp opIx (dVar 0) (dC (.int 1))) (aNil))) (dAndV (dCall n_is_day (aCons (dOp opIx (dVar 0) (dC (.int 2))) (aNil))) (dOp opLe (dOp opIx (dVar 0) (dC (.int 1))) (dOp opIx (dVar 0) (dC (.int 2)))))))
def n_is_entry : List W → M W := dfn 1 1 d_is_entry
def d_require_log (x4 : Nat) : DS :=
  dIf (dOr (dNot (dTru (dIsi "list" (dVar 0)))) (dNot (dTru (dFn opAll (aCons (dLc (dSrc (dVar 0)) (tgN 1) (dYes) (dCall n_is_entry (aCons (dVar 1) (aNil))) [1]) aNil))))) (dRaise x4) (dNx)
def n_require_log (x4 : Nat) : List W → M W := dfn 2 1 (d_require_log x4)
def d_closes : DS :=
  dRet (dChain opLe opLt (dOp opIx (dVar 0) (dC (.int 1))) (dVar 1) (dOp opIx (dVar 0) (dC (.int 2))))
def n_closes : List W → M W := dfn 2 2 d_closes
def d_do_clash : DS :=
  dRet (dAndV (dOp opEq (dOp opIx (dVar 0) (dC (.int 0))) (dOp opIx (dVar 1) (dC (.int 0)))) (dOrV (dCall n_closes (aCons (dVar 0) (aCons (dOp opIx (dVar 1) (dC (.int 2))) (aNil)))) (dCall n_closes (aCons (dVar 1) (aCons (dOp opIx (dVar 0) (dC (.int 2))) (aNil))))))
def n_do_clash : List W → M W := dfn 2 2 d_do_clash
def d_clash_in : DS :=
  dSeq (dFor (dEnum (aCons (dVar 0) aNil)) (tgTup 2 (tgCons (tgN 1) (tgCons (tgN 2) (tgNil)))) (dFor (dEnum (aCons (dSl (dVar 0) (oN) (oS (dVar 1))) aNil)) (tgTup 2 (tgCons (tgN 3) (tgCons (tgN 4) (tgNil)))) (dIf (dTru (dCall n_do_clash (aCons (dVar 4) (aCons (dVar 2) (aNil))))) (dRet (dTup (aCons (dVar 3) (aCons (dVar 1) (aNil))))) (dNx))))
  (dRet (dC .non))
def n_clash_in : List W → M W := dfn 5 1 d_clash_in
def d_require_no_clash (x4 : Nat) : DS :=
  dSeq (dDrop (dCall (n_require_log x4) (aCons (dVar 0) (aNil))))
  (dSeq (dSet 1 (dCall n_clash_in (aCons (dVar 0) (aNil))))
  (dIf (dBool (dOp opNotN (dVar 1) (dC .non))) (dSeq (dAsg (tgTup 2 (tgCons (tgN 2) (tgCons (tgN 3) (tgNil)))) (dVar 1))
  ((fun _ _ => .bad))) (dNx)))
def n_require_no_clash (x4 : Nat) : List W → M W := dfn 4 1 (d_require_no_clash x4)
def d_find_clash (x4 : Nat) : DS :=
  dSeq (dDrop (dCall (n_require_log x4) (aCons (dVar 0) (aNil))))
  (dRet (dCall n_clash_in (aCons (dVar 0) (aNil))))
def n_find_clash (x4 : Nat) : List W → M W := dfn 1 1 (d_find_clash x4)
def d_require_office (x2 : Nat) : DS :=
  dIf (dNot (dTru (dCall n_is_office (aCons (dVar 0) (aNil))))) (dRaise x2) (dNx)
def n_require_office (x2 : Nat) : List W → M W := dfn 1 1 (d_require_office x2)
def d_require_day (x1 : Nat) : DS :=
  dIf (dNot (dTru (dCall n_is_day (aCons (dVar 0) (aNil))))) (dRaise x1) (dNx)
def n_require_day (x1 : Nat) : List W → M W := dfn 1 1 (d_require_day x1)
def d_known_state (x1 : Nat) (x2 : Nat) (x4 : Nat) : DS :=
  dSeq (dDrop (dCall (n_require_no_clash x4) (aCons (dVar 0) (aNil))))
  (dSeq (dDrop (dCall (n_require_office x2) (aCons (dVar 1) (aNil))))
  (dSeq (dDrop (dCall (n_require_day x1) (aCons (dVar 2) (aNil))))
  (dSeq (dSet 3 (dLc (dSrc (dVar 0)) (tgN 4) (dBool (dOp opEq (dOp opIx (dVar 4) (dC (.int 0))) (dVar 1))) (dVar 4) [4]))
  (dSeq (dIf (dTru (dFn opAny (aCons (dLc (dSrc (dVar 3)) (tgN 4) (dYes) (dOp opEq (dOp opIx (dVar 4) (dC (.int 2))) (dVar 2)) [4]) aNil))) (dRet (dC (.str "open"))) (dNx))
  (dRet (dIfE (dTru (dFn opAny (aCons (dLc (dSrc (dVar 3)) (tgN 4) (dYes) (dCall n_closes (aCons (dVar 4) (aCons (dVar 2) (aNil)))) [4]) aNil))) (dC (.str "closed")) (dC (.str "free"))))))))
def n_known_state (x1 : Nat) (x2 : Nat) (x4 : Nat) : List W → M W := dfn 5 3 (d_known_state x1 x2 x4)
def d_first_of : DS :=
  dRet (dFn opMaxL (aCons (dOp opAdd (dLst (aCons (dVar 2) (aNil))) (dLc (dSrc (dVar 0)) (tgN 3) (dAnd (dBool (dOp opEq (dOp opIx (dVar 3) (dC (.int 0))) (dVar 1))) (dTru (dCall n_closes (aCons (dVar 3) (aCons (dVar 2) (aNil)))))) (dOp opIx (dVar 3) (dC (.int 2))) [3])) aNil))
def n_first_of : List W → M W := dfn 4 3 d_first_of
def d_last_of : DS :=
  dSeq (dSet 3 (dLc (dSrc (dVar 0)) (tgN 4) (dAnd (dBool (dOp opEq (dOp opIx (dVar 4) (dC (.int 0))) (dVar 1))) (dBool (dOp opGe (dOp opIx (dVar 4) (dC (.int 2))) (dVar 2)))) (dOp opIx (dVar 4) (dC (.int 2))) [4]))
  (dRet (dIfE (dBool (dOp opNe (dVar 3) (dLst (aNil)))) (dFn opMinL (aCons (dVar 3) aNil)) (dC .non)))
def n_last_of : List W → M W := dfn 5 3 d_last_of
def d_day_range (x1 : Nat) (x3 : Nat) (x4 : Nat) : DS :=
  dSeq (dDrop (dCall (n_require_no_clash x4) (aCons (dVar 0) (aNil))))
  (dSeq (dDrop (dCall (n_require_rule x3) (aCons (dVar 1) (aNil))))
  (dSeq (dDrop (dCall (n_require_day x1) (aCons (dVar 2) (aNil))))
  (dSeq (dSet2 3 4 (dVar 2))
  (dSeq (dFor (dSrc (dVar 1)) (tgN 5) (dSeq (dSet 3 (dIfE (dBool (dOp opEq (dVar 5) (dC (.str "+")))) (dOp opAdd (dVar 3) (dC (.int 1))) (dCall n_first_of (aCons (dVar 0) (aCons (dVar 5) (aCons (dVar 3) (aNil)))))))
  (dIf (dBool (dOp opNotN (dVar 4) (dC .non))) (dSet 4 (dIfE (dBool (dOp opEq (dVar 5) (dC (.str "+")))) (dOp opAdd (dVar 4) (dC (.int 1))) (dCall n_last_of (aCons (dVar 0) (aCons (dVar 5) (aCons (dVar 4) (aNil))))))) (dNx))))
  (dRet (dTup (aCons (dVar 3) (aCons (dVar 4) (aNil)))))))))
def n_day_range (x1 : Nat) (x3 : Nat) (x4 : Nat) : List W → M W := dfn 6 3 (d_day_range x1 x3 x4)
def d_law_closes : DS :=
  dRet (dChain opLe opLt (dOp opIx (dVar 0) (dC (.int 1))) (dVar 1) (dOp opIx (dVar 0) (dC (.int 2))))
def n_law_closes : List W → M W := dfn 2 2 d_law_closes
def d_law_first_clash : DS :=
  dSeq (dFor (dRng1 (aCons (dFn opLen (aCons (dVar 0) aNil)) aNil)) (tgN 1) (dFor (dRng1 (aCons (dVar 1) aNil)) (tgN 2) (dIf (dBool (dOp opEq (dOp opIx (dOp opIx (dVar 0) (dVar 2)) (dC (.int 0))) (dOp opIx (dOp opIx (dVar 0) (dVar 1)) (dC (.int 0))))) (dIf (dOr (dTru (dCall n_law_closes (aCons (dOp opIx (dVar 0) (dVar 2)) (aCons (dOp opIx (dOp opIx (dVar 0) (dVar 1)) (dC (.int 2))) (aNil))))) (dTru (dCall n_law_closes (aCons (dOp opIx (dVar 0) (dVar 1)) (aCons (dOp opIx (dOp opIx (dVar 0) (dVar 2)) (dC (.int 2))) (aNil)))))) (dRet (dTup (aCons (dVar 2) (aCons (dVar 1) (aNil))))) (dNx)) (dNx))))
  (dRet (dC .non))
def n_law_first_clash : List W → M W := dfn 3 1 d_law_first_clash
def d_law_state : DS :=
  dSeq (dSet 3 (dLc (dSrc (dVar 0)) (tgN 4) (dBool (dOp opEq (dOp opIx (dVar 4) (dC (.int 0))) (dVar 1))) (dVar 4) [4]))
  (dSeq (dIf (dBool (dOp opNe (dLc (dSrc (dVar 3)) (tgN 4) (dBool (dOp opEq (dOp opIx (dVar 4) (dC (.int 2))) (dVar 2))) (dC (.int 1)) [4]) (dLst (aNil)))) (dRet (dC (.str "open"))) (dNx))
  (dRet (dIfE (dBool (dOp opNe (dLc (dSrc (dVar 3)) (tgN 4) (dTru (dCall n_law_closes (aCons (dVar 4) (aCons (dVar 2) (aNil))))) (dC (.int 1)) [4]) (dLst (aNil)))) (dC (.str "closed")) (dC (.str "free")))))
def n_law_state : List W → M W := dfn 5 3 d_law_state
def d_law_least : DS :=
  dSeq (dFor (dSrc (dVar 1)) (tgN 3) (dSeq (dSet 4 (dLc (dSrc (dVar 0)) (tgN 5) (dAnd (dBool (dOp opEq (dOp opIx (dVar 5) (dC (.int 0))) (dVar 3))) (dTru (dCall n_law_closes (aCons (dVar 5) (aCons (dVar 2) (aNil)))))) (dOp opIx (dVar 5) (dC (.int 2))) [5]))
  (dSet 2 (dIfE (dBool (dOp opEq (dVar 3) (dC (.str "+")))) (dOp opAdd (dVar 2) (dC (.int 1))) (dOp opIx (dOp opAdd (dVar 4) (dLst (aCons (dVar 2) (aNil)))) (dC (.int 0)))))))
  (dRet (dVar 2))
def n_law_least : List W → M W := dfn 6 3 d_law_least
def d_law_greatest : DS :=
  dSeq (dFor (dSrc (dVar 1)) (tgN 3) (dIf (dBool (dOp opEq (dVar 3) (dC (.str "+")))) (dSet 2 (dOp opAdd (dVar 2) (dC (.int 1)))) (dSeq (dSet 4 (dFn opSorted (aCons (dLc (dSrc (dVar 0)) (tgN 5) (dAnd (dBool (dOp opEq (dOp opIx (dVar 5) (dC (.int 0))) (dVar 3))) (dBool (dOp opGe (dOp opIx (dVar 5) (dC (.int 2))) (dVar 2)))) (dOp opIx (dVar 5) (dC (.int 2))) [5]) aNil)))
  (dSeq (dIf (dBool (dOp opEq (dVar 4) (dLst (aNil)))) (dRet (dC .non)) (dNx))
  (dSet 2 (dOp opIx (dVar 4) (dC (.int 0))))))))
  (dRet (dVar 2))
def n_law_greatest : List W → M W := dfn 6 3 d_law_greatest
end
abbrev Ent := Str × Int × Int
abbrev eW (e : Ent) : W := .tup [.str e.1, .int e.2.1, .int e.2.2]
theorem is_day_spec {i : Int} {S : Store} {Q : W → Store → Prop} {E : Ex → Store → Prop} (h : Q (.bl true) S) : wp (n_is_day [.int i] S) Q E := by
  unfold n_is_day d_is_day n_is_integer d_is_integer
  simp only [wp_ok, wp_exc, wp_ret, wp_badM, wp_lift, wp_chk, wp_alloc, wp_grd, wp_tgt, wp_noXe, wp_dVar, wp_dC, wp_aNil, wp_aCons, wp_dTup, wp_dLst, wp_dOp, wp_dUn, wp_dFn, wB_bl, wp_dChain, wp_dTru, wp_dBool, wp_dNot, wp_dAnd, wp_dOr, wp_dAndV, wp_dOrV, wp_dNotV, wp_dIfE, wp_dYes, wp_dCall, wp_dCallK, wp_dIsi, wp_dIsi2, wp_dMt, wp_oN, wI_int, wp_oS, wp_dSl, wp_dSrc, wp_dZip, wp_dRng1, wp_dRng2, wp_dEnum, wp_dLc, wpS_nx, wpS_rt, wpS_bk, wpS_ct, wpS_exc, wpS_bad, wpS_ite, wpS_dSeq, wpS_dNx, wpS_dBk, wpS_dCt, wpS_dDrop, wpS_dRet, wpS_dRetN, wpS_dIf, wpS_dSet, wpS_dAsg, wpS_dPar, wpS_dPar3, wpS_dSet2, wpS_dPut, wpS_dRaise, wpS_dFor, wp_dfn, wO_some, wO_none, wO_map, wO_bind, wO_ite, List.map_cons, List.map_nil, List.replicate_succ, List.replicate_zero, List.cons_append, List.nil_append, Nat.reduceSub, Nat.reduceAdd, List.getElem?_cons_zero, List.getElem?_cons_succ, List.set_cons_zero, List.set_cons_succ, List.length_cons, List.length_nil, tgN, tgNil, tgCons, tgTup, wipeE, isT, String.reduceBEq, Bool.and_false, Bool.false_and, Bool.true_and, Bool.and_true, Bool.or_false, Bool.false_or, Bool.true_or, Bool.or_true, Bool.not_true, Bool.not_false, if_true, if_false, true_and, and_true, Bool.false_eq_true, Bool.true_eq_false, reduceIte, opEq_int, opNe_int, opEq_str, opNe_str, opAdd_int, opSub_int, opMod_pos, opLt_int, opLe_int, opGt_int, opGe_int, opLt_str, opLe_str, opIsN_ref, opIsN_non, opIsN_int, opIsN_tup, opIsN_str, opIsN_bl, opEq_bl, opNe_bl, opFdiv_int, opMul_int, opPow_int, atI_0, atI_1, atI_2, opIx_ref, opIx_tup, opIx_rl, opLen_tup, opLen_str, opLen_rl, opMax2_int, opMin2_int, opInt_int, opInt_bl, tyN_non, tyN_bl, tyN_int, tyN_str, tyN_tup, tyN_rl, truthW_bl, srcW_tup, srcW_rl, permW, List.mapM_cons, List.mapM_nil, Option.pure_def, Option.bind_eq_bind, Option.bind_some, String.reduceBEq]
  exact h
structure GoodE (e : Ent) : Prop where
  name : Name e.1
  le : e.2.1 ≤ e.2.2
theorem is_entry_spec {e : Ent} {S : Store} {E : Ex → Store → Prop} (h : GoodE e) : wp (n_is_entry [eW e] S) (fun r S' => r = .bl true ∧ Fr 0 S S') E := by
  unfold n_is_entry d_is_entry
  simp only [wp_ok, wp_exc, wp_ret, wp_badM, wp_lift, wp_chk, wp_alloc, wp_grd, wp_tgt, wp_noXe, wp_dVar, wp_dC, wp_aNil, wp_aCons, wp_dTup, wp_dLst, wp_dOp, wp_dUn, wp_dFn, wB_bl, wp_dChain, wp_dTru, wp_dBool, wp_dNot, wp_dAnd, wp_dOr, wp_dAndV, wp_dOrV, wp_dNotV, wp_dIfE, wp_dYes, wp_dCall, wp_dCallK, wp_dIsi, wp_dIsi2, wp_dMt, wp_oN, wI_int, wp_oS, wp_dSl, wp_dSrc, wp_dZip, wp_dRng1, wp_dRng2, wp_dEnum, wp_dLc, wpS_nx, wpS_rt, wpS_bk, wpS_ct, wpS_exc, wpS_bad, wpS_ite, wpS_dSeq, wpS_dNx, wpS_dBk, wpS_dCt, wpS_dDrop, wpS_dRet, wpS_dRetN, wpS_dIf, wpS_dSet, wpS_dAsg, wpS_dPar, wpS_dPar3, wpS_dSet2, wpS_dPut, wpS_dRaise, wpS_dFor, wp_dfn, wO_some, wO_none, wO_map, wO_bind, wO_ite, List.map_cons, List.map_nil, List.replicate_succ, List.replicate_zero, List.cons_append, List.nil_append, Nat.reduceSub, Nat.reduceAdd, List.getElem?_cons_zero, List.getElem?_cons_succ, List.set_cons_zero, List.set_cons_succ, List.length_cons, List.length_nil, tgN, tgNil, tgCons, tgTup, wipeE, isT, String.reduceBEq, Bool.and_false, Bool.false_and, Bool.true_and, Bool.and_true, Bool.or_false, Bool.false_or, Bool.true_or, Bool.or_true, Bool.not_true, Bool.not_false, if_true, if_false, true_and, and_true, Bool.false_eq_true, Bool.true_eq_false, reduceIte, opEq_int, opNe_int, opEq_str, opNe_str, opAdd_int, opSub_int, opMod_pos, opLt_int, opLe_int, opGt_int, opGe_int, opLt_str, opLe_str, opIsN_ref, opIsN_non, opIsN_int, opIsN_tup, opIsN_str, opIsN_bl, opEq_bl, opNe_bl, opFdiv_int, opMul_int, opPow_int, atI_0, atI_1, atI_2, opIx_ref, opIx_tup, opIx_rl, opLen_tup, opLen_str, opLen_rl, opMax2_int, opMin2_int, opInt_int, opInt_bl, tyN_non, tyN_bl, tyN_int, tyN_str, tyN_tup, tyN_rl, truthW_bl, srcW_tup, srcW_rl]
  refine wp_mono (is_office_spec h.name) ?_ (fun _ _ q => q)
  rintro r S' ⟨rfl, f⟩
  simp only [wp_ok, wp_exc, wp_ret, wp_badM, wp_lift, wp_chk, wp_alloc, wp_grd, wp_tgt, wp_noXe, wp_dVar, wp_dC, wp_aNil, wp_aCons, wp_dTup, wp_dLst, wp_dOp, wp_dUn, wp_dFn, wB_bl, wp_dChain, wp_dTru, wp_dBool, wp_dNot, wp_dAnd, wp_dOr, wp_dAndV, wp_dOrV, wp_dNotV, wp_dIfE, wp_dYes, wp_dCall, wp_dCallK, wp_dIsi, wp_dIsi2, wp_dMt, wp_oN, wI_int, wp_oS, wp_dSl, wp_dSrc, wp_dZip, wp_dRng1, wp_dRng2, wp_dEnum, wp_dLc, wpS_nx, wpS_rt, wpS_bk, wpS_ct, wpS_exc, wpS_bad, wpS_ite, wpS_dSeq, wpS_dNx, wpS_dBk, wpS_dCt, wpS_dDrop, wpS_dRet, wpS_dRetN, wpS_dIf, wpS_dSet, wpS_dAsg, wpS_dPar, wpS_dPar3, wpS_dSet2, wpS_dPut, wpS_dRaise, wpS_dFor, wp_dfn, wO_some, wO_none, wO_map, wO_bind, wO_ite, List.map_cons, List.map_nil, List.replicate_succ, List.replicate_zero, List.cons_append, List.nil_append, Nat.reduceSub, Nat.reduceAdd, List.getElem?_cons_zero, List.getElem?_cons_succ, List.set_cons_zero, List.set_cons_succ, List.length_cons, List.length_nil, tgN, tgNil, tgCons, tgTup, wipeE, isT, String.reduceBEq, Bool.and_false, Bool.false_and, Bool.true_and, Bool.and_true, Bool.or_false, Bool.false_or, Bool.true_or, Bool.or_true, Bool.not_true, Bool.not_false, if_true, if_false, true_and, and_true, Bool.false_eq_true, Bool.true_eq_false, reduceIte, opEq_int, opNe_int, opEq_str, opNe_str, opAdd_int, opSub_int, opMod_pos, opLt_int, opLe_int, opGt_int, opGe_int, opLt_str, opLe_str, opIsN_ref, opIsN_non, opIsN_int, opIsN_tup, opIsN_str, opIsN_bl, opEq_bl, opNe_bl, opFdiv_int, opMul_int, opPow_int, atI_0, atI_1, atI_2, opIx_ref, opIx_tup, opIx_rl, opLen_tup, opLen_str, opLen_rl, opMax2_int, opMin2_int, opInt_int, opInt_bl, tyN_non, tyN_bl, tyN_int, tyN_str, tyN_tup, tyN_rl, truthW_bl, srcW_tup, srcW_rl]
  refine is_day_spec ?_
  simp only [wp_ok, wp_exc, wp_ret, wp_badM, wp_lift, wp_chk, wp_alloc, wp_grd, wp_tgt, wp_noXe, wp_dVar, wp_dC, wp_aNil, wp_aCons, wp_dTup, wp_dLst, wp_dOp, wp_dUn, wp_dFn, wB_bl, wp_dChain, wp_dTru, wp_dBool, wp_dNot, wp_dAnd, wp_dOr, wp_dAndV, wp_dOrV, wp_dNotV, wp_dIfE, wp_dYes, wp_dCall, wp_dCallK, wp_dIsi, wp_dIsi2, wp_dMt, wp_oN, wI_int, wp_oS, wp_dSl, wp_dSrc, wp_dZip, wp_dRng1, wp_dRng2, wp_dEnum, wp_dLc, wpS_nx, wpS_rt, wpS_bk, wpS_ct, wpS_exc, wpS_bad, wpS_ite, wpS_dSeq, wpS_dNx, wpS_dBk, wpS_dCt, wpS_dDrop, wpS_dRet, wpS_dRetN, wpS_dIf, wpS_dSet, wpS_dAsg, wpS_dPar, wpS_dPar3, wpS_dSet2, wpS_dPut, wpS_dRaise, wpS_dFor, wp_dfn, wO_some, wO_none, wO_map, wO_bind, wO_ite, List.map_cons, List.map_nil, List.replicate_succ, List.replicate_zero, List.cons_append, List.nil_append, Nat.reduceSub, Nat.reduceAdd, List.getElem?_cons_zero, List.getElem?_cons_succ, List.set_cons_zero, List.set_cons_succ, List.length_cons, List.length_nil, tgN, tgNil, tgCons, tgTup, wipeE, isT, String.reduceBEq, Bool.and_false, Bool.false_and, Bool.true_and, Bool.and_true, Bool.or_false, Bool.false_or, Bool.true_or, Bool.or_true, Bool.not_true, Bool.not_false, if_true, if_false, true_and, and_true, Bool.false_eq_true, Bool.true_eq_false, reduceIte, opEq_int, opNe_int, opEq_str, opNe_str, opAdd_int, opSub_int, opMod_pos, opLt_int, opLe_int, opGt_int, opGe_int, opLt_str, opLe_str, opIsN_ref, opIsN_non, opIsN_int, opIsN_tup, opIsN_str, opIsN_bl, opEq_bl, opNe_bl, opFdiv_int, opMul_int, opPow_int, atI_0, atI_1, atI_2, opIx_ref, opIx_tup, opIx_rl, opLen_tup, opLen_str, opLen_rl, opMax2_int, opMin2_int, opInt_int, opInt_bl, tyN_non, tyN_bl, tyN_int, tyN_str, tyN_tup, tyN_rl, truthW_bl, srcW_tup, srcW_rl]
  refine is_day_spec ?_
  simp only [wp_ok, wp_exc, wp_ret, wp_badM, wp_lift, wp_chk, wp_alloc, wp_grd, wp_tgt, wp_noXe, wp_dVar, wp_dC, wp_aNil, wp_aCons, wp_dTup, wp_dLst, wp_dOp, wp_dUn, wp_dFn, wB_bl, wp_dChain, wp_dTru, wp_dBool, wp_dNot, wp_dAnd, wp_dOr, wp_dAndV, wp_dOrV, wp_dNotV, wp_dIfE, wp_dYes, wp_dCall, wp_dCallK, wp_dIsi, wp_dIsi2, wp_dMt, wp_oN, wI_int, wp_oS, wp_dSl, wp_dSrc, wp_dZip, wp_dRng1, wp_dRng2, wp_dEnum, wp_dLc, wpS_nx, wpS_rt, wpS_bk, wpS_ct, wpS_exc, wpS_bad, wpS_ite, wpS_dSeq, wpS_dNx, wpS_dBk, wpS_dCt, wpS_dDrop, wpS_dRet, wpS_dRetN, wpS_dIf, wpS_dSet, wpS_dAsg, wpS_dPar, wpS_dPar3, wpS_dSet2, wpS_dPut, wpS_dRaise, wpS_dFor, wp_dfn, wO_some, wO_none, wO_map, wO_bind, wO_ite, List.map_cons, List.map_nil, List.replicate_succ, List.replicate_zero, List.cons_append, List.nil_append, Nat.reduceSub, Nat.reduceAdd, List.getElem?_cons_zero, List.getElem?_cons_succ, List.set_cons_zero, List.set_cons_succ, List.length_cons, List.length_nil, tgN, tgNil, tgCons, tgTup, wipeE, isT, String.reduceBEq, Bool.and_false, Bool.false_and, Bool.true_and, Bool.and_true, Bool.or_false, Bool.false_or, Bool.true_or, Bool.or_true, Bool.not_true, Bool.not_false, if_true, if_false, true_and, and_true, Bool.false_eq_true, Bool.true_eq_false, reduceIte, opEq_int, opNe_int, opEq_str, opNe_str, opAdd_int, opSub_int, opMod_pos, opLt_int, opLe_int, opGt_int, opGe_int, opLt_str, opLe_str, opIsN_ref, opIsN_non, opIsN_int, opIsN_tup, opIsN_str, opIsN_bl, opEq_bl, opNe_bl, opFdiv_int, opMul_int, opPow_int, atI_0, atI_1, atI_2, opIx_ref, opIx_tup, opIx_rl, opLen_tup, opLen_str, opLen_rl, opMax2_int, opMin2_int, opInt_int, opInt_bl, tyN_non, tyN_bl, tyN_int, tyN_str, tyN_tup, tyN_rl, truthW_bl, srcW_tup, srcW_rl, decide_eq_true h.le]
  exact f
theorem require_log_spec {x4 n : Nat} {es : List Ent} {S : Store} {E : Ex → Store → Prop} (g : S[n]? = some (.lst (es.map eW))) (hl : es.length ≤ 1000) (h : ∀ e ∈ es, GoodE e) : wp (n_require_log x4 [.ref n] S) (fun r S' => Fr 0 S S') E := by
  unfold n_require_log d_require_log
  simp only [wp_ok, wp_exc, wp_ret, wp_badM, wp_lift, wp_chk, wp_alloc, wp_grd, wp_tgt, wp_noXe, wp_dVar, wp_dC, wp_aNil, wp_aCons, wp_dTup, wp_dLst, wp_dOp, wp_dUn, wp_dFn, wB_bl, wp_dChain, wp_dTru, wp_dBool, wp_dNot, wp_dAnd, wp_dOr, wp_dAndV, wp_dOrV, wp_dNotV, wp_dIfE, wp_dYes, wp_dCall, wp_dCallK, wp_dIsi, wp_dIsi2, wp_dMt, wp_oN, wI_int, wp_oS, wp_dSl, wp_dSrc, wp_dZip, wp_dRng1, wp_dRng2, wp_dEnum, wp_dLc, wpS_nx, wpS_rt, wpS_bk, wpS_ct, wpS_exc, wpS_bad, wpS_ite, wpS_dSeq, wpS_dNx, wpS_dBk, wpS_dCt, wpS_dDrop, wpS_dRet, wpS_dRetN, wpS_dIf, wpS_dSet, wpS_dAsg, wpS_dPar, wpS_dPar3, wpS_dSet2, wpS_dPut, wpS_dRaise, wpS_dFor, wp_dfn, wO_some, wO_none, wO_map, wO_bind, wO_ite, List.map_cons, List.map_nil, List.replicate_succ, List.replicate_zero, List.cons_append, List.nil_append, Nat.reduceSub, Nat.reduceAdd, List.getElem?_cons_zero, List.getElem?_cons_succ, List.set_cons_zero, List.set_cons_succ, List.length_cons, List.length_nil, tgN, tgNil, tgCons, tgTup, wipeE, isT, String.reduceBEq, Bool.and_false, Bool.false_and, Bool.true_and, Bool.and_true, Bool.or_false, Bool.false_or, Bool.true_or, Bool.or_true, Bool.not_true, Bool.not_false, if_true, if_false, true_and, and_true, Bool.false_eq_true, Bool.true_eq_false, reduceIte, opEq_int, opNe_int, opEq_str, opNe_str, opAdd_int, opSub_int, opMod_pos, opLt_int, opLe_int, opGt_int, opGe_int, opLt_str, opLe_str, opIsN_ref, opIsN_non, opIsN_int, opIsN_tup, opIsN_str, opIsN_bl, opEq_bl, opNe_bl, opFdiv_int, opMul_int, opPow_int, atI_0, atI_1, atI_2, opIx_ref, opIx_tup, opIx_rl, opLen_tup, opLen_str, opLen_rl, opMax2_int, opMin2_int, opInt_int, opInt_bl, tyN_non, tyN_bl, tyN_int, tyN_str, tyN_tup, tyN_rl, truthW_bl, srcW_tup, srcW_rl, tyN_ref g, srcW_ref g, List.length_map, lenOk_of (show es.length ≤ 1000000 by omega)]
  refine wp_mono (wp_lcF (f := fun _ => W.bl true) (fun S' => Fr 0 S S') Fr.refl (fun S' f => f.g0 g) ?_) ?_ (fun _ _ q => q)
  · intro i c S' e f
    simp only [wp_ok, wp_exc, wp_ret, wp_badM, wp_lift, wp_chk, wp_alloc, wp_grd, wp_tgt, wp_noXe, wp_dVar, wp_dC, wp_aNil, wp_aCons, wp_dTup, wp_dLst, wp_dOp, wp_dUn, wp_dFn, wB_bl, wp_dChain, wp_dTru, wp_dBool, wp_dNot, wp_dAnd, wp_dOr, wp_dAndV, wp_dOrV, wp_dNotV, wp_dIfE, wp_dYes, wp_dCall, wp_dCallK, wp_dIsi, wp_dIsi2, wp_dMt, wp_oN, wI_int, wp_oS, wp_dSl, wp_dSrc, wp_dZip, wp_dRng1, wp_dRng2, wp_dEnum, wp_dLc, wpS_nx, wpS_rt, wpS_bk, wpS_ct, wpS_exc, wpS_bad, wpS_ite, wpS_dSeq, wpS_dNx, wpS_dBk, wpS_dCt, wpS_dDrop, wpS_dRet, wpS_dRetN, wpS_dIf, wpS_dSet, wpS_dAsg, wpS_dPar, wpS_dPar3, wpS_dSet2, wpS_dPut, wpS_dRaise, wpS_dFor, wp_dfn, wO_some, wO_none, wO_map, wO_bind, wO_ite, List.map_cons, List.map_nil, List.replicate_succ, List.replicate_zero, List.cons_append, List.nil_append, Nat.reduceSub, Nat.reduceAdd, List.getElem?_cons_zero, List.getElem?_cons_succ, List.set_cons_zero, List.set_cons_succ, List.length_cons, List.length_nil, tgN, tgNil, tgCons, tgTup, wipeE, isT, String.reduceBEq, Bool.and_false, Bool.false_and, Bool.true_and, Bool.and_true, Bool.or_false, Bool.false_or, Bool.true_or, Bool.or_true, Bool.not_true, Bool.not_false, if_true, if_false, true_and, and_true, Bool.false_eq_true, Bool.true_eq_false, reduceIte, opEq_int, opNe_int, opEq_str, opNe_str, opAdd_int, opSub_int, opMod_pos, opLt_int, opLe_int, opGt_int, opGe_int, opLt_str, opLe_str, opIsN_ref, opIsN_non, opIsN_int, opIsN_tup, opIsN_str, opIsN_bl, opEq_bl, opNe_bl, opFdiv_int, opMul_int, opPow_int, atI_0, atI_1, atI_2, opIx_ref, opIx_tup, opIx_rl, opLen_tup, opLen_str, opLen_rl, opMax2_int, opMin2_int, opInt_int, opInt_bl, tyN_non, tyN_bl, tyN_int, tyN_str, tyN_tup, tyN_rl, truthW_bl, srcW_tup, srcW_rl]
    refine wp_mono (is_entry_spec (h c (List.mem_of_getElem? e))) ?_ (fun _ _ q => q)
    rintro r S2 ⟨rfl, f2⟩
    exact ⟨rfl, f.trans f2⟩
  · rintro ws S' ⟨rfl, f⟩
    have e : (S' ++ [O.lst (es.map fun _ => W.bl true)])[S'.length]? = some (.lst ((es.map fun _ => true).map W.bl)) := by
      rw [List.map_map]; exact get_new
    rw [opAll_ref e, wO_some, map_true fun _ _ => rfl]
    simp only [wp_ok, wp_exc, wp_ret, wp_badM, wp_lift, wp_chk, wp_alloc, wp_grd, wp_tgt, wp_noXe, wp_dVar, wp_dC, wp_aNil, wp_aCons, wp_dTup, wp_dLst, wp_dOp, wp_dUn, wp_dFn, wB_bl, wp_dChain, wp_dTru, wp_dBool, wp_dNot, wp_dAnd, wp_dOr, wp_dAndV, wp_dOrV, wp_dNotV, wp_dIfE, wp_dYes, wp_dCall, wp_dCallK, wp_dIsi, wp_dIsi2, wp_dMt, wp_oN, wI_int, wp_oS, wp_dSl, wp_dSrc, wp_dZip, wp_dRng1, wp_dRng2, wp_dEnum, wp_dLc, wpS_nx, wpS_rt, wpS_bk, wpS_ct, wpS_exc, wpS_bad, wpS_ite, wpS_dSeq, wpS_dNx, wpS_dBk, wpS_dCt, wpS_dDrop, wpS_dRet, wpS_dRetN, wpS_dIf, wpS_dSet, wpS_dAsg, wpS_dPar, wpS_dPar3, wpS_dSet2, wpS_dPut, wpS_dRaise, wpS_dFor, wp_dfn, wO_some, wO_none, wO_map, wO_bind, wO_ite, List.map_cons, List.map_nil, List.replicate_succ, List.replicate_zero, List.cons_append, List.nil_append, Nat.reduceSub, Nat.reduceAdd, List.getElem?_cons_zero, List.getElem?_cons_succ, List.set_cons_zero, List.set_cons_succ, List.length_cons, List.length_nil, tgN, tgNil, tgCons, tgTup, wipeE, isT, String.reduceBEq, Bool.and_false, Bool.false_and, Bool.true_and, Bool.and_true, Bool.or_false, Bool.false_or, Bool.true_or, Bool.or_true, Bool.not_true, Bool.not_false, if_true, if_false, true_and, and_true, Bool.false_eq_true, Bool.true_eq_false, reduceIte, opEq_int, opNe_int, opEq_str, opNe_str, opAdd_int, opSub_int, opMod_pos, opLt_int, opLe_int, opGt_int, opGe_int, opLt_str, opLe_str, opIsN_ref, opIsN_non, opIsN_int, opIsN_tup, opIsN_str, opIsN_bl, opEq_bl, opNe_bl, opFdiv_int, opMul_int, opPow_int, atI_0, atI_1, atI_2, opIx_ref, opIx_tup, opIx_rl, opLen_tup, opLen_str, opLen_rl, opMax2_int, opMin2_int, opInt_int, opInt_bl, tyN_non, tyN_bl, tyN_int, tyN_str, tyN_tup, tyN_rl, truthW_bl, srcW_tup, srcW_rl]
    exact f.snoc
def closes (e : Ent) (d : Int) : Bool := decide (e.2.1 ≤ d) && decide (d < e.2.2)
def clash (a b : Ent) : Bool := (a.1 == b.1) && (closes a b.2.2 || closes b a.2.2)
theorem closes_spec {e : Ent} {d : Int} {S : Store} {Q : W → Store → Prop} {E : Ex → Store → Prop} (h : Q (.bl (closes e d)) S) : wp (n_closes [eW e, .int d] S) Q E := by
  unfold n_closes d_closes
  simp only [wp_ok, wp_exc, wp_ret, wp_badM, wp_lift, wp_chk, wp_alloc, wp_grd, wp_tgt, wp_noXe, wp_dVar, wp_dC, wp_aNil, wp_aCons, wp_dTup, wp_dLst, wp_dOp, wp_dUn, wp_dFn, wB_bl, wp_dChain, wp_dTru, wp_dBool, wp_dNot, wp_dAnd, wp_dOr, wp_dAndV, wp_dOrV, wp_dNotV, wp_dIfE, wp_dYes, wp_dCall, wp_dCallK, wp_dIsi, wp_dIsi2, wp_dMt, wp_oN, wI_int, wp_oS, wp_dSl, wp_dSrc, wp_dZip, wp_dRng1, wp_dRng2, wp_dEnum, wp_dLc, wpS_nx, wpS_rt, wpS_bk, wpS_ct, wpS_exc, wpS_bad, wpS_ite, wpS_dSeq, wpS_dNx, wpS_dBk, wpS_dCt, wpS_dDrop, wpS_dRet, wpS_dRetN, wpS_dIf, wpS_dSet, wpS_dAsg, wpS_dPar, wpS_dPar3, wpS_dSet2, wpS_dPut, wpS_dRaise, wpS_dFor, wp_dfn, wO_some, wO_none, wO_map, wO_bind, wO_ite, List.map_cons, List.map_nil, List.replicate_succ, List.replicate_zero, List.cons_append, List.nil_append, Nat.reduceSub, Nat.reduceAdd, List.getElem?_cons_zero, List.getElem?_cons_succ, List.set_cons_zero, List.set_cons_succ, List.length_cons, List.length_nil, tgN, tgNil, tgCons, tgTup, wipeE, isT, String.reduceBEq, Bool.and_false, Bool.false_and, Bool.true_and, Bool.and_true, Bool.or_false, Bool.false_or, Bool.true_or, Bool.or_true, Bool.not_true, Bool.not_false, if_true, if_false, true_and, and_true, Bool.false_eq_true, Bool.true_eq_false, reduceIte, opEq_int, opNe_int, opEq_str, opNe_str, opAdd_int, opSub_int, opMod_pos, opLt_int, opLe_int, opGt_int, opGe_int, opLt_str, opLe_str, opIsN_ref, opIsN_non, opIsN_int, opIsN_tup, opIsN_str, opIsN_bl, opEq_bl, opNe_bl, opFdiv_int, opMul_int, opPow_int, atI_0, atI_1, atI_2, opIx_ref, opIx_tup, opIx_rl, opLen_tup, opLen_str, opLen_rl, opMax2_int, opMin2_int, opInt_int, opInt_bl, tyN_non, tyN_bl, tyN_int, tyN_str, tyN_tup, tyN_rl, truthW_bl, srcW_tup, srcW_rl]
  unfold closes at h
  cases h1 : decide (e.2.1 ≤ d) <;> rw [h1] at h <;> simpa using h
theorem do_clash_spec {a b : Ent} {S : Store} {Q : W → Store → Prop} {E : Ex → Store → Prop} (h : Q (.bl (clash a b)) S) : wp (n_do_clash [eW a, eW b] S) Q E := by
  unfold n_do_clash d_do_clash
  simp only [wp_ok, wp_exc, wp_ret, wp_badM, wp_lift, wp_chk, wp_alloc, wp_grd, wp_tgt, wp_noXe, wp_dVar, wp_dC, wp_aNil, wp_aCons, wp_dTup, wp_dLst, wp_dOp, wp_dUn, wp_dFn, wB_bl, wp_dChain, wp_dTru, wp_dBool, wp_dNot, wp_dAnd, wp_dOr, wp_dAndV, wp_dOrV, wp_dNotV, wp_dIfE, wp_dYes, wp_dCall, wp_dCallK, wp_dIsi, wp_dIsi2, wp_dMt, wp_oN, wI_int, wp_oS, wp_dSl, wp_dSrc, wp_dZip, wp_dRng1, wp_dRng2, wp_dEnum, wp_dLc, wpS_nx, wpS_rt, wpS_bk, wpS_ct, wpS_exc, wpS_bad, wpS_ite, wpS_dSeq, wpS_dNx, wpS_dBk, wpS_dCt, wpS_dDrop, wpS_dRet, wpS_dRetN, wpS_dIf, wpS_dSet, wpS_dAsg, wpS_dPar, wpS_dPar3, wpS_dSet2, wpS_dPut, wpS_dRaise, wpS_dFor, wp_dfn, wO_some, wO_none, wO_map, wO_bind, wO_ite, List.map_cons, List.map_nil, List.replicate_succ, List.replicate_zero, List.cons_append, List.nil_append, Nat.reduceSub, Nat.reduceAdd, List.getElem?_cons_zero, List.getElem?_cons_succ, List.set_cons_zero, List.set_cons_succ, List.length_cons, List.length_nil, tgN, tgNil, tgCons, tgTup, wipeE, isT, String.reduceBEq, Bool.and_false, Bool.false_and, Bool.true_and, Bool.and_true, Bool.or_false, Bool.false_or, Bool.true_or, Bool.or_true, Bool.not_true, Bool.not_false, if_true, if_false, true_and, and_true, Bool.false_eq_true, Bool.true_eq_false, reduceIte, opEq_int, opNe_int, opEq_str, opNe_str, opAdd_int, opSub_int, opMod_pos, opLt_int, opLe_int, opGt_int, opGe_int, opLt_str, opLe_str, opIsN_ref, opIsN_non, opIsN_int, opIsN_tup, opIsN_str, opIsN_bl, opEq_bl, opNe_bl, opFdiv_int, opMul_int, opPow_int, atI_0, atI_1, atI_2, opIx_ref, opIx_tup, opIx_rl, opLen_tup, opLen_str, opLen_rl, opMax2_int, opMin2_int, opInt_int, opInt_bl, tyN_non, tyN_bl, tyN_int, tyN_str, tyN_tup, tyN_rl, truthW_bl, srcW_tup, srcW_rl]
  unfold clash at h
  cases h1 : (a.1 == b.1) <;> rw [h1] at h
  · simpa using h
  · rw [if_pos rfl]
    refine closes_spec ?_
    rw [wB_bl]
    cases h2 : closes a b.2.2 <;> rw [h2] at h
    · refine closes_spec ?_
      simpa using h
    · simpa using h

/-- the first pair that clashes -/
def pair (es : List Ent) (two one : Nat) : Option W := match es[one]?, es[two]? with
  | some a, some b => if clash a b = true then some (.tup [.int one, .int two]) else none
  | _, _ => none
def found (es : List Ent) : W := (fstN (fun two => fstN (pair es two) two) es.length).getD .non
theorem enumL_at {ws : List W} {i : Nat} {w : W} (e : (enumL ws)[i]? = some w) : ∃ u, ws[i]? = some u ∧ w = .tup [.int i, u] := by
  unfold enumL at e
  rw [List.getElem?_zipWith] at e
  cases z : ws[i]? with
  | none => rw [z] at e; simp at e
  | some u =>
    have lt := (List.getElem?_eq_some_iff.mp z).1
    rw [z, List.getElem?_range lt] at e
    simp at e
    exact ⟨u, rfl, e.symm⟩
theorem enumL_length {ws : List W} : (enumL ws).length = ws.length := by simp [enumL]
theorem clash_in_spec {n : Nat} {es : List Ent} {S : Store} {E : Ex → Store → Prop} (g : S[n]? = some (.lst (es.map eW))) (hl : es.length ≤ 1000) : wp (n_clash_in [.ref n] S) (fun r S' => r = found es ∧ Fr 0 S S') E := by
  unfold n_clash_in d_clash_in
  simp only [wp_ok, wp_exc, wp_ret, wp_badM, wp_lift, wp_chk, wp_alloc, wp_grd, wp_tgt, wp_noXe, wp_dVar, wp_dC, wp_aNil, wp_aCons, wp_dTup, wp_dLst, wp_dOp, wp_dUn, wp_dFn, wB_bl, wp_dChain, wp_dTru, wp_dBool, wp_dNot, wp_dAnd, wp_dOr, wp_dAndV, wp_dOrV, wp_dNotV, wp_dIfE, wp_dYes, wp_dCall, wp_dCallK, wp_dIsi, wp_dIsi2, wp_dMt, wp_oN, wI_int, wp_oS, wp_dSl, wp_dSrc, wp_dZip, wp_dRng1, wp_dRng2, wp_dEnum, wp_dLc, wpS_nx, wpS_rt, wpS_bk, wpS_ct, wpS_exc, wpS_bad, wpS_ite, wpS_dSeq, wpS_dNx, wpS_dBk, wpS_dCt, wpS_dDrop, wpS_dRet, wpS_dRetN, wpS_dIf, wpS_dSet, wpS_dAsg, wpS_dPar, wpS_dPar3, wpS_dSet2, wpS_dPut, wpS_dRaise, wpS_dFor, wp_dfn, wO_some, wO_none, wO_map, wO_bind, wO_ite, List.map_cons, List.map_nil, List.replicate_succ, List.replicate_zero, List.cons_append, List.nil_append, Nat.reduceSub, Nat.reduceAdd, List.getElem?_cons_zero, List.getElem?_cons_succ, List.set_cons_zero, List.set_cons_succ, List.length_cons, List.length_nil, tgN, tgNil, tgCons, tgTup, wipeE, isT, String.reduceBEq, Bool.and_false, Bool.false_and, Bool.true_and, Bool.and_true, Bool.or_false, Bool.false_or, Bool.true_or, Bool.or_true, Bool.not_true, Bool.not_false, if_true, if_false, true_and, and_true, Bool.false_eq_true, Bool.true_eq_false, reduceIte, opEq_int, opNe_int, opEq_str, opNe_str, opAdd_int, opSub_int, opMod_pos, opLt_int, opLe_int, opGt_int, opGe_int, opLt_str, opLe_str, opIsN_ref, opIsN_non, opIsN_int, opIsN_tup, opIsN_str, opIsN_bl, opEq_bl, opNe_bl, opFdiv_int, opMul_int, opPow_int, atI_0, atI_1, atI_2, opIx_ref, opIx_tup, opIx_rl, opLen_tup, opLen_str, opLen_rl, opMax2_int, opMin2_int, opInt_int, opInt_bl, tyN_non, tyN_bl, tyN_int, tyN_str, tyN_tup, tyN_rl, truthW_bl, srcW_tup, srcW_rl]
  refine ⟨n, es.map eW, rfl, g, ?_⟩
  refine wpS_forFind (fun two => fstN (pair es two) two) (fun ε S' => (∃ a b c d, ε = [some (.ref n), a, b, c, d]) ∧ Fr 0 S S') ⟨⟨_, _, _, _, rfl⟩, Fr.refl⟩ (fun ε S' h => h.2.g0 g) ?_ ?_
  · rintro two x ε S1 e ⟨⟨a, b, c, d, rfl⟩, f⟩
    obtain ⟨u, e1, rfl⟩ := enumL_at e
    rw [List.getElem?_map, Option.map_eq_some_iff] at e1
    obtain ⟨e2, h2, rfl⟩ := e1
    have g1 := f.g0 g
    have lt := (List.getElem?_eq_some_iff.mp h2).1
    have hc : cutL (es.map eW) none (some (two : Int)) = (es.take two).map eW := by
      unfold cutL
      rw [HT.sIx_none, HT.sIx_nat, List.drop_zero, List.length_map, Nat.min_eq_left (by omega), List.map_take, Nat.sub_zero]
    simp only [wp_ok, wp_exc, wp_ret, wp_badM, wp_lift, wp_chk, wp_alloc, wp_grd, wp_tgt, wp_noXe, wp_dVar, wp_dC, wp_aNil, wp_aCons, wp_dTup, wp_dLst, wp_dOp, wp_dUn, wp_dFn, wB_bl, wp_dChain, wp_dTru, wp_dBool, wp_dNot, wp_dAnd, wp_dOr, wp_dAndV, wp_dOrV, wp_dNotV, wp_dIfE, wp_dYes, wp_dCall, wp_dCallK, wp_dIsi, wp_dIsi2, wp_dMt, wp_oN, wI_int, wp_oS, wp_dSl, wp_dSrc, wp_dZip, wp_dRng1, wp_dRng2, wp_dEnum, wp_dLc, wpS_nx, wpS_rt, wpS_bk, wpS_ct, wpS_exc, wpS_bad, wpS_ite, wpS_dSeq, wpS_dNx, wpS_dBk, wpS_dCt, wpS_dDrop, wpS_dRet, wpS_dRetN, wpS_dIf, wpS_dSet, wpS_dAsg, wpS_dPar, wpS_dPar3, wpS_dSet2, wpS_dPut, wpS_dRaise, wpS_dFor, wp_dfn, wO_some, wO_none, wO_map, wO_bind, wO_ite, List.map_cons, List.map_nil, List.replicate_succ, List.replicate_zero, List.cons_append, List.nil_append, Nat.reduceSub, Nat.reduceAdd, List.getElem?_cons_zero, List.getElem?_cons_succ, List.set_cons_zero, List.set_cons_succ, List.length_cons, List.length_nil, tgN, tgNil, tgCons, tgTup, wipeE, isT, String.reduceBEq, Bool.and_false, Bool.false_and, Bool.true_and, Bool.and_true, Bool.or_false, Bool.false_or, Bool.true_or, Bool.or_true, Bool.not_true, Bool.not_false, if_true, if_false, true_and, and_true, Bool.false_eq_true, Bool.true_eq_false, reduceIte, opEq_int, opNe_int, opEq_str, opNe_str, opAdd_int, opSub_int, opMod_pos, opLt_int, opLe_int, opGt_int, opGe_int, opLt_str, opLe_str, opIsN_ref, opIsN_non, opIsN_int, opIsN_tup, opIsN_str, opIsN_bl, opEq_bl, opNe_bl, opFdiv_int, opMul_int, opPow_int, atI_0, atI_1, atI_2, opIx_ref, opIx_tup, opIx_rl, opLen_tup, opLen_str, opLen_rl, opMax2_int, opMin2_int, opInt_int, opInt_bl, tyN_non, tyN_bl, tyN_int, tyN_str, tyN_tup, tyN_rl, truthW_bl, srcW_tup, srcW_rl, opSl, listW_ref g1, hc]
    refine ⟨S1.length, (es.take two).map eW, rfl, get_new, ?_⟩
    refine wpS_forFind (pair es two) (fun ε S' => (∃ c d, ε = [some (.ref n), some (.int two), some (eW e2), c, d]) ∧ Fr 0 (S1 ++ [O.lst ((es.take two).map eW)]) S') ⟨⟨_, _, rfl⟩, Fr.refl⟩ (fun ε S' h => h.2.g0 get_new) ?_ ?_
    · rintro one x ε S2 e' ⟨⟨c, d, rfl⟩, f2⟩
      obtain ⟨u, e1', rfl⟩ := enumL_at e'
      rw [List.getElem?_map, Option.map_eq_some_iff] at e1'
      obtain ⟨e3, h3, rfl⟩ := e1'
      have lt3 : one < two := by
        have := (List.getElem?_eq_some_iff.mp h3).1
        simp at this; omega
      rw [List.getElem?_take_of_lt lt3] at h3
      simp only [wp_ok, wp_exc, wp_ret, wp_badM, wp_lift, wp_chk, wp_alloc, wp_grd, wp_tgt, wp_noXe, wp_dVar, wp_dC, wp_aNil, wp_aCons, wp_dTup, wp_dLst, wp_dOp, wp_dUn, wp_dFn, wB_bl, wp_dChain, wp_dTru, wp_dBool, wp_dNot, wp_dAnd, wp_dOr, wp_dAndV, wp_dOrV, wp_dNotV, wp_dIfE, wp_dYes, wp_dCall, wp_dCallK, wp_dIsi, wp_dIsi2, wp_dMt, wp_oN, wI_int, wp_oS, wp_dSl, wp_dSrc, wp_dZip, wp_dRng1, wp_dRng2, wp_dEnum, wp_dLc, wpS_nx, wpS_rt, wpS_bk, wpS_ct, wpS_exc, wpS_bad, wpS_ite, wpS_dSeq, wpS_dNx, wpS_dBk, wpS_dCt, wpS_dDrop, wpS_dRet, wpS_dRetN, wpS_dIf, wpS_dSet, wpS_dAsg, wpS_dPar, wpS_dPar3, wpS_dSet2, wpS_dPut, wpS_dRaise, wpS_dFor, wp_dfn, wO_some, wO_none, wO_map, wO_bind, wO_ite, List.map_cons, List.map_nil, List.replicate_succ, List.replicate_zero, List.cons_append, List.nil_append, Nat.reduceSub, Nat.reduceAdd, List.getElem?_cons_zero, List.getElem?_cons_succ, List.set_cons_zero, List.set_cons_succ, List.length_cons, List.length_nil, tgN, tgNil, tgCons, tgTup, wipeE, isT, String.reduceBEq, Bool.and_false, Bool.false_and, Bool.true_and, Bool.and_true, Bool.or_false, Bool.false_or, Bool.true_or, Bool.or_true, Bool.not_true, Bool.not_false, if_true, if_false, true_and, and_true, Bool.false_eq_true, Bool.true_eq_false, reduceIte, opEq_int, opNe_int, opEq_str, opNe_str, opAdd_int, opSub_int, opMod_pos, opLt_int, opLe_int, opGt_int, opGe_int, opLt_str, opLe_str, opIsN_ref, opIsN_non, opIsN_int, opIsN_tup, opIsN_str, opIsN_bl, opEq_bl, opNe_bl, opFdiv_int, opMul_int, opPow_int, atI_0, atI_1, atI_2, opIx_ref, opIx_tup, opIx_rl, opLen_tup, opLen_str, opLen_rl, opMax2_int, opMin2_int, opInt_int, opInt_bl, tyN_non, tyN_bl, tyN_int, tyN_str, tyN_tup, tyN_rl, truthW_bl, srcW_tup, srcW_rl]
      refine do_clash_spec ?_
      have hp : pair es two one = if clash e3 e2 = true then some (.tup [.int one, .int two]) else none := by
        unfold pair
        rw [h3, h2]
      simp only [wp_ok, wp_exc, wp_ret, wp_badM, wp_lift, wp_chk, wp_alloc, wp_grd, wp_tgt, wp_noXe, wp_dVar, wp_dC, wp_aNil, wp_aCons, wp_dTup, wp_dLst, wp_dOp, wp_dUn, wp_dFn, wB_bl, wp_dChain, wp_dTru, wp_dBool, wp_dNot, wp_dAnd, wp_dOr, wp_dAndV, wp_dOrV, wp_dNotV, wp_dIfE, wp_dYes, wp_dCall, wp_dCallK, wp_dIsi, wp_dIsi2, wp_dMt, wp_oN, wI_int, wp_oS, wp_dSl, wp_dSrc, wp_dZip, wp_dRng1, wp_dRng2, wp_dEnum, wp_dLc, wpS_nx, wpS_rt, wpS_bk, wpS_ct, wpS_exc, wpS_bad, wpS_ite, wpS_dSeq, wpS_dNx, wpS_dBk, wpS_dCt, wpS_dDrop, wpS_dRet, wpS_dRetN, wpS_dIf, wpS_dSet, wpS_dAsg, wpS_dPar, wpS_dPar3, wpS_dSet2, wpS_dPut, wpS_dRaise, wpS_dFor, wp_dfn, wO_some, wO_none, wO_map, wO_bind, wO_ite, List.map_cons, List.map_nil, List.replicate_succ, List.replicate_zero, List.cons_append, List.nil_append, Nat.reduceSub, Nat.reduceAdd, List.getElem?_cons_zero, List.getElem?_cons_succ, List.set_cons_zero, List.set_cons_succ, List.length_cons, List.length_nil, tgN, tgNil, tgCons, tgTup, wipeE, isT, String.reduceBEq, Bool.and_false, Bool.false_and, Bool.true_and, Bool.and_true, Bool.or_false, Bool.false_or, Bool.true_or, Bool.or_true, Bool.not_true, Bool.not_false, if_true, if_false, true_and, and_true, Bool.false_eq_true, Bool.true_eq_false, reduceIte, opEq_int, opNe_int, opEq_str, opNe_str, opAdd_int, opSub_int, opMod_pos, opLt_int, opLe_int, opGt_int, opGe_int, opLt_str, opLe_str, opIsN_ref, opIsN_non, opIsN_int, opIsN_tup, opIsN_str, opIsN_bl, opEq_bl, opNe_bl, opFdiv_int, opMul_int, opPow_int, atI_0, atI_1, atI_2, opIx_ref, opIx_tup, opIx_rl, opLen_tup, opLen_str, opLen_rl, opMax2_int, opMin2_int, opInt_int, opInt_bl, tyN_non, tyN_bl, tyN_int, tyN_str, tyN_tup, tyN_rl, truthW_bl, srcW_tup, srcW_rl]
      rw [hp]
      have l1 : (enumL (List.map eW (List.take two es))).length = two := by rw [enumL_length, List.length_map, List.length_take]; omega
      have l2 : (enumL (List.map eW es)).length = es.length := by rw [enumL_length, List.length_map]
      split
      · refine ⟨lenOk_of (by decide), rfl, fun q => ⟨by rw [l1] at q; exact q, fun q2 => ⟨?_, f.trans (Fr.app.trans f2)⟩⟩⟩
        rw [l2] at q2
        unfold found
        rw [q2]; rfl
      · exact ⟨rfl, ⟨_, _, rfl⟩, f2⟩
    · rintro ε S2 q ⟨⟨c, d, rfl⟩, f2⟩
      have l1 : (enumL (List.map eW (List.take two es))).length = two := by rw [enumL_length, List.length_map, List.length_take]; omega
      rw [l1] at q
      exact ⟨q, ⟨_, _, _, _, rfl⟩, f.trans (Fr.app.trans f2)⟩
  · rintro ε S2 q ⟨⟨a, b, c, d, rfl⟩, f2⟩
    have l2 : (enumL (List.map eW es)).length = es.length := by rw [enumL_length, List.length_map]
    rw [l2] at q
    simp only [wp_ok, wp_exc, wp_ret, wp_badM, wp_lift, wp_chk, wp_alloc, wp_grd, wp_tgt, wp_noXe, wp_dVar, wp_dC, wp_aNil, wp_aCons, wp_dTup, wp_dLst, wp_dOp, wp_dUn, wp_dFn, wB_bl, wp_dChain, wp_dTru, wp_dBool, wp_dNot, wp_dAnd, wp_dOr, wp_dAndV, wp_dOrV, wp_dNotV, wp_dIfE, wp_dYes, wp_dCall, wp_dCallK, wp_dIsi, wp_dIsi2, wp_dMt, wp_oN, wI_int, wp_oS, wp_dSl, wp_dSrc, wp_dZip, wp_dRng1, wp_dRng2, wp_dEnum, wp_dLc, wpS_nx, wpS_rt, wpS_bk, wpS_ct, wpS_exc, wpS_bad, wpS_ite, wpS_dSeq, wpS_dNx, wpS_dBk, wpS_dCt, wpS_dDrop, wpS_dRet, wpS_dRetN, wpS_dIf, wpS_dSet, wpS_dAsg, wpS_dPar, wpS_dPar3, wpS_dSet2, wpS_dPut, wpS_dRaise, wpS_dFor, wp_dfn, wO_some, wO_none, wO_map, wO_bind, wO_ite, List.map_cons, List.map_nil, List.replicate_succ, List.replicate_zero, List.cons_append, List.nil_append, Nat.reduceSub, Nat.reduceAdd, List.getElem?_cons_zero, List.getElem?_cons_succ, List.set_cons_zero, List.set_cons_succ, List.length_cons, List.length_nil, tgN, tgNil, tgCons, tgTup, wipeE, isT, String.reduceBEq, Bool.and_false, Bool.false_and, Bool.true_and, Bool.and_true, Bool.or_false, Bool.false_or, Bool.true_or, Bool.or_true, Bool.not_true, Bool.not_false, if_true, if_false, true_and, and_true, Bool.false_eq_true, Bool.true_eq_false, reduceIte, opEq_int, opNe_int, opEq_str, opNe_str, opAdd_int, opSub_int, opMod_pos, opLt_int, opLe_int, opGt_int, opGe_int, opLt_str, opLe_str, opIsN_ref, opIsN_non, opIsN_int, opIsN_tup, opIsN_str, opIsN_bl, opEq_bl, opNe_bl, opFdiv_int, opMul_int, opPow_int, atI_0, atI_1, atI_2, opIx_ref, opIx_tup, opIx_rl, opLen_tup, opLen_str, opLen_rl, opMax2_int, opMin2_int, opInt_int, opInt_bl, tyN_non, tyN_bl, tyN_int, tyN_str, tyN_tup, tyN_rl, truthW_bl, srcW_tup, srcW_rl]
    unfold found
    rw [q]
    exact ⟨rfl, f2⟩
theorem find_clash_spec {x4 n : Nat} {es : List Ent} {S : Store} {E : Ex → Store → Prop} (g : S[n]? = some (.lst (es.map eW))) (hl : es.length ≤ 1000) (h : ∀ e ∈ es, GoodE e) : wp (n_find_clash x4 [.ref n] S) (fun r S' => r = found es ∧ Fr 0 S S') E := by
  unfold n_find_clash d_find_clash
  simp only [wp_ok, wp_exc, wp_ret, wp_badM, wp_lift, wp_chk, wp_alloc, wp_grd, wp_tgt, wp_noXe, wp_dVar, wp_dC, wp_aNil, wp_aCons, wp_dTup, wp_dLst, wp_dOp, wp_dUn, wp_dFn, wB_bl, wp_dChain, wp_dTru, wp_dBool, wp_dNot, wp_dAnd, wp_dOr, wp_dAndV, wp_dOrV, wp_dNotV, wp_dIfE, wp_dYes, wp_dCall, wp_dCallK, wp_dIsi, wp_dIsi2, wp_dMt, wp_oN, wI_int, wp_oS, wp_dSl, wp_dSrc, wp_dZip, wp_dRng1, wp_dRng2, wp_dEnum, wp_dLc, wpS_nx, wpS_rt, wpS_bk, wpS_ct, wpS_exc, wpS_bad, wpS_ite, wpS_dSeq, wpS_dNx, wpS_dBk, wpS_dCt, wpS_dDrop, wpS_dRet, wpS_dRetN, wpS_dIf, wpS_dSet, wpS_dAsg, wpS_dPar, wpS_dPar3, wpS_dSet2, wpS_dPut, wpS_dRaise, wpS_dFor, wp_dfn, wO_some, wO_none, wO_map, wO_bind, wO_ite, List.map_cons, List.map_nil, List.replicate_succ, List.replicate_zero, List.cons_append, List.nil_append, Nat.reduceSub, Nat.reduceAdd, List.getElem?_cons_zero, List.getElem?_cons_succ, List.set_cons_zero, List.set_cons_succ, List.length_cons, List.length_nil, tgN, tgNil, tgCons, tgTup, wipeE, isT, String.reduceBEq, Bool.and_false, Bool.false_and, Bool.true_and, Bool.and_true, Bool.or_false, Bool.false_or, Bool.true_or, Bool.or_true, Bool.not_true, Bool.not_false, if_true, if_false, true_and, and_true, Bool.false_eq_true, Bool.true_eq_false, reduceIte, opEq_int, opNe_int, opEq_str, opNe_str, opAdd_int, opSub_int, opMod_pos, opLt_int, opLe_int, opGt_int, opGe_int, opLt_str, opLe_str, opIsN_ref, opIsN_non, opIsN_int, opIsN_tup, opIsN_str, opIsN_bl, opEq_bl, opNe_bl, opFdiv_int, opMul_int, opPow_int, atI_0, atI_1, atI_2, opIx_ref, opIx_tup, opIx_rl, opLen_tup, opLen_str, opLen_rl, opMax2_int, opMin2_int, opInt_int, opInt_bl, tyN_non, tyN_bl, tyN_int, tyN_str, tyN_tup, tyN_rl, truthW_bl, srcW_tup, srcW_rl]
  refine wp_mono (require_log_spec g hl h) ?_ (fun _ _ q => q)
  intro r S' f
  refine wp_mono (clash_in_spec (f.g0 g) hl) ?_ (fun _ _ q => q)
  rintro r S2 ⟨rfl, f2⟩
  exact ⟨rfl, f.trans f2⟩
/-! ### the law's own -/
theorem law_closes_spec {e : Ent} {d : Int} {S : Store} {Q : W → Store → Prop} {E : Ex → Store → Prop} (h : Q (.bl (closes e d)) S) : wp (n_law_closes [eW e, .int d] S) Q E := closes_spec h
theorem rng_get {es : List Ent} {n : Nat} {x : W} {i : Nat} (e : (rngW 0 (n : Int).toNat)[i]? = some x) : i < n ∧ x = .int (i : Nat) := by
  obtain ⟨h, rfl⟩ := rngW_get e
  exact ⟨by simpa using h, by rw [Int.zero_add]⟩
theorem law_first_clash_spec {n : Nat} {es : List Ent} {S : Store} {E : Ex → Store → Prop} (g : S[n]? = some (.lst (es.map eW))) (hl : es.length ≤ 1000) : wp (n_law_first_clash [.ref n] S) (fun r S' => r = found es ∧ Fr 0 S S') E := by
  unfold n_law_first_clash d_law_first_clash
  simp only [wp_ok, wp_exc, wp_ret, wp_badM, wp_lift, wp_chk, wp_alloc, wp_grd, wp_tgt, wp_noXe, wp_dVar, wp_dC, wp_aNil, wp_aCons, wp_dTup, wp_dLst, wp_dOp, wp_dUn, wp_dFn, wB_bl, wp_dChain, wp_dTru, wp_dBool, wp_dNot, wp_dAnd, wp_dOr, wp_dAndV, wp_dOrV, wp_dNotV, wp_dIfE, wp_dYes, wp_dCall, wp_dCallK, wp_dIsi, wp_dIsi2, wp_dMt, wp_oN, wI_int, wp_oS, wp_dSl, wp_dSrc, wp_dZip, wp_dRng1, wp_dRng2, wp_dEnum, wp_dLc, wpS_nx, wpS_rt, wpS_bk, wpS_ct, wpS_exc, wpS_bad, wpS_ite, wpS_dSeq, wpS_dNx, wpS_dBk, wpS_dCt, wpS_dDrop, wpS_dRet, wpS_dRetN, wpS_dIf, wpS_dSet, wpS_dAsg, wpS_dPar, wpS_dPar3, wpS_dSet2, wpS_dPut, wpS_dRaise, wpS_dFor, wp_dfn, wO_some, wO_none, wO_map, wO_bind, wO_ite, List.map_cons, List.map_nil, List.replicate_succ, List.replicate_zero, List.cons_append, List.nil_append, Nat.reduceSub, Nat.reduceAdd, List.getElem?_cons_zero, List.getElem?_cons_succ, List.set_cons_zero, List.set_cons_succ, List.length_cons, List.length_nil, tgN, tgNil, tgCons, tgTup, wipeE, isT, String.reduceBEq, Bool.and_false, Bool.false_and, Bool.true_and, Bool.and_true, Bool.or_false, Bool.false_or, Bool.true_or, Bool.or_true, Bool.not_true, Bool.not_false, if_true, if_false, true_and, and_true, Bool.false_eq_true, Bool.true_eq_false, reduceIte, opEq_int, opNe_int, opEq_str, opNe_str, opAdd_int, opSub_int, opMod_pos, opLt_int, opLe_int, opGt_int, opGe_int, opLt_str, opLe_str, opIsN_ref, opIsN_non, opIsN_int, opIsN_tup, opIsN_str, opIsN_bl, opEq_bl, opNe_bl, opFdiv_int, opMul_int, opPow_int, atI_0, atI_1, atI_2, opIx_ref, opIx_tup, opIx_rl, opLen_tup, opLen_str, opLen_rl, opMax2_int, opMin2_int, opInt_int, opInt_bl, tyN_non, tyN_bl, tyN_int, tyN_str, tyN_tup, tyN_rl, truthW_bl, srcW_tup, srcW_rl, opLen_ref g, List.length_map]
  have hb : ∀ k : Nat, k ≤ 1000 → bnd (k : Int) = true := fun k hk => by unfold bnd; exact decide_eq_true (by omega)
  refine ⟨hb _ hl, ?_⟩
  refine wpS_forFind (fun two => fstN (pair es two) two) (fun ε S' => (∃ a b, ε = [some (.ref n), a, b]) ∧ S' = S) ⟨⟨_, _, rfl⟩, rfl⟩ (fun ε S' h => trivial) ?_ ?_
  · rintro two x ε S1 e ⟨⟨a, b, rfl⟩, rfl⟩
    obtain ⟨lt, rfl⟩ := rng_get (es := es) e
    simp only [wp_ok, wp_exc, wp_ret, wp_badM, wp_lift, wp_chk, wp_alloc, wp_grd, wp_tgt, wp_noXe, wp_dVar, wp_dC, wp_aNil, wp_aCons, wp_dTup, wp_dLst, wp_dOp, wp_dUn, wp_dFn, wB_bl, wp_dChain, wp_dTru, wp_dBool, wp_dNot, wp_dAnd, wp_dOr, wp_dAndV, wp_dOrV, wp_dNotV, wp_dIfE, wp_dYes, wp_dCall, wp_dCallK, wp_dIsi, wp_dIsi2, wp_dMt, wp_oN, wI_int, wp_oS, wp_dSl, wp_dSrc, wp_dZip, wp_dRng1, wp_dRng2, wp_dEnum, wp_dLc, wpS_nx, wpS_rt, wpS_bk, wpS_ct, wpS_exc, wpS_bad, wpS_ite, wpS_dSeq, wpS_dNx, wpS_dBk, wpS_dCt, wpS_dDrop, wpS_dRet, wpS_dRetN, wpS_dIf, wpS_dSet, wpS_dAsg, wpS_dPar, wpS_dPar3, wpS_dSet2, wpS_dPut, wpS_dRaise, wpS_dFor, wp_dfn, wO_some, wO_none, wO_map, wO_bind, wO_ite, List.map_cons, List.map_nil, List.replicate_succ, List.replicate_zero, List.cons_append, List.nil_append, Nat.reduceSub, Nat.reduceAdd, List.getElem?_cons_zero, List.getElem?_cons_succ, List.set_cons_zero, List.set_cons_succ, List.length_cons, List.length_nil, tgN, tgNil, tgCons, tgTup, wipeE, isT, String.reduceBEq, Bool.and_false, Bool.false_and, Bool.true_and, Bool.and_true, Bool.or_false, Bool.false_or, Bool.true_or, Bool.or_true, Bool.not_true, Bool.not_false, if_true, if_false, true_and, and_true, Bool.false_eq_true, Bool.true_eq_false, reduceIte, opEq_int, opNe_int, opEq_str, opNe_str, opAdd_int, opSub_int, opMod_pos, opLt_int, opLe_int, opGt_int, opGe_int, opLt_str, opLe_str, opIsN_ref, opIsN_non, opIsN_int, opIsN_tup, opIsN_str, opIsN_bl, opEq_bl, opNe_bl, opFdiv_int, opMul_int, opPow_int, atI_0, atI_1, atI_2, opIx_ref, opIx_tup, opIx_rl, opLen_tup, opLen_str, opLen_rl, opMax2_int, opMin2_int, opInt_int, opInt_bl, tyN_non, tyN_bl, tyN_int, tyN_str, tyN_tup, tyN_rl, truthW_bl, srcW_tup, srcW_rl]
    refine ⟨hb _ (by omega), ?_⟩
    refine wpS_forFind (pair es two) (fun ε S' => (∃ c, ε = [some (.ref n), some (.int two), c]) ∧ S' = S1) ⟨⟨_, rfl⟩, rfl⟩ (fun ε S' h => trivial) ?_ ?_
    · rintro one x ε S2 e' ⟨⟨c, rfl⟩, rfl⟩
      obtain ⟨lt3, rfl⟩ := rng_get (es := es) e'
      have h2 : es[two]? = some es[two] := List.getElem?_eq_getElem lt
      have h3 : es[one]? = some es[one] := List.getElem?_eq_getElem (by omega)
      generalize es[two] = e2 at h2
      generalize es[one] = e3 at h3
      have hp : pair es two one = if clash e3 e2 = true then some (.tup [.int one, .int two]) else none := by
        unfold pair
        rw [h3, h2]
      have l1 : (rngW 0 (two : Int).toNat).length = two := by rw [rngW_len]; omega
      have l2 : (rngW 0 (es.length : Int).toNat).length = es.length := by rw [rngW_len]; omega
      have fin : pair es two one = some (.tup [.int one, .int two]) → pair es two one = some (W.tup [W.int ↑one, W.int ↑two]) ∧
        (fstN (pair es two) (rngW 0 (two : Int).toNat).length = some (W.tup [W.int ↑one, W.int ↑two]) →
          fstN (pair es two) two = some (W.tup [W.int ↑one, W.int ↑two]) ∧
            (fstN (fun two => fstN (pair es two) two) (rngW 0 (es.length : Int).toNat).length =
                some (W.tup [W.int ↑one, W.int ↑two]) →
              W.tup [W.int ↑one, W.int ↑two] = found es ∧ Fr 0 S2 S2)) := fun q => ⟨q, fun q1 => ⟨by rw [l1] at q1; exact q1, fun q2 => by
                rw [l2] at q2
                unfold found
                rw [q2]
                exact ⟨rfl, Fr.refl⟩⟩⟩
      simp only [wp_ok, wp_exc, wp_ret, wp_badM, wp_lift, wp_chk, wp_alloc, wp_grd, wp_tgt, wp_noXe, wp_dVar, wp_dC, wp_aNil, wp_aCons, wp_dTup, wp_dLst, wp_dOp, wp_dUn, wp_dFn, wB_bl, wp_dChain, wp_dTru, wp_dBool, wp_dNot, wp_dAnd, wp_dOr, wp_dAndV, wp_dOrV, wp_dNotV, wp_dIfE, wp_dYes, wp_dCall, wp_dCallK, wp_dIsi, wp_dIsi2, wp_dMt, wp_oN, wI_int, wp_oS, wp_dSl, wp_dSrc, wp_dZip, wp_dRng1, wp_dRng2, wp_dEnum, wp_dLc, wpS_nx, wpS_rt, wpS_bk, wpS_ct, wpS_exc, wpS_bad, wpS_ite, wpS_dSeq, wpS_dNx, wpS_dBk, wpS_dCt, wpS_dDrop, wpS_dRet, wpS_dRetN, wpS_dIf, wpS_dSet, wpS_dAsg, wpS_dPar, wpS_dPar3, wpS_dSet2, wpS_dPut, wpS_dRaise, wpS_dFor, wp_dfn, wO_some, wO_none, wO_map, wO_bind, wO_ite, List.map_cons, List.map_nil, List.replicate_succ, List.replicate_zero, List.cons_append, List.nil_append, Nat.reduceSub, Nat.reduceAdd, List.getElem?_cons_zero, List.getElem?_cons_succ, List.set_cons_zero, List.set_cons_succ, List.length_cons, List.length_nil, tgN, tgNil, tgCons, tgTup, wipeE, isT, String.reduceBEq, Bool.and_false, Bool.false_and, Bool.true_and, Bool.and_true, Bool.or_false, Bool.false_or, Bool.true_or, Bool.or_true, Bool.not_true, Bool.not_false, if_true, if_false, true_and, and_true, Bool.false_eq_true, Bool.true_eq_false, reduceIte, opEq_int, opNe_int, opEq_str, opNe_str, opAdd_int, opSub_int, opMod_pos, opLt_int, opLe_int, opGt_int, opGe_int, opLt_str, opLe_str, opIsN_ref, opIsN_non, opIsN_int, opIsN_tup, opIsN_str, opIsN_bl, opEq_bl, opNe_bl, opFdiv_int, opMul_int, opPow_int, atI_0, atI_1, atI_2, opIx_ref, opIx_tup, opIx_rl, opLen_tup, opLen_str, opLen_rl, opMax2_int, opMin2_int, opInt_int, opInt_bl, tyN_non, tyN_bl, tyN_int, tyN_str, tyN_tup, tyN_rl, truthW_bl, srcW_tup, srcW_rl, lstAt_of g, atI_n, List.getElem?_map, h2, h3, Option.map_some]
      have no : (∃ c, [some (W.ref n), some (W.int ↑two), some (W.int ↑one)] = [some (W.ref n), some (W.int ↑two), c]) := ⟨_, rfl⟩
      cases h4 : (e3.1 == e2.1)
      · rw [if_neg (by decide)]
        refine ⟨?_, no⟩
        rw [hp]; unfold clash; rw [h4]; rfl
      · rw [if_pos rfl]
        refine law_closes_spec ?_
        simp only [wp_ok, wp_exc, wp_ret, wp_badM, wp_lift, wp_chk, wp_alloc, wp_grd, wp_tgt, wp_noXe, wp_dVar, wp_dC, wp_aNil, wp_aCons, wp_dTup, wp_dLst, wp_dOp, wp_dUn, wp_dFn, wB_bl, wp_dChain, wp_dTru, wp_dBool, wp_dNot, wp_dAnd, wp_dOr, wp_dAndV, wp_dOrV, wp_dNotV, wp_dIfE, wp_dYes, wp_dCall, wp_dCallK, wp_dIsi, wp_dIsi2, wp_dMt, wp_oN, wI_int, wp_oS, wp_dSl, wp_dSrc, wp_dZip, wp_dRng1, wp_dRng2, wp_dEnum, wp_dLc, wpS_nx, wpS_rt, wpS_bk, wpS_ct, wpS_exc, wpS_bad, wpS_ite, wpS_dSeq, wpS_dNx, wpS_dBk, wpS_dCt, wpS_dDrop, wpS_dRet, wpS_dRetN, wpS_dIf, wpS_dSet, wpS_dAsg, wpS_dPar, wpS_dPar3, wpS_dSet2, wpS_dPut, wpS_dRaise, wpS_dFor, wp_dfn, wO_some, wO_none, wO_map, wO_bind, wO_ite, List.map_cons, List.map_nil, List.replicate_succ, List.replicate_zero, List.cons_append, List.nil_append, Nat.reduceSub, Nat.reduceAdd, List.getElem?_cons_zero, List.getElem?_cons_succ, List.set_cons_zero, List.set_cons_succ, List.length_cons, List.length_nil, tgN, tgNil, tgCons, tgTup, wipeE, isT, String.reduceBEq, Bool.and_false, Bool.false_and, Bool.true_and, Bool.and_true, Bool.or_false, Bool.false_or, Bool.true_or, Bool.or_true, Bool.not_true, Bool.not_false, if_true, if_false, true_and, and_true, Bool.false_eq_true, Bool.true_eq_false, reduceIte, opEq_int, opNe_int, opEq_str, opNe_str, opAdd_int, opSub_int, opMod_pos, opLt_int, opLe_int, opGt_int, opGe_int, opLt_str, opLe_str, opIsN_ref, opIsN_non, opIsN_int, opIsN_tup, opIsN_str, opIsN_bl, opEq_bl, opNe_bl, opFdiv_int, opMul_int, opPow_int, atI_0, atI_1, atI_2, opIx_ref, opIx_tup, opIx_rl, opLen_tup, opLen_str, opLen_rl, opMax2_int, opMin2_int, opInt_int, opInt_bl, tyN_non, tyN_bl, tyN_int, tyN_str, tyN_tup, tyN_rl, truthW_bl, srcW_tup, srcW_rl]
        cases h5 : closes e3 e2.2.2
        · rw [if_neg (by decide)]
          simp only [wp_ok, wp_exc, wp_ret, wp_badM, wp_lift, wp_chk, wp_alloc, wp_grd, wp_tgt, wp_noXe, wp_dVar, wp_dC, wp_aNil, wp_aCons, wp_dTup, wp_dLst, wp_dOp, wp_dUn, wp_dFn, wB_bl, wp_dChain, wp_dTru, wp_dBool, wp_dNot, wp_dAnd, wp_dOr, wp_dAndV, wp_dOrV, wp_dNotV, wp_dIfE, wp_dYes, wp_dCall, wp_dCallK, wp_dIsi, wp_dIsi2, wp_dMt, wp_oN, wI_int, wp_oS, wp_dSl, wp_dSrc, wp_dZip, wp_dRng1, wp_dRng2, wp_dEnum, wp_dLc, wpS_nx, wpS_rt, wpS_bk, wpS_ct, wpS_exc, wpS_bad, wpS_ite, wpS_dSeq, wpS_dNx, wpS_dBk, wpS_dCt, wpS_dDrop, wpS_dRet, wpS_dRetN, wpS_dIf, wpS_dSet, wpS_dAsg, wpS_dPar, wpS_dPar3, wpS_dSet2, wpS_dPut, wpS_dRaise, wpS_dFor, wp_dfn, wO_some, wO_none, wO_map, wO_bind, wO_ite, List.map_cons, List.map_nil, List.replicate_succ, List.replicate_zero, List.cons_append, List.nil_append, Nat.reduceSub, Nat.reduceAdd, List.getElem?_cons_zero, List.getElem?_cons_succ, List.set_cons_zero, List.set_cons_succ, List.length_cons, List.length_nil, tgN, tgNil, tgCons, tgTup, wipeE, isT, String.reduceBEq, Bool.and_false, Bool.false_and, Bool.true_and, Bool.and_true, Bool.or_false, Bool.false_or, Bool.true_or, Bool.or_true, Bool.not_true, Bool.not_false, if_true, if_false, true_and, and_true, Bool.false_eq_true, Bool.true_eq_false, reduceIte, opEq_int, opNe_int, opEq_str, opNe_str, opAdd_int, opSub_int, opMod_pos, opLt_int, opLe_int, opGt_int, opGe_int, opLt_str, opLe_str, opIsN_ref, opIsN_non, opIsN_int, opIsN_tup, opIsN_str, opIsN_bl, opEq_bl, opNe_bl, opFdiv_int, opMul_int, opPow_int, atI_0, atI_1, atI_2, opIx_ref, opIx_tup, opIx_rl, opLen_tup, opLen_str, opLen_rl, opMax2_int, opMin2_int, opInt_int, opInt_bl, tyN_non, tyN_bl, tyN_int, tyN_str, tyN_tup, tyN_rl, truthW_bl, srcW_tup, srcW_rl, lstAt_of g, atI_n, List.getElem?_map, h2, h3, Option.map_some]
          refine law_closes_spec ?_
          simp only [wp_ok, wp_exc, wp_ret, wp_badM, wp_lift, wp_chk, wp_alloc, wp_grd, wp_tgt, wp_noXe, wp_dVar, wp_dC, wp_aNil, wp_aCons, wp_dTup, wp_dLst, wp_dOp, wp_dUn, wp_dFn, wB_bl, wp_dChain, wp_dTru, wp_dBool, wp_dNot, wp_dAnd, wp_dOr, wp_dAndV, wp_dOrV, wp_dNotV, wp_dIfE, wp_dYes, wp_dCall, wp_dCallK, wp_dIsi, wp_dIsi2, wp_dMt, wp_oN, wI_int, wp_oS, wp_dSl, wp_dSrc, wp_dZip, wp_dRng1, wp_dRng2, wp_dEnum, wp_dLc, wpS_nx, wpS_rt, wpS_bk, wpS_ct, wpS_exc, wpS_bad, wpS_ite, wpS_dSeq, wpS_dNx, wpS_dBk, wpS_dCt, wpS_dDrop, wpS_dRet, wpS_dRetN, wpS_dIf, wpS_dSet, wpS_dAsg, wpS_dPar, wpS_dPar3, wpS_dSet2, wpS_dPut, wpS_dRaise, wpS_dFor, wp_dfn, wO_some, wO_none, wO_map, wO_bind, wO_ite, List.map_cons, List.map_nil, List.replicate_succ, List.replicate_zero, List.cons_append, List.nil_append, Nat.reduceSub, Nat.reduceAdd, List.getElem?_cons_zero, List.getElem?_cons_succ, List.set_cons_zero, List.set_cons_succ, List.length_cons, List.length_nil, tgN, tgNil, tgCons, tgTup, wipeE, isT, String.reduceBEq, Bool.and_false, Bool.false_and, Bool.true_and, Bool.and_true, Bool.or_false, Bool.false_or, Bool.true_or, Bool.or_true, Bool.not_true, Bool.not_false, if_true, if_false, true_and, and_true, Bool.false_eq_true, Bool.true_eq_false, reduceIte, opEq_int, opNe_int, opEq_str, opNe_str, opAdd_int, opSub_int, opMod_pos, opLt_int, opLe_int, opGt_int, opGe_int, opLt_str, opLe_str, opIsN_ref, opIsN_non, opIsN_int, opIsN_tup, opIsN_str, opIsN_bl, opEq_bl, opNe_bl, opFdiv_int, opMul_int, opPow_int, atI_0, atI_1, atI_2, opIx_ref, opIx_tup, opIx_rl, opLen_tup, opLen_str, opLen_rl, opMax2_int, opMin2_int, opInt_int, opInt_bl, tyN_non, tyN_bl, tyN_int, tyN_str, tyN_tup, tyN_rl, truthW_bl, srcW_tup, srcW_rl]
          cases h6 : closes e2 e3.2.2
          · rw [if_neg (by decide)]
            refine ⟨?_, no⟩
            rw [hp]; unfold clash; rw [h4, h5, h6]; rfl
          · rw [if_pos rfl]
            refine ⟨lenOk_of (by decide), fin ?_⟩
            rw [hp]; unfold clash; rw [h4, h5, h6]; rfl
        · rw [if_pos rfl]
          refine ⟨lenOk_of (by decide), fin ?_⟩
          rw [hp]; unfold clash; rw [h4, h5]; rfl
    · rintro ε S2 q ⟨⟨c, rfl⟩, rfl⟩
      have l1 : (rngW 0 (two : Int).toNat).length = two := by rw [rngW_len]; omega
      rw [l1] at q
      exact ⟨q, ⟨_, _, rfl⟩, rfl⟩
  · rintro ε S2 q ⟨⟨a, b, rfl⟩, rfl⟩
    have l2 : (rngW 0 (es.length : Int).toNat).length = es.length := by rw [rngW_len]; omega
    rw [l2] at q
    simp only [wp_ok, wp_exc, wp_ret, wp_badM, wp_lift, wp_chk, wp_alloc, wp_grd, wp_tgt, wp_noXe, wp_dVar, wp_dC, wp_aNil, wp_aCons, wp_dTup, wp_dLst, wp_dOp, wp_dUn, wp_dFn, wB_bl, wp_dChain, wp_dTru, wp_dBool, wp_dNot, wp_dAnd, wp_dOr, wp_dAndV, wp_dOrV, wp_dNotV, wp_dIfE, wp_dYes, wp_dCall, wp_dCallK, wp_dIsi, wp_dIsi2, wp_dMt, wp_oN, wI_int, wp_oS, wp_dSl, wp_dSrc, wp_dZip, wp_dRng1, wp_dRng2, wp_dEnum, wp_dLc, wpS_nx, wpS_rt, wpS_bk, wpS_ct, wpS_exc, wpS_bad, wpS_ite, wpS_dSeq, wpS_dNx, wpS_dBk, wpS_dCt, wpS_dDrop, wpS_dRet, wpS_dRetN, wpS_dIf, wpS_dSet, wpS_dAsg, wpS_dPar, wpS_dPar3, wpS_dSet2, wpS_dPut, wpS_dRaise, wpS_dFor, wp_dfn, wO_some, wO_none, wO_map, wO_bind, wO_ite, List.map_cons, List.map_nil, List.replicate_succ, List.replicate_zero, List.cons_append, List.nil_append, Nat.reduceSub, Nat.reduceAdd, List.getElem?_cons_zero, List.getElem?_cons_succ, List.set_cons_zero, List.set_cons_succ, List.length_cons, List.length_nil, tgN, tgNil, tgCons, tgTup, wipeE, isT, String.reduceBEq, Bool.and_false, Bool.false_and, Bool.true_and, Bool.and_true, Bool.or_false, Bool.false_or, Bool.true_or, Bool.or_true, Bool.not_true, Bool.not_false, if_true, if_false, true_and, and_true, Bool.false_eq_true, Bool.true_eq_false, reduceIte, opEq_int, opNe_int, opEq_str, opNe_str, opAdd_int, opSub_int, opMod_pos, opLt_int, opLe_int, opGt_int, opGe_int, opLt_str, opLe_str, opIsN_ref, opIsN_non, opIsN_int, opIsN_tup, opIsN_str, opIsN_bl, opEq_bl, opNe_bl, opFdiv_int, opMul_int, opPow_int, atI_0, atI_1, atI_2, opIx_ref, opIx_tup, opIx_rl, opLen_tup, opLen_str, opLen_rl, opMax2_int, opMin2_int, opInt_int, opInt_bl, tyN_non, tyN_bl, tyN_int, tyN_str, tyN_tup, tyN_rl, truthW_bl, srcW_tup, srcW_rl]
    unfold found
    rw [q]
    exact ⟨rfl, Fr.refl⟩
/-! ### no clash: open days that agree -/
theorem clash_symm {a b : Ent} (h : clash a b = true) : clash b a = true := by
  unfold clash at h ⊢
  rw [Bool.and_eq_true] at h ⊢
  exact ⟨by rw [beq_iff_eq] at h ⊢; exact h.1.symm, by rw [Bool.or_comm]; exact h.2⟩
theorem found_none {es : List Ent} : found es = .non ↔ ∀ (i j : Nat) a b, es[i]? = some a → es[j]? = some b → clash a b = false := by
  have key : found es = .non ↔ fstN (fun two => fstN (pair es two) two) es.length = none := by
    unfold found
    cases z : fstN (fun two => fstN (pair es two) two) es.length with
    | none => exact ⟨fun _ => rfl, fun _ => rfl⟩
    | some v =>
      obtain ⟨i, _, e⟩ := fstN_mem z
      obtain ⟨j, _, e⟩ := fstN_mem e
      unfold pair at e
      split at e
      · split at e
        · cases e
          constructor
          · intro h; simp at h
          · intro h; simp at h
        · cases e
      · cases e
  rw [key, fstN_none]
  have ord : (∀ two, two < es.length → fstN (pair es two) two = none) ↔ ∀ (i j : Nat) a b, i < j → es[i]? = some a → es[j]? = some b → clash a b = false := by
    constructor
    · intro h i j a b hij ea eb
      have := fstN_none.mp (h j (List.getElem?_eq_some_iff.mp eb).1) i hij
      unfold pair at this
      rw [ea, eb] at this
      cases z : clash a b with
      | false => rfl
      | true => simp [z] at this
    · intro h two ht
      rw [fstN_none]
      intro one ho
      unfold pair
      split
      · rename_i a b ea eb
        rw [h one two a b ho ea eb]; rfl
      · rfl
  rw [ord]
  constructor
  · intro h i j a b ea eb
    rcases Nat.lt_trichotomy i j with q | q | q
    · exact h i j a b q ea eb
    · subst q
      rw [ea] at eb
      cases eb
      unfold clash closes
      simp
    · have := h j i b a q eb ea
      cases z : clash a b with
      | false => rfl
      | true => rw [clash_symm z] at this; cases this
  · intro h i j a b _ ea eb
    exact h i j a b ea eb
/-! ### states and ranges -/
section
variable {n : Nat} {es : List Ent} {S : Store} {E : Ex → Store → Prop} {x : Str} {d : Int}
theorem require_no_clash_spec {x4 : Nat} (g : S[n]? = some (.lst (es.map eW))) (hl : es.length ≤ 1000) (h : ∀ e ∈ es, GoodE e) (hf : found es = .non) : wp (n_require_no_clash x4 [.ref n] S) (fun r S' => Fr 0 S S') E := by
  unfold n_require_no_clash d_require_no_clash
  simp only [wp_ok, wp_exc, wp_ret, wp_badM, wp_lift, wp_chk, wp_alloc, wp_grd, wp_tgt, wp_noXe, wp_dVar, wp_dC, wp_aNil, wp_aCons, wp_dTup, wp_dLst, wp_dOp, wp_dUn, wp_dFn, wB_bl, wp_dChain, wp_dTru, wp_dBool, wp_dNot, wp_dAnd, wp_dOr, wp_dAndV, wp_dOrV, wp_dNotV, wp_dIfE, wp_dYes, wp_dCall, wp_dCallK, wp_dIsi, wp_dIsi2, wp_dMt, wp_oN, wI_int, wp_oS, wp_dSl, wp_dSrc, wp_dZip, wp_dRng1, wp_dRng2, wp_dEnum, wp_dLc, wpS_nx, wpS_rt, wpS_bk, wpS_ct, wpS_exc, wpS_bad, wpS_ite, wpS_dSeq, wpS_dNx, wpS_dBk, wpS_dCt, wpS_dDrop, wpS_dRet, wpS_dRetN, wpS_dIf, wpS_dSet, wpS_dAsg, wpS_dPar, wpS_dPar3, wpS_dSet2, wpS_dPut, wpS_dRaise, wpS_dFor, wp_dfn, wO_some, wO_none, wO_map, wO_bind, wO_ite, List.map_cons, List.map_nil, List.replicate_succ, List.replicate_zero, List.cons_append, List.nil_append, Nat.reduceSub, Nat.reduceAdd, List.getElem?_cons_zero, List.getElem?_cons_succ, List.set_cons_zero, List.set_cons_succ, List.length_cons, List.length_nil, tgN, tgNil, tgCons, tgTup, wipeE, isT, String.reduceBEq, Bool.and_false, Bool.false_and, Bool.true_and, Bool.and_true, Bool.or_false, Bool.false_or, Bool.true_or, Bool.or_true, Bool.not_true, Bool.not_false, if_true, if_false, true_and, and_true, Bool.false_eq_true, Bool.true_eq_false, reduceIte, opEq_int, opNe_int, opEq_str, opNe_str, opAdd_int, opSub_int, opMod_pos, opLt_int, opLe_int, opGt_int, opGe_int, opLt_str, opLe_str, opIsN_ref, opIsN_non, opIsN_int, opIsN_tup, opIsN_str, opIsN_bl, opEq_bl, opNe_bl, opFdiv_int, opMul_int, opPow_int, atI_0, atI_1, atI_2, opIx_ref, opIx_tup, opIx_rl, opLen_tup, opLen_str, opLen_rl, opMax2_int, opMin2_int, opInt_int, opInt_bl, tyN_non, tyN_bl, tyN_int, tyN_str, tyN_tup, tyN_rl, truthW_bl, srcW_tup, srcW_rl]
  refine wp_mono (require_log_spec g hl h) ?_ (fun _ _ q => q)
  intro r S1 f1
  refine wp_mono (clash_in_spec (f1.g0 g) hl) ?_ (fun _ _ q => q)
  rintro r S2 ⟨rfl, f2⟩
  rw [hf]
  simp only [wp_ok, wp_exc, wp_ret, wp_badM, wp_lift, wp_chk, wp_alloc, wp_grd, wp_tgt, wp_noXe, wp_dVar, wp_dC, wp_aNil, wp_aCons, wp_dTup, wp_dLst, wp_dOp, wp_dUn, wp_dFn, wB_bl, wp_dChain, wp_dTru, wp_dBool, wp_dNot, wp_dAnd, wp_dOr, wp_dAndV, wp_dOrV, wp_dNotV, wp_dIfE, wp_dYes, wp_dCall, wp_dCallK, wp_dIsi, wp_dIsi2, wp_dMt, wp_oN, wI_int, wp_oS, wp_dSl, wp_dSrc, wp_dZip, wp_dRng1, wp_dRng2, wp_dEnum, wp_dLc, wpS_nx, wpS_rt, wpS_bk, wpS_ct, wpS_exc, wpS_bad, wpS_ite, wpS_dSeq, wpS_dNx, wpS_dBk, wpS_dCt, wpS_dDrop, wpS_dRet, wpS_dRetN, wpS_dIf, wpS_dSet, wpS_dAsg, wpS_dPar, wpS_dPar3, wpS_dSet2, wpS_dPut, wpS_dRaise, wpS_dFor, wp_dfn, wO_some, wO_none, wO_map, wO_bind, wO_ite, List.map_cons, List.map_nil, List.replicate_succ, List.replicate_zero, List.cons_append, List.nil_append, Nat.reduceSub, Nat.reduceAdd, List.getElem?_cons_zero, List.getElem?_cons_succ, List.set_cons_zero, List.set_cons_succ, List.length_cons, List.length_nil, tgN, tgNil, tgCons, tgTup, wipeE, isT, String.reduceBEq, Bool.and_false, Bool.false_and, Bool.true_and, Bool.and_true, Bool.or_false, Bool.false_or, Bool.true_or, Bool.or_true, Bool.not_true, Bool.not_false, if_true, if_false, true_and, and_true, Bool.false_eq_true, Bool.true_eq_false, reduceIte, opEq_int, opNe_int, opEq_str, opNe_str, opAdd_int, opSub_int, opMod_pos, opLt_int, opLe_int, opGt_int, opGe_int, opLt_str, opLe_str, opIsN_ref, opIsN_non, opIsN_int, opIsN_tup, opIsN_str, opIsN_bl, opEq_bl, opNe_bl, opFdiv_int, opMul_int, opPow_int, atI_0, atI_1, atI_2, opIx_ref, opIx_tup, opIx_rl, opLen_tup, opLen_str, opLen_rl, opMax2_int, opMin2_int, opInt_int, opInt_bl, tyN_non, tyN_bl, tyN_int, tyN_str, tyN_tup, tyN_rl, truthW_bl, srcW_tup, srcW_rl, opNotN_any, isNon]
  exact f1.trans f2
theorem require_office_spec {x2 : Nat} (h : Name x) : wp (n_require_office x2 [.str x] S) (fun r S' => Fr 0 S S') E := by
  unfold n_require_office d_require_office
  simp only [wp_ok, wp_exc, wp_ret, wp_badM, wp_lift, wp_chk, wp_alloc, wp_grd, wp_tgt, wp_noXe, wp_dVar, wp_dC, wp_aNil, wp_aCons, wp_dTup, wp_dLst, wp_dOp, wp_dUn, wp_dFn, wB_bl, wp_dChain, wp_dTru, wp_dBool, wp_dNot, wp_dAnd, wp_dOr, wp_dAndV, wp_dOrV, wp_dNotV, wp_dIfE, wp_dYes, wp_dCall, wp_dCallK, wp_dIsi, wp_dIsi2, wp_dMt, wp_oN, wI_int, wp_oS, wp_dSl, wp_dSrc, wp_dZip, wp_dRng1, wp_dRng2, wp_dEnum, wp_dLc, wpS_nx, wpS_rt, wpS_bk, wpS_ct, wpS_exc, wpS_bad, wpS_ite, wpS_dSeq, wpS_dNx, wpS_dBk, wpS_dCt, wpS_dDrop, wpS_dRet, wpS_dRetN, wpS_dIf, wpS_dSet, wpS_dAsg, wpS_dPar, wpS_dPar3, wpS_dSet2, wpS_dPut, wpS_dRaise, wpS_dFor, wp_dfn, wO_some, wO_none, wO_map, wO_bind, wO_ite, List.map_cons, List.map_nil, List.replicate_succ, List.replicate_zero, List.cons_append, List.nil_append, Nat.reduceSub, Nat.reduceAdd, List.getElem?_cons_zero, List.getElem?_cons_succ, List.set_cons_zero, List.set_cons_succ, List.length_cons, List.length_nil, tgN, tgNil, tgCons, tgTup, wipeE, isT, String.reduceBEq, Bool.and_false, Bool.false_and, Bool.true_and, Bool.and_true, Bool.or_false, Bool.false_or, Bool.true_or, Bool.or_true, Bool.not_true, Bool.not_false, if_true, if_false, true_and, and_true, Bool.false_eq_true, Bool.true_eq_false, reduceIte, opEq_int, opNe_int, opEq_str, opNe_str, opAdd_int, opSub_int, opMod_pos, opLt_int, opLe_int, opGt_int, opGe_int, opLt_str, opLe_str, opIsN_ref, opIsN_non, opIsN_int, opIsN_tup, opIsN_str, opIsN_bl, opEq_bl, opNe_bl, opFdiv_int, opMul_int, opPow_int, atI_0, atI_1, atI_2, opIx_ref, opIx_tup, opIx_rl, opLen_tup, opLen_str, opLen_rl, opMax2_int, opMin2_int, opInt_int, opInt_bl, tyN_non, tyN_bl, tyN_int, tyN_str, tyN_tup, tyN_rl, truthW_bl, srcW_tup, srcW_rl]
  refine wp_mono (is_office_spec h) ?_ (fun _ _ q => q)
  rintro r S1 ⟨rfl, f1⟩
  simp only [wp_ok, wp_exc, wp_ret, wp_badM, wp_lift, wp_chk, wp_alloc, wp_grd, wp_tgt, wp_noXe, wp_dVar, wp_dC, wp_aNil, wp_aCons, wp_dTup, wp_dLst, wp_dOp, wp_dUn, wp_dFn, wB_bl, wp_dChain, wp_dTru, wp_dBool, wp_dNot, wp_dAnd, wp_dOr, wp_dAndV, wp_dOrV, wp_dNotV, wp_dIfE, wp_dYes, wp_dCall, wp_dCallK, wp_dIsi, wp_dIsi2, wp_dMt, wp_oN, wI_int, wp_oS, wp_dSl, wp_dSrc, wp_dZip, wp_dRng1, wp_dRng2, wp_dEnum, wp_dLc, wpS_nx, wpS_rt, wpS_bk, wpS_ct, wpS_exc, wpS_bad, wpS_ite, wpS_dSeq, wpS_dNx, wpS_dBk, wpS_dCt, wpS_dDrop, wpS_dRet, wpS_dRetN, wpS_dIf, wpS_dSet, wpS_dAsg, wpS_dPar, wpS_dPar3, wpS_dSet2, wpS_dPut, wpS_dRaise, wpS_dFor, wp_dfn, wO_some, wO_none, wO_map, wO_bind, wO_ite, List.map_cons, List.map_nil, List.replicate_succ, List.replicate_zero, List.cons_append, List.nil_append, Nat.reduceSub, Nat.reduceAdd, List.getElem?_cons_zero, List.getElem?_cons_succ, List.set_cons_zero, List.set_cons_succ, List.length_cons, List.length_nil, tgN, tgNil, tgCons, tgTup, wipeE, isT, String.reduceBEq, Bool.and_false, Bool.false_and, Bool.true_and, Bool.and_true, Bool.or_false, Bool.false_or, Bool.true_or, Bool.or_true, Bool.not_true, Bool.not_false, if_true, if_false, true_and, and_true, Bool.false_eq_true, Bool.true_eq_false, reduceIte, opEq_int, opNe_int, opEq_str, opNe_str, opAdd_int, opSub_int, opMod_pos, opLt_int, opLe_int, opGt_int, opGe_int, opLt_str, opLe_str, opIsN_ref, opIsN_non, opIsN_int, opIsN_tup, opIsN_str, opIsN_bl, opEq_bl, opNe_bl, opFdiv_int, opMul_int, opPow_int, atI_0, atI_1, atI_2, opIx_ref, opIx_tup, opIx_rl, opLen_tup, opLen_str, opLen_rl, opMax2_int, opMin2_int, opInt_int, opInt_bl, tyN_non, tyN_bl, tyN_int, tyN_str, tyN_tup, tyN_rl, truthW_bl, srcW_tup, srcW_rl]
  exact f1
theorem require_day_spec {x1 : Nat} {Q : W → Store → Prop} (h : Q .non S) : wp (n_require_day x1 [.int d] S) Q E := by
  unfold n_require_day d_require_day
  simp only [wp_ok, wp_exc, wp_ret, wp_badM, wp_lift, wp_chk, wp_alloc, wp_grd, wp_tgt, wp_noXe, wp_dVar, wp_dC, wp_aNil, wp_aCons, wp_dTup, wp_dLst, wp_dOp, wp_dUn, wp_dFn, wB_bl, wp_dChain, wp_dTru, wp_dBool, wp_dNot, wp_dAnd, wp_dOr, wp_dAndV, wp_dOrV, wp_dNotV, wp_dIfE, wp_dYes, wp_dCall, wp_dCallK, wp_dIsi, wp_dIsi2, wp_dMt, wp_oN, wI_int, wp_oS, wp_dSl, wp_dSrc, wp_dZip, wp_dRng1, wp_dRng2, wp_dEnum, wp_dLc, wpS_nx, wpS_rt, wpS_bk, wpS_ct, wpS_exc, wpS_bad, wpS_ite, wpS_dSeq, wpS_dNx, wpS_dBk, wpS_dCt, wpS_dDrop, wpS_dRet, wpS_dRetN, wpS_dIf, wpS_dSet, wpS_dAsg, wpS_dPar, wpS_dPar3, wpS_dSet2, wpS_dPut, wpS_dRaise, wpS_dFor, wp_dfn, wO_some, wO_none, wO_map, wO_bind, wO_ite, List.map_cons, List.map_nil, List.replicate_succ, List.replicate_zero, List.cons_append, List.nil_append, Nat.reduceSub, Nat.reduceAdd, List.getElem?_cons_zero, List.getElem?_cons_succ, List.set_cons_zero, List.set_cons_succ, List.length_cons, List.length_nil, tgN, tgNil, tgCons, tgTup, wipeE, isT, String.reduceBEq, Bool.and_false, Bool.false_and, Bool.true_and, Bool.and_true, Bool.or_false, Bool.false_or, Bool.true_or, Bool.or_true, Bool.not_true, Bool.not_false, if_true, if_false, true_and, and_true, Bool.false_eq_true, Bool.true_eq_false, reduceIte, opEq_int, opNe_int, opEq_str, opNe_str, opAdd_int, opSub_int, opMod_pos, opLt_int, opLe_int, opGt_int, opGe_int, opLt_str, opLe_str, opIsN_ref, opIsN_non, opIsN_int, opIsN_tup, opIsN_str, opIsN_bl, opEq_bl, opNe_bl, opFdiv_int, opMul_int, opPow_int, atI_0, atI_1, atI_2, opIx_ref, opIx_tup, opIx_rl, opLen_tup, opLen_str, opLen_rl, opMax2_int, opMin2_int, opInt_int, opInt_bl, tyN_non, tyN_bl, tyN_int, tyN_str, tyN_tup, tyN_rl, truthW_bl, srcW_tup, srcW_rl]
  refine is_day_spec ?_
  simp only [wp_ok, wp_exc, wp_ret, wp_badM, wp_lift, wp_chk, wp_alloc, wp_grd, wp_tgt, wp_noXe, wp_dVar, wp_dC, wp_aNil, wp_aCons, wp_dTup, wp_dLst, wp_dOp, wp_dUn, wp_dFn, wB_bl, wp_dChain, wp_dTru, wp_dBool, wp_dNot, wp_dAnd, wp_dOr, wp_dAndV, wp_dOrV, wp_dNotV, wp_dIfE, wp_dYes, wp_dCall, wp_dCallK, wp_dIsi, wp_dIsi2, wp_dMt, wp_oN, wI_int, wp_oS, wp_dSl, wp_dSrc, wp_dZip, wp_dRng1, wp_dRng2, wp_dEnum, wp_dLc, wpS_nx, wpS_rt, wpS_bk, wpS_ct, wpS_exc, wpS_bad, wpS_ite, wpS_dSeq, wpS_dNx, wpS_dBk, wpS_dCt, wpS_dDrop, wpS_dRet, wpS_dRetN, wpS_dIf, wpS_dSet, wpS_dAsg, wpS_dPar, wpS_dPar3, wpS_dSet2, wpS_dPut, wpS_dRaise, wpS_dFor, wp_dfn, wO_some, wO_none, wO_map, wO_bind, wO_ite, List.map_cons, List.map_nil, List.replicate_succ, List.replicate_zero, List.cons_append, List.nil_append, Nat.reduceSub, Nat.reduceAdd, List.getElem?_cons_zero, List.getElem?_cons_succ, List.set_cons_zero, List.set_cons_succ, List.length_cons, List.length_nil, tgN, tgNil, tgCons, tgTup, wipeE, isT, String.reduceBEq, Bool.and_false, Bool.false_and, Bool.true_and, Bool.and_true, Bool.or_false, Bool.false_or, Bool.true_or, Bool.or_true, Bool.not_true, Bool.not_false, if_true, if_false, true_and, and_true, Bool.false_eq_true, Bool.true_eq_false, reduceIte, opEq_int, opNe_int, opEq_str, opNe_str, opAdd_int, opSub_int, opMod_pos, opLt_int, opLe_int, opGt_int, opGe_int, opLt_str, opLe_str, opIsN_ref, opIsN_non, opIsN_int, opIsN_tup, opIsN_str, opIsN_bl, opEq_bl, opNe_bl, opFdiv_int, opMul_int, opPow_int, atI_0, atI_1, atI_2, opIx_ref, opIx_tup, opIx_rl, opLen_tup, opLen_str, opLen_rl, opMax2_int, opMin2_int, opInt_int, opInt_bl, tyN_non, tyN_bl, tyN_int, tyN_str, tyN_tup, tyN_rl, truthW_bl, srcW_tup, srcW_rl]
  exact h
/-- an office's own entries -/
def own (es : List Ent) (x : Str) : List Ent := es.filter fun e => e.1 == x
def stateOf (es : List Ent) (x : Str) (d : Int) : Str := if (own es x).any (fun e => e.2.2 == d) then "open" else if (own es x).any (fun e => closes e d) then "closed" else "free"
theorem any_map {α : Type} {xs : List α} {f : α → Bool} : (xs.map f).any id = xs.any f := by
  induction xs with
  | nil => rfl
  | cons x xs ih => simp [ih]
theorem known_state_spec {x1 x2 x4 : Nat} (g : S[n]? = some (.lst (es.map eW))) (hl : es.length ≤ 1000) (h : ∀ e ∈ es, GoodE e) (hf : found es = .non) (hx : Name x) : wp (n_known_state x1 x2 x4 [.ref n, .str x, .int d] S) (fun r S' => r = .str (stateOf es x d) ∧ Fr 0 S S') E := by
  unfold n_known_state d_known_state
  simp only [wp_ok, wp_exc, wp_ret, wp_badM, wp_lift, wp_chk, wp_alloc, wp_grd, wp_tgt, wp_noXe, wp_dVar, wp_dC, wp_aNil, wp_aCons, wp_dTup, wp_dLst, wp_dOp, wp_dUn, wp_dFn, wB_bl, wp_dChain, wp_dTru, wp_dBool, wp_dNot, wp_dAnd, wp_dOr, wp_dAndV, wp_dOrV, wp_dNotV, wp_dIfE, wp_dYes, wp_dCall, wp_dCallK, wp_dIsi, wp_dIsi2, wp_dMt, wp_oN, wI_int, wp_oS, wp_dSl, wp_dSrc, wp_dZip, wp_dRng1, wp_dRng2, wp_dEnum, wp_dLc, wpS_nx, wpS_rt, wpS_bk, wpS_ct, wpS_exc, wpS_bad, wpS_ite, wpS_dSeq, wpS_dNx, wpS_dBk, wpS_dCt, wpS_dDrop, wpS_dRet, wpS_dRetN, wpS_dIf, wpS_dSet, wpS_dAsg, wpS_dPar, wpS_dPar3, wpS_dSet2, wpS_dPut, wpS_dRaise, wpS_dFor, wp_dfn, wO_some, wO_none, wO_map, wO_bind, wO_ite, List.map_cons, List.map_nil, List.replicate_succ, List.replicate_zero, List.cons_append, List.nil_append, Nat.reduceSub, Nat.reduceAdd, List.getElem?_cons_zero, List.getElem?_cons_succ, List.set_cons_zero, List.set_cons_succ, List.length_cons, List.length_nil, tgN, tgNil, tgCons, tgTup, wipeE, isT, String.reduceBEq, Bool.and_false, Bool.false_and, Bool.true_and, Bool.and_true, Bool.or_false, Bool.false_or, Bool.true_or, Bool.or_true, Bool.not_true, Bool.not_false, if_true, if_false, true_and, and_true, Bool.false_eq_true, Bool.true_eq_false, reduceIte, opEq_int, opNe_int, opEq_str, opNe_str, opAdd_int, opSub_int, opMod_pos, opLt_int, opLe_int, opGt_int, opGe_int, opLt_str, opLe_str, opIsN_ref, opIsN_non, opIsN_int, opIsN_tup, opIsN_str, opIsN_bl, opEq_bl, opNe_bl, opFdiv_int, opMul_int, opPow_int, atI_0, atI_1, atI_2, opIx_ref, opIx_tup, opIx_rl, opLen_tup, opLen_str, opLen_rl, opMax2_int, opMin2_int, opInt_int, opInt_bl, tyN_non, tyN_bl, tyN_int, tyN_str, tyN_tup, tyN_rl, truthW_bl, srcW_tup, srcW_rl]
  refine wp_mono (require_no_clash_spec g hl h hf) ?_ (fun _ _ q => q)
  intro r S1 f1
  refine wp_mono (require_office_spec hx) ?_ (fun _ _ q => q)
  intro r S2 f2
  refine require_day_spec ?_
  have f12 := f1.trans f2
  have g2 := f12.g0 g
  simp only [wp_ok, wp_exc, wp_ret, wp_badM, wp_lift, wp_chk, wp_alloc, wp_grd, wp_tgt, wp_noXe, wp_dVar, wp_dC, wp_aNil, wp_aCons, wp_dTup, wp_dLst, wp_dOp, wp_dUn, wp_dFn, wB_bl, wp_dChain, wp_dTru, wp_dBool, wp_dNot, wp_dAnd, wp_dOr, wp_dAndV, wp_dOrV, wp_dNotV, wp_dIfE, wp_dYes, wp_dCall, wp_dCallK, wp_dIsi, wp_dIsi2, wp_dMt, wp_oN, wI_int, wp_oS, wp_dSl, wp_dSrc, wp_dZip, wp_dRng1, wp_dRng2, wp_dEnum, wp_dLc, wpS_nx, wpS_rt, wpS_bk, wpS_ct, wpS_exc, wpS_bad, wpS_ite, wpS_dSeq, wpS_dNx, wpS_dBk, wpS_dCt, wpS_dDrop, wpS_dRet, wpS_dRetN, wpS_dIf, wpS_dSet, wpS_dAsg, wpS_dPar, wpS_dPar3, wpS_dSet2, wpS_dPut, wpS_dRaise, wpS_dFor, wp_dfn, wO_some, wO_none, wO_map, wO_bind, wO_ite, List.map_cons, List.map_nil, List.replicate_succ, List.replicate_zero, List.cons_append, List.nil_append, Nat.reduceSub, Nat.reduceAdd, List.getElem?_cons_zero, List.getElem?_cons_succ, List.set_cons_zero, List.set_cons_succ, List.length_cons, List.length_nil, tgN, tgNil, tgCons, tgTup, wipeE, isT, String.reduceBEq, Bool.and_false, Bool.false_and, Bool.true_and, Bool.and_true, Bool.or_false, Bool.false_or, Bool.true_or, Bool.or_true, Bool.not_true, Bool.not_false, if_true, if_false, true_and, and_true, Bool.false_eq_true, Bool.true_eq_false, reduceIte, opEq_int, opNe_int, opEq_str, opNe_str, opAdd_int, opSub_int, opMod_pos, opLt_int, opLe_int, opGt_int, opGe_int, opLt_str, opLe_str, opIsN_ref, opIsN_non, opIsN_int, opIsN_tup, opIsN_str, opIsN_bl, opEq_bl, opNe_bl, opFdiv_int, opMul_int, opPow_int, atI_0, atI_1, atI_2, opIx_ref, opIx_tup, opIx_rl, opLen_tup, opLen_str, opLen_rl, opMax2_int, opMin2_int, opInt_int, opInt_bl, tyN_non, tyN_bl, tyN_int, tyN_str, tyN_tup, tyN_rl, truthW_bl, srcW_tup, srcW_rl, srcW_ref g2, List.length_map, lenOk_of (show es.length ≤ 1000000 by omega)]
  refine wp_mono (wp_lcP (c := eW) (xs := es) (fun e => e.1 == x) eW (fun S' => Fr 0 S2 S') Fr.refl (fun S' f => f.g0 g2) ?_) ?_ (fun _ _ q => q)
  · intro i e S' _ f
    simp only [wp_ok, wp_exc, wp_ret, wp_badM, wp_lift, wp_chk, wp_alloc, wp_grd, wp_tgt, wp_noXe, wp_dVar, wp_dC, wp_aNil, wp_aCons, wp_dTup, wp_dLst, wp_dOp, wp_dUn, wp_dFn, wB_bl, wp_dChain, wp_dTru, wp_dBool, wp_dNot, wp_dAnd, wp_dOr, wp_dAndV, wp_dOrV, wp_dNotV, wp_dIfE, wp_dYes, wp_dCall, wp_dCallK, wp_dIsi, wp_dIsi2, wp_dMt, wp_oN, wI_int, wp_oS, wp_dSl, wp_dSrc, wp_dZip, wp_dRng1, wp_dRng2, wp_dEnum, wp_dLc, wpS_nx, wpS_rt, wpS_bk, wpS_ct, wpS_exc, wpS_bad, wpS_ite, wpS_dSeq, wpS_dNx, wpS_dBk, wpS_dCt, wpS_dDrop, wpS_dRet, wpS_dRetN, wpS_dIf, wpS_dSet, wpS_dAsg, wpS_dPar, wpS_dPar3, wpS_dSet2, wpS_dPut, wpS_dRaise, wpS_dFor, wp_dfn, wO_some, wO_none, wO_map, wO_bind, wO_ite, List.map_cons, List.map_nil, List.replicate_succ, List.replicate_zero, List.cons_append, List.nil_append, Nat.reduceSub, Nat.reduceAdd, List.getElem?_cons_zero, List.getElem?_cons_succ, List.set_cons_zero, List.set_cons_succ, List.length_cons, List.length_nil, tgN, tgNil, tgCons, tgTup, wipeE, isT, String.reduceBEq, Bool.and_false, Bool.false_and, Bool.true_and, Bool.and_true, Bool.or_false, Bool.false_or, Bool.true_or, Bool.or_true, Bool.not_true, Bool.not_false, if_true, if_false, true_and, and_true, Bool.false_eq_true, Bool.true_eq_false, reduceIte, opEq_int, opNe_int, opEq_str, opNe_str, opAdd_int, opSub_int, opMod_pos, opLt_int, opLe_int, opGt_int, opGe_int, opLt_str, opLe_str, opIsN_ref, opIsN_non, opIsN_int, opIsN_tup, opIsN_str, opIsN_bl, opEq_bl, opNe_bl, opFdiv_int, opMul_int, opPow_int, atI_0, atI_1, atI_2, opIx_ref, opIx_tup, opIx_rl, opLen_tup, opLen_str, opLen_rl, opMax2_int, opMin2_int, opInt_int, opInt_bl, tyN_non, tyN_bl, tyN_int, tyN_str, tyN_tup, tyN_rl, truthW_bl, srcW_tup, srcW_rl]
    split <;> exact f
  rintro ws S3 ⟨rfl, f3⟩
  have lo : (own es x).length ≤ 1000 := Nat.le_trans (List.length_filter_le _ _) hl
  have go : (S3 ++ [O.lst ((own es x).map eW)])[S3.length]? = some (.lst ((own es x).map eW)) := get_new
  have fo : Fr 0 S (S3 ++ [O.lst ((own es x).map eW)]) := f12.trans f3.snoc
  have e0 : List.filter (fun e : Ent => e.1 == x) es = own es x := rfl
  rw [e0]
  generalize S3 ++ [O.lst ((own es x).map eW)] = T at go fo ⊢
  simp only [wp_ok, wp_exc, wp_ret, wp_badM, wp_lift, wp_chk, wp_alloc, wp_grd, wp_tgt, wp_noXe, wp_dVar, wp_dC, wp_aNil, wp_aCons, wp_dTup, wp_dLst, wp_dOp, wp_dUn, wp_dFn, wB_bl, wp_dChain, wp_dTru, wp_dBool, wp_dNot, wp_dAnd, wp_dOr, wp_dAndV, wp_dOrV, wp_dNotV, wp_dIfE, wp_dYes, wp_dCall, wp_dCallK, wp_dIsi, wp_dIsi2, wp_dMt, wp_oN, wI_int, wp_oS, wp_dSl, wp_dSrc, wp_dZip, wp_dRng1, wp_dRng2, wp_dEnum, wp_dLc, wpS_nx, wpS_rt, wpS_bk, wpS_ct, wpS_exc, wpS_bad, wpS_ite, wpS_dSeq, wpS_dNx, wpS_dBk, wpS_dCt, wpS_dDrop, wpS_dRet, wpS_dRetN, wpS_dIf, wpS_dSet, wpS_dAsg, wpS_dPar, wpS_dPar3, wpS_dSet2, wpS_dPut, wpS_dRaise, wpS_dFor, wp_dfn, wO_some, wO_none, wO_map, wO_bind, wO_ite, List.map_cons, List.map_nil, List.replicate_succ, List.replicate_zero, List.cons_append, List.nil_append, Nat.reduceSub, Nat.reduceAdd, List.getElem?_cons_zero, List.getElem?_cons_succ, List.set_cons_zero, List.set_cons_succ, List.length_cons, List.length_nil, tgN, tgNil, tgCons, tgTup, wipeE, isT, String.reduceBEq, Bool.and_false, Bool.false_and, Bool.true_and, Bool.and_true, Bool.or_false, Bool.false_or, Bool.true_or, Bool.or_true, Bool.not_true, Bool.not_false, if_true, if_false, true_and, and_true, Bool.false_eq_true, Bool.true_eq_false, reduceIte, opEq_int, opNe_int, opEq_str, opNe_str, opAdd_int, opSub_int, opMod_pos, opLt_int, opLe_int, opGt_int, opGe_int, opLt_str, opLe_str, opIsN_ref, opIsN_non, opIsN_int, opIsN_tup, opIsN_str, opIsN_bl, opEq_bl, opNe_bl, opFdiv_int, opMul_int, opPow_int, atI_0, atI_1, atI_2, opIx_ref, opIx_tup, opIx_rl, opLen_tup, opLen_str, opLen_rl, opMax2_int, opMin2_int, opInt_int, opInt_bl, tyN_non, tyN_bl, tyN_int, tyN_str, tyN_tup, tyN_rl, truthW_bl, srcW_tup, srcW_rl, srcW_ref go, List.length_map, lenOk_of (show (own es x).length ≤ 1000000 by omega)]
  refine wp_mono (wp_lcF (c := eW) (xs := own es x) (fun e => .bl (e.2.2 == d)) (fun S' => Fr 0 T S') Fr.refl (fun S' f => f.g0 go) ?_) ?_ (fun _ _ q => q)
  · intro i e S' _ f
    simp only [wp_ok, wp_exc, wp_ret, wp_badM, wp_lift, wp_chk, wp_alloc, wp_grd, wp_tgt, wp_noXe, wp_dVar, wp_dC, wp_aNil, wp_aCons, wp_dTup, wp_dLst, wp_dOp, wp_dUn, wp_dFn, wB_bl, wp_dChain, wp_dTru, wp_dBool, wp_dNot, wp_dAnd, wp_dOr, wp_dAndV, wp_dOrV, wp_dNotV, wp_dIfE, wp_dYes, wp_dCall, wp_dCallK, wp_dIsi, wp_dIsi2, wp_dMt, wp_oN, wI_int, wp_oS, wp_dSl, wp_dSrc, wp_dZip, wp_dRng1, wp_dRng2, wp_dEnum, wp_dLc, wpS_nx, wpS_rt, wpS_bk, wpS_ct, wpS_exc, wpS_bad, wpS_ite, wpS_dSeq, wpS_dNx, wpS_dBk, wpS_dCt, wpS_dDrop, wpS_dRet, wpS_dRetN, wpS_dIf, wpS_dSet, wpS_dAsg, wpS_dPar, wpS_dPar3, wpS_dSet2, wpS_dPut, wpS_dRaise, wpS_dFor, wp_dfn, wO_some, wO_none, wO_map, wO_bind, wO_ite, List.map_cons, List.map_nil, List.replicate_succ, List.replicate_zero, List.cons_append, List.nil_append, Nat.reduceSub, Nat.reduceAdd, List.getElem?_cons_zero, List.getElem?_cons_succ, List.set_cons_zero, List.set_cons_succ, List.length_cons, List.length_nil, tgN, tgNil, tgCons, tgTup, wipeE, isT, String.reduceBEq, Bool.and_false, Bool.false_and, Bool.true_and, Bool.and_true, Bool.or_false, Bool.false_or, Bool.true_or, Bool.or_true, Bool.not_true, Bool.not_false, if_true, if_false, true_and, and_true, Bool.false_eq_true, Bool.true_eq_false, reduceIte, opEq_int, opNe_int, opEq_str, opNe_str, opAdd_int, opSub_int, opMod_pos, opLt_int, opLe_int, opGt_int, opGe_int, opLt_str, opLe_str, opIsN_ref, opIsN_non, opIsN_int, opIsN_tup, opIsN_str, opIsN_bl, opEq_bl, opNe_bl, opFdiv_int, opMul_int, opPow_int, atI_0, atI_1, atI_2, opIx_ref, opIx_tup, opIx_rl, opLen_tup, opLen_str, opLen_rl, opMax2_int, opMin2_int, opInt_int, opInt_bl, tyN_non, tyN_bl, tyN_int, tyN_str, tyN_tup, tyN_rl, truthW_bl, srcW_tup, srcW_rl]
    exact f
  rintro ws S4 ⟨rfl, f4⟩
  have e1 : (S4 ++ [O.lst ((own es x).map fun e => W.bl (e.2.2 == d))])[S4.length]? = some (.lst (((own es x).map fun e => (e.2.2 == d)).map W.bl)) := by
    rw [List.map_map]; exact get_new
  rw [opAny_ref e1, wO_some, any_map]
  simp only [wp_ok, wp_exc, wp_ret, wp_badM, wp_lift, wp_chk, wp_alloc, wp_grd, wp_tgt, wp_noXe, wp_dVar, wp_dC, wp_aNil, wp_aCons, wp_dTup, wp_dLst, wp_dOp, wp_dUn, wp_dFn, wB_bl, wp_dChain, wp_dTru, wp_dBool, wp_dNot, wp_dAnd, wp_dOr, wp_dAndV, wp_dOrV, wp_dNotV, wp_dIfE, wp_dYes, wp_dCall, wp_dCallK, wp_dIsi, wp_dIsi2, wp_dMt, wp_oN, wI_int, wp_oS, wp_dSl, wp_dSrc, wp_dZip, wp_dRng1, wp_dRng2, wp_dEnum, wp_dLc, wpS_nx, wpS_rt, wpS_bk, wpS_ct, wpS_exc, wpS_bad, wpS_ite, wpS_dSeq, wpS_dNx, wpS_dBk, wpS_dCt, wpS_dDrop, wpS_dRet, wpS_dRetN, wpS_dIf, wpS_dSet, wpS_dAsg, wpS_dPar, wpS_dPar3, wpS_dSet2, wpS_dPut, wpS_dRaise, wpS_dFor, wp_dfn, wO_some, wO_none, wO_map, wO_bind, wO_ite, List.map_cons, List.map_nil, List.replicate_succ, List.replicate_zero, List.cons_append, List.nil_append, Nat.reduceSub, Nat.reduceAdd, List.getElem?_cons_zero, List.getElem?_cons_succ, List.set_cons_zero, List.set_cons_succ, List.length_cons, List.length_nil, tgN, tgNil, tgCons, tgTup, wipeE, isT, String.reduceBEq, Bool.and_false, Bool.false_and, Bool.true_and, Bool.and_true, Bool.or_false, Bool.false_or, Bool.true_or, Bool.or_true, Bool.not_true, Bool.not_false, if_true, if_false, true_and, and_true, Bool.false_eq_true, Bool.true_eq_false, reduceIte, opEq_int, opNe_int, opEq_str, opNe_str, opAdd_int, opSub_int, opMod_pos, opLt_int, opLe_int, opGt_int, opGe_int, opLt_str, opLe_str, opIsN_ref, opIsN_non, opIsN_int, opIsN_tup, opIsN_str, opIsN_bl, opEq_bl, opNe_bl, opFdiv_int, opMul_int, opPow_int, atI_0, atI_1, atI_2, opIx_ref, opIx_tup, opIx_rl, opLen_tup, opLen_str, opLen_rl, opMax2_int, opMin2_int, opInt_int, opInt_bl, tyN_non, tyN_bl, tyN_int, tyN_str, tyN_tup, tyN_rl, truthW_bl, srcW_tup, srcW_rl]
  have go5 : (S4 ++ [O.lst ((own es x).map fun e => W.bl (e.2.2 == d))])[S3.length]? = some (.lst ((own es x).map eW)) := Fr.app.g0 (f4.g0 go)
  have f5 : Fr 0 T (S4 ++ [O.lst ((own es x).map fun e => W.bl (e.2.2 == d))]) := f4.snoc
  generalize S4 ++ [O.lst ((own es x).map fun e => W.bl (e.2.2 == d))] = U at go5 f5 ⊢
  unfold stateOf
  split
  · exact ⟨rfl, fo.trans f5⟩
  · simp only [wp_ok, wp_exc, wp_ret, wp_badM, wp_lift, wp_chk, wp_alloc, wp_grd, wp_tgt, wp_noXe, wp_dVar, wp_dC, wp_aNil, wp_aCons, wp_dTup, wp_dLst, wp_dOp, wp_dUn, wp_dFn, wB_bl, wp_dChain, wp_dTru, wp_dBool, wp_dNot, wp_dAnd, wp_dOr, wp_dAndV, wp_dOrV, wp_dNotV, wp_dIfE, wp_dYes, wp_dCall, wp_dCallK, wp_dIsi, wp_dIsi2, wp_dMt, wp_oN, wI_int, wp_oS, wp_dSl, wp_dSrc, wp_dZip, wp_dRng1, wp_dRng2, wp_dEnum, wp_dLc, wpS_nx, wpS_rt, wpS_bk, wpS_ct, wpS_exc, wpS_bad, wpS_ite, wpS_dSeq, wpS_dNx, wpS_dBk, wpS_dCt, wpS_dDrop, wpS_dRet, wpS_dRetN, wpS_dIf, wpS_dSet, wpS_dAsg, wpS_dPar, wpS_dPar3, wpS_dSet2, wpS_dPut, wpS_dRaise, wpS_dFor, wp_dfn, wO_some, wO_none, wO_map, wO_bind, wO_ite, List.map_cons, List.map_nil, List.replicate_succ, List.replicate_zero, List.cons_append, List.nil_append, Nat.reduceSub, Nat.reduceAdd, List.getElem?_cons_zero, List.getElem?_cons_succ, List.set_cons_zero, List.set_cons_succ, List.length_cons, List.length_nil, tgN, tgNil, tgCons, tgTup, wipeE, isT, String.reduceBEq, Bool.and_false, Bool.false_and, Bool.true_and, Bool.and_true, Bool.or_false, Bool.false_or, Bool.true_or, Bool.or_true, Bool.not_true, Bool.not_false, if_true, if_false, true_and, and_true, Bool.false_eq_true, Bool.true_eq_false, reduceIte, opEq_int, opNe_int, opEq_str, opNe_str, opAdd_int, opSub_int, opMod_pos, opLt_int, opLe_int, opGt_int, opGe_int, opLt_str, opLe_str, opIsN_ref, opIsN_non, opIsN_int, opIsN_tup, opIsN_str, opIsN_bl, opEq_bl, opNe_bl, opFdiv_int, opMul_int, opPow_int, atI_0, atI_1, atI_2, opIx_ref, opIx_tup, opIx_rl, opLen_tup, opLen_str, opLen_rl, opMax2_int, opMin2_int, opInt_int, opInt_bl, tyN_non, tyN_bl, tyN_int, tyN_str, tyN_tup, tyN_rl, truthW_bl, srcW_tup, srcW_rl, srcW_ref go5, List.length_map, lenOk_of (show (own es x).length ≤ 1000000 by omega)]
    refine wp_mono (wp_lcF (c := eW) (xs := own es x) (fun e => .bl (closes e d)) (fun S' => Fr 0 U S') Fr.refl (fun S' f => f.g0 go5) ?_) ?_ (fun _ _ q => q)
    · intro i e S' _ f
      simp only [wp_ok, wp_exc, wp_ret, wp_badM, wp_lift, wp_chk, wp_alloc, wp_grd, wp_tgt, wp_noXe, wp_dVar, wp_dC, wp_aNil, wp_aCons, wp_dTup, wp_dLst, wp_dOp, wp_dUn, wp_dFn, wB_bl, wp_dChain, wp_dTru, wp_dBool, wp_dNot, wp_dAnd, wp_dOr, wp_dAndV, wp_dOrV, wp_dNotV, wp_dIfE, wp_dYes, wp_dCall, wp_dCallK, wp_dIsi, wp_dIsi2, wp_dMt, wp_oN, wI_int, wp_oS, wp_dSl, wp_dSrc, wp_dZip, wp_dRng1, wp_dRng2, wp_dEnum, wp_dLc, wpS_nx, wpS_rt, wpS_bk, wpS_ct, wpS_exc, wpS_bad, wpS_ite, wpS_dSeq, wpS_dNx, wpS_dBk, wpS_dCt, wpS_dDrop, wpS_dRet, wpS_dRetN, wpS_dIf, wpS_dSet, wpS_dAsg, wpS_dPar, wpS_dPar3, wpS_dSet2, wpS_dPut, wpS_dRaise, wpS_dFor, wp_dfn, wO_some, wO_none, wO_map, wO_bind, wO_ite, List.map_cons, List.map_nil, List.replicate_succ, List.replicate_zero, List.cons_append, List.nil_append, Nat.reduceSub, Nat.reduceAdd, List.getElem?_cons_zero, List.getElem?_cons_succ, List.set_cons_zero, List.set_cons_succ, List.length_cons, List.length_nil, tgN, tgNil, tgCons, tgTup, wipeE, isT, String.reduceBEq, Bool.and_false, Bool.false_and, Bool.true_and, Bool.and_true, Bool.or_false, Bool.false_or, Bool.true_or, Bool.or_true, Bool.not_true, Bool.not_false, if_true, if_false, true_and, and_true, Bool.false_eq_true, Bool.true_eq_false, reduceIte, opEq_int, opNe_int, opEq_str, opNe_str, opAdd_int, opSub_int, opMod_pos, opLt_int, opLe_int, opGt_int, opGe_int, opLt_str, opLe_str, opIsN_ref, opIsN_non, opIsN_int, opIsN_tup, opIsN_str, opIsN_bl, opEq_bl, opNe_bl, opFdiv_int, opMul_int, opPow_int, atI_0, atI_1, atI_2, opIx_ref, opIx_tup, opIx_rl, opLen_tup, opLen_str, opLen_rl, opMax2_int, opMin2_int, opInt_int, opInt_bl, tyN_non, tyN_bl, tyN_int, tyN_str, tyN_tup, tyN_rl, truthW_bl, srcW_tup, srcW_rl]
      refine closes_spec ?_
      exact ⟨rfl, f⟩
    rintro ws S6 ⟨rfl, f6⟩
    have e2 : (S6 ++ [O.lst ((own es x).map fun e => W.bl (closes e d))])[S6.length]? = some (.lst (((own es x).map fun e => closes e d).map W.bl)) := by
      rw [List.map_map]; exact get_new
    rw [opAny_ref e2, wO_some, any_map]
    simp only [wp_ok, wp_exc, wp_ret, wp_badM, wp_lift, wp_chk, wp_alloc, wp_grd, wp_tgt, wp_noXe, wp_dVar, wp_dC, wp_aNil, wp_aCons, wp_dTup, wp_dLst, wp_dOp, wp_dUn, wp_dFn, wB_bl, wp_dChain, wp_dTru, wp_dBool, wp_dNot, wp_dAnd, wp_dOr, wp_dAndV, wp_dOrV, wp_dNotV, wp_dIfE, wp_dYes, wp_dCall, wp_dCallK, wp_dIsi, wp_dIsi2, wp_dMt, wp_oN, wI_int, wp_oS, wp_dSl, wp_dSrc, wp_dZip, wp_dRng1, wp_dRng2, wp_dEnum, wp_dLc, wpS_nx, wpS_rt, wpS_bk, wpS_ct, wpS_exc, wpS_bad, wpS_ite, wpS_dSeq, wpS_dNx, wpS_dBk, wpS_dCt, wpS_dDrop, wpS_dRet, wpS_dRetN, wpS_dIf, wpS_dSet, wpS_dAsg, wpS_dPar, wpS_dPar3, wpS_dSet2, wpS_dPut, wpS_dRaise, wpS_dFor, wp_dfn, wO_some, wO_none, wO_map, wO_bind, wO_ite, List.map_cons, List.map_nil, List.replicate_succ, List.replicate_zero, List.cons_append, List.nil_append, Nat.reduceSub, Nat.reduceAdd, List.getElem?_cons_zero, List.getElem?_cons_succ, List.set_cons_zero, List.set_cons_succ, List.length_cons, List.length_nil, tgN, tgNil, tgCons, tgTup, wipeE, isT, String.reduceBEq, Bool.and_false, Bool.false_and, Bool.true_and, Bool.and_true, Bool.or_false, Bool.false_or, Bool.true_or, Bool.or_true, Bool.not_true, Bool.not_false, if_true, if_false, true_and, and_true, Bool.false_eq_true, Bool.true_eq_false, reduceIte, opEq_int, opNe_int, opEq_str, opNe_str, opAdd_int, opSub_int, opMod_pos, opLt_int, opLe_int, opGt_int, opGe_int, opLt_str, opLe_str, opIsN_ref, opIsN_non, opIsN_int, opIsN_tup, opIsN_str, opIsN_bl, opEq_bl, opNe_bl, opFdiv_int, opMul_int, opPow_int, atI_0, atI_1, atI_2, opIx_ref, opIx_tup, opIx_rl, opLen_tup, opLen_str, opLen_rl, opMax2_int, opMin2_int, opInt_int, opInt_bl, tyN_non, tyN_bl, tyN_int, tyN_str, tyN_tup, tyN_rl, truthW_bl, srcW_tup, srcW_rl]
    split <;> exact ⟨rfl, fo.trans (f5.trans f6.snoc)⟩
theorem law_state_spec (g : S[n]? = some (.lst (es.map eW))) (hl : es.length ≤ 1000) : wp (n_law_state [.ref n, .str x, .int d] S) (fun r S' => r = .str (stateOf es x d) ∧ Fr 0 S S') E := by
  unfold n_law_state d_law_state
  simp only [wp_ok, wp_exc, wp_ret, wp_badM, wp_lift, wp_chk, wp_alloc, wp_grd, wp_tgt, wp_noXe, wp_dVar, wp_dC, wp_aNil, wp_aCons, wp_dTup, wp_dLst, wp_dOp, wp_dUn, wp_dFn, wB_bl, wp_dChain, wp_dTru, wp_dBool, wp_dNot, wp_dAnd, wp_dOr, wp_dAndV, wp_dOrV, wp_dNotV, wp_dIfE, wp_dYes, wp_dCall, wp_dCallK, wp_dIsi, wp_dIsi2, wp_dMt, wp_oN, wI_int, wp_oS, wp_dSl, wp_dSrc, wp_dZip, wp_dRng1, wp_dRng2, wp_dEnum, wp_dLc, wpS_nx, wpS_rt, wpS_bk, wpS_ct, wpS_exc, wpS_bad, wpS_ite, wpS_dSeq, wpS_dNx, wpS_dBk, wpS_dCt, wpS_dDrop, wpS_dRet, wpS_dRetN, wpS_dIf, wpS_dSet, wpS_dAsg, wpS_dPar, wpS_dPar3, wpS_dSet2, wpS_dPut, wpS_dRaise, wpS_dFor, wp_dfn, wO_some, wO_none, wO_map, wO_bind, wO_ite, List.map_cons, List.map_nil, List.replicate_succ, List.replicate_zero, List.cons_append, List.nil_append, Nat.reduceSub, Nat.reduceAdd, List.getElem?_cons_zero, List.getElem?_cons_succ, List.set_cons_zero, List.set_cons_succ, List.length_cons, List.length_nil, tgN, tgNil, tgCons, tgTup, wipeE, isT, String.reduceBEq, Bool.and_false, Bool.false_and, Bool.true_and, Bool.and_true, Bool.or_false, Bool.false_or, Bool.true_or, Bool.or_true, Bool.not_true, Bool.not_false, if_true, if_false, true_and, and_true, Bool.false_eq_true, Bool.true_eq_false, reduceIte, opEq_int, opNe_int, opEq_str, opNe_str, opAdd_int, opSub_int, opMod_pos, opLt_int, opLe_int, opGt_int, opGe_int, opLt_str, opLe_str, opIsN_ref, opIsN_non, opIsN_int, opIsN_tup, opIsN_str, opIsN_bl, opEq_bl, opNe_bl, opFdiv_int, opMul_int, opPow_int, atI_0, atI_1, atI_2, opIx_ref, opIx_tup, opIx_rl, opLen_tup, opLen_str, opLen_rl, opMax2_int, opMin2_int, opInt_int, opInt_bl, tyN_non, tyN_bl, tyN_int, tyN_str, tyN_tup, tyN_rl, truthW_bl, srcW_tup, srcW_rl, srcW_ref g, List.length_map, lenOk_of (show es.length ≤ 1000000 by omega)]
  refine wp_mono (wp_lcP (c := eW) (xs := es) (fun e => e.1 == x) eW (fun S' => Fr 0 S S') Fr.refl (fun S' f => f.g0 g) ?_) ?_ (fun _ _ q => q)
  · intro i e S' _ f
    simp only [wp_ok, wp_exc, wp_ret, wp_badM, wp_lift, wp_chk, wp_alloc, wp_grd, wp_tgt, wp_noXe, wp_dVar, wp_dC, wp_aNil, wp_aCons, wp_dTup, wp_dLst, wp_dOp, wp_dUn, wp_dFn, wB_bl, wp_dChain, wp_dTru, wp_dBool, wp_dNot, wp_dAnd, wp_dOr, wp_dAndV, wp_dOrV, wp_dNotV, wp_dIfE, wp_dYes, wp_dCall, wp_dCallK, wp_dIsi, wp_dIsi2, wp_dMt, wp_oN, wI_int, wp_oS, wp_dSl, wp_dSrc, wp_dZip, wp_dRng1, wp_dRng2, wp_dEnum, wp_dLc, wpS_nx, wpS_rt, wpS_bk, wpS_ct, wpS_exc, wpS_bad, wpS_ite, wpS_dSeq, wpS_dNx, wpS_dBk, wpS_dCt, wpS_dDrop, wpS_dRet, wpS_dRetN, wpS_dIf, wpS_dSet, wpS_dAsg, wpS_dPar, wpS_dPar3, wpS_dSet2, wpS_dPut, wpS_dRaise, wpS_dFor, wp_dfn, wO_some, wO_none, wO_map, wO_bind, wO_ite, List.map_cons, List.map_nil, List.replicate_succ, List.replicate_zero, List.cons_append, List.nil_append, Nat.reduceSub, Nat.reduceAdd, List.getElem?_cons_zero, List.getElem?_cons_succ, List.set_cons_zero, List.set_cons_succ, List.length_cons, List.length_nil, tgN, tgNil, tgCons, tgTup, wipeE, isT, String.reduceBEq, Bool.and_false, Bool.false_and, Bool.true_and, Bool.and_true, Bool.or_false, Bool.false_or, Bool.true_or, Bool.or_true, Bool.not_true, Bool.not_false, if_true, if_false, true_and, and_true, Bool.false_eq_true, Bool.true_eq_false, reduceIte, opEq_int, opNe_int, opEq_str, opNe_str, opAdd_int, opSub_int, opMod_pos, opLt_int, opLe_int, opGt_int, opGe_int, opLt_str, opLe_str, opIsN_ref, opIsN_non, opIsN_int, opIsN_tup, opIsN_str, opIsN_bl, opEq_bl, opNe_bl, opFdiv_int, opMul_int, opPow_int, atI_0, atI_1, atI_2, opIx_ref, opIx_tup, opIx_rl, opLen_tup, opLen_str, opLen_rl, opMax2_int, opMin2_int, opInt_int, opInt_bl, tyN_non, tyN_bl, tyN_int, tyN_str, tyN_tup, tyN_rl, truthW_bl, srcW_tup, srcW_rl]
    split <;> exact f
  rintro ws S3 ⟨rfl, f3⟩
  have lo : (own es x).length ≤ 1000 := Nat.le_trans (List.length_filter_le _ _) hl
  have go : (S3 ++ [O.lst ((own es x).map eW)])[S3.length]? = some (.lst ((own es x).map eW)) := get_new
  have fo : Fr 0 S (S3 ++ [O.lst ((own es x).map eW)]) := f3.snoc
  have e0 : List.filter (fun e : Ent => e.1 == x) es = own es x := rfl
  rw [e0]
  generalize S3 ++ [O.lst ((own es x).map eW)] = T at go fo ⊢
  simp only [wp_ok, wp_exc, wp_ret, wp_badM, wp_lift, wp_chk, wp_alloc, wp_grd, wp_tgt, wp_noXe, wp_dVar, wp_dC, wp_aNil, wp_aCons, wp_dTup, wp_dLst, wp_dOp, wp_dUn, wp_dFn, wB_bl, wp_dChain, wp_dTru, wp_dBool, wp_dNot, wp_dAnd, wp_dOr, wp_dAndV, wp_dOrV, wp_dNotV, wp_dIfE, wp_dYes, wp_dCall, wp_dCallK, wp_dIsi, wp_dIsi2, wp_dMt, wp_oN, wI_int, wp_oS, wp_dSl, wp_dSrc, wp_dZip, wp_dRng1, wp_dRng2, wp_dEnum, wp_dLc, wpS_nx, wpS_rt, wpS_bk, wpS_ct, wpS_exc, wpS_bad, wpS_ite, wpS_dSeq, wpS_dNx, wpS_dBk, wpS_dCt, wpS_dDrop, wpS_dRet, wpS_dRetN, wpS_dIf, wpS_dSet, wpS_dAsg, wpS_dPar, wpS_dPar3, wpS_dSet2, wpS_dPut, wpS_dRaise, wpS_dFor, wp_dfn, wO_some, wO_none, wO_map, wO_bind, wO_ite, List.map_cons, List.map_nil, List.replicate_succ, List.replicate_zero, List.cons_append, List.nil_append, Nat.reduceSub, Nat.reduceAdd, List.getElem?_cons_zero, List.getElem?_cons_succ, List.set_cons_zero, List.set_cons_succ, List.length_cons, List.length_nil, tgN, tgNil, tgCons, tgTup, wipeE, isT, String.reduceBEq, Bool.and_false, Bool.false_and, Bool.true_and, Bool.and_true, Bool.or_false, Bool.false_or, Bool.true_or, Bool.or_true, Bool.not_true, Bool.not_false, if_true, if_false, true_and, and_true, Bool.false_eq_true, Bool.true_eq_false, reduceIte, opEq_int, opNe_int, opEq_str, opNe_str, opAdd_int, opSub_int, opMod_pos, opLt_int, opLe_int, opGt_int, opGe_int, opLt_str, opLe_str, opIsN_ref, opIsN_non, opIsN_int, opIsN_tup, opIsN_str, opIsN_bl, opEq_bl, opNe_bl, opFdiv_int, opMul_int, opPow_int, atI_0, atI_1, atI_2, opIx_ref, opIx_tup, opIx_rl, opLen_tup, opLen_str, opLen_rl, opMax2_int, opMin2_int, opInt_int, opInt_bl, tyN_non, tyN_bl, tyN_int, tyN_str, tyN_tup, tyN_rl, truthW_bl, srcW_tup, srcW_rl, srcW_ref go, List.length_map, lenOk_of (show (own es x).length ≤ 1000000 by omega), lenOk_of (show 0 ≤ 1000000 by decide)]
  refine wp_mono (wp_lcP (c := eW) (xs := own es x) (fun e => e.2.2 == d) (fun _ => .int 1) (fun S' => Fr 0 T S') Fr.refl (fun S' f => f.g0 go) ?_) ?_ (fun _ _ q => q)
  · intro i e S' _ f
    simp only [wp_ok, wp_exc, wp_ret, wp_badM, wp_lift, wp_chk, wp_alloc, wp_grd, wp_tgt, wp_noXe, wp_dVar, wp_dC, wp_aNil, wp_aCons, wp_dTup, wp_dLst, wp_dOp, wp_dUn, wp_dFn, wB_bl, wp_dChain, wp_dTru, wp_dBool, wp_dNot, wp_dAnd, wp_dOr, wp_dAndV, wp_dOrV, wp_dNotV, wp_dIfE, wp_dYes, wp_dCall, wp_dCallK, wp_dIsi, wp_dIsi2, wp_dMt, wp_oN, wI_int, wp_oS, wp_dSl, wp_dSrc, wp_dZip, wp_dRng1, wp_dRng2, wp_dEnum, wp_dLc, wpS_nx, wpS_rt, wpS_bk, wpS_ct, wpS_exc, wpS_bad, wpS_ite, wpS_dSeq, wpS_dNx, wpS_dBk, wpS_dCt, wpS_dDrop, wpS_dRet, wpS_dRetN, wpS_dIf, wpS_dSet, wpS_dAsg, wpS_dPar, wpS_dPar3, wpS_dSet2, wpS_dPut, wpS_dRaise, wpS_dFor, wp_dfn, wO_some, wO_none, wO_map, wO_bind, wO_ite, List.map_cons, List.map_nil, List.replicate_succ, List.replicate_zero, List.cons_append, List.nil_append, Nat.reduceSub, Nat.reduceAdd, List.getElem?_cons_zero, List.getElem?_cons_succ, List.set_cons_zero, List.set_cons_succ, List.length_cons, List.length_nil, tgN, tgNil, tgCons, tgTup, wipeE, isT, String.reduceBEq, Bool.and_false, Bool.false_and, Bool.true_and, Bool.and_true, Bool.or_false, Bool.false_or, Bool.true_or, Bool.or_true, Bool.not_true, Bool.not_false, if_true, if_false, true_and, and_true, Bool.false_eq_true, Bool.true_eq_false, reduceIte, opEq_int, opNe_int, opEq_str, opNe_str, opAdd_int, opSub_int, opMod_pos, opLt_int, opLe_int, opGt_int, opGe_int, opLt_str, opLe_str, opIsN_ref, opIsN_non, opIsN_int, opIsN_tup, opIsN_str, opIsN_bl, opEq_bl, opNe_bl, opFdiv_int, opMul_int, opPow_int, atI_0, atI_1, atI_2, opIx_ref, opIx_tup, opIx_rl, opLen_tup, opLen_str, opLen_rl, opMax2_int, opMin2_int, opInt_int, opInt_bl, tyN_non, tyN_bl, tyN_int, tyN_str, tyN_tup, tyN_rl, truthW_bl, srcW_tup, srcW_rl]
    split <;> exact f
  rintro ws S4 ⟨rfl, f4⟩
  have ones : ∀ (p : Ent → Bool), ∀ w ∈ (List.filter p (own es x)).map (fun _ => W.int 1), w = .int 1 := fun p w hw => by
    obtain ⟨_, _, rfl⟩ := List.mem_map.mp hw; rfl
  have emp : ∀ (p : Ent → Bool), (!((List.filter p (own es x)).map (fun _ => W.int 1)).isEmpty) = (own es x).any p := fun p => by
    induction (own es x) with
    | nil => rfl
    | cons a as ih => cases h : p a <;> simp [h] <;> simpa using ih
  rw [opNe_ones (Fr.app.g0 get_new) get_new (ones _), wO_some, emp]
  simp only [wp_ok, wp_exc, wp_ret, wp_badM, wp_lift, wp_chk, wp_alloc, wp_grd, wp_tgt, wp_noXe, wp_dVar, wp_dC, wp_aNil, wp_aCons, wp_dTup, wp_dLst, wp_dOp, wp_dUn, wp_dFn, wB_bl, wp_dChain, wp_dTru, wp_dBool, wp_dNot, wp_dAnd, wp_dOr, wp_dAndV, wp_dOrV, wp_dNotV, wp_dIfE, wp_dYes, wp_dCall, wp_dCallK, wp_dIsi, wp_dIsi2, wp_dMt, wp_oN, wI_int, wp_oS, wp_dSl, wp_dSrc, wp_dZip, wp_dRng1, wp_dRng2, wp_dEnum, wp_dLc, wpS_nx, wpS_rt, wpS_bk, wpS_ct, wpS_exc, wpS_bad, wpS_ite, wpS_dSeq, wpS_dNx, wpS_dBk, wpS_dCt, wpS_dDrop, wpS_dRet, wpS_dRetN, wpS_dIf, wpS_dSet, wpS_dAsg, wpS_dPar, wpS_dPar3, wpS_dSet2, wpS_dPut, wpS_dRaise, wpS_dFor, wp_dfn, wO_some, wO_none, wO_map, wO_bind, wO_ite, List.map_cons, List.map_nil, List.replicate_succ, List.replicate_zero, List.cons_append, List.nil_append, Nat.reduceSub, Nat.reduceAdd, List.getElem?_cons_zero, List.getElem?_cons_succ, List.set_cons_zero, List.set_cons_succ, List.length_cons, List.length_nil, tgN, tgNil, tgCons, tgTup, wipeE, isT, String.reduceBEq, Bool.and_false, Bool.false_and, Bool.true_and, Bool.and_true, Bool.or_false, Bool.false_or, Bool.true_or, Bool.or_true, Bool.not_true, Bool.not_false, if_true, if_false, true_and, and_true, Bool.false_eq_true, Bool.true_eq_false, reduceIte, opEq_int, opNe_int, opEq_str, opNe_str, opAdd_int, opSub_int, opMod_pos, opLt_int, opLe_int, opGt_int, opGe_int, opLt_str, opLe_str, opIsN_ref, opIsN_non, opIsN_int, opIsN_tup, opIsN_str, opIsN_bl, opEq_bl, opNe_bl, opFdiv_int, opMul_int, opPow_int, atI_0, atI_1, atI_2, opIx_ref, opIx_tup, opIx_rl, opLen_tup, opLen_str, opLen_rl, opMax2_int, opMin2_int, opInt_int, opInt_bl, tyN_non, tyN_bl, tyN_int, tyN_str, tyN_tup, tyN_rl, truthW_bl, srcW_tup, srcW_rl]
  have go5 : (S4 ++ [O.lst ((List.filter (fun e : Ent => e.2.2 == d) (own es x)).map fun _ => W.int 1)] ++ [O.lst []])[S3.length]? = some (.lst ((own es x).map eW)) := Fr.app.g0 (Fr.app.g0 (f4.g0 go))
  have f5 : Fr 0 T (S4 ++ [O.lst ((List.filter (fun e : Ent => e.2.2 == d) (own es x)).map fun _ => W.int 1)] ++ [O.lst []]) := f4.snoc.snoc
  generalize S4 ++ [O.lst ((List.filter (fun e : Ent => e.2.2 == d) (own es x)).map fun _ => W.int 1)] ++ [O.lst []] = U at go5 f5 ⊢
  unfold stateOf
  split
  · exact ⟨rfl, fo.trans f5⟩
  · simp only [wp_ok, wp_exc, wp_ret, wp_badM, wp_lift, wp_chk, wp_alloc, wp_grd, wp_tgt, wp_noXe, wp_dVar, wp_dC, wp_aNil, wp_aCons, wp_dTup, wp_dLst, wp_dOp, wp_dUn, wp_dFn, wB_bl, wp_dChain, wp_dTru, wp_dBool, wp_dNot, wp_dAnd, wp_dOr, wp_dAndV, wp_dOrV, wp_dNotV, wp_dIfE, wp_dYes, wp_dCall, wp_dCallK, wp_dIsi, wp_dIsi2, wp_dMt, wp_oN, wI_int, wp_oS, wp_dSl, wp_dSrc, wp_dZip, wp_dRng1, wp_dRng2, wp_dEnum, wp_dLc, wpS_nx, wpS_rt, wpS_bk, wpS_ct, wpS_exc, wpS_bad, wpS_ite, wpS_dSeq, wpS_dNx, wpS_dBk, wpS_dCt, wpS_dDrop, wpS_dRet, wpS_dRetN, wpS_dIf, wpS_dSet, wpS_dAsg, wpS_dPar, wpS_dPar3, wpS_dSet2, wpS_dPut, wpS_dRaise, wpS_dFor, wp_dfn, wO_some, wO_none, wO_map, wO_bind, wO_ite, List.map_cons, List.map_nil, List.replicate_succ, List.replicate_zero, List.cons_append, List.nil_append, Nat.reduceSub, Nat.reduceAdd, List.getElem?_cons_zero, List.getElem?_cons_succ, List.set_cons_zero, List.set_cons_succ, List.length_cons, List.length_nil, tgN, tgNil, tgCons, tgTup, wipeE, isT, String.reduceBEq, Bool.and_false, Bool.false_and, Bool.true_and, Bool.and_true, Bool.or_false, Bool.false_or, Bool.true_or, Bool.or_true, Bool.not_true, Bool.not_false, if_true, if_false, true_and, and_true, Bool.false_eq_true, Bool.true_eq_false, reduceIte, opEq_int, opNe_int, opEq_str, opNe_str, opAdd_int, opSub_int, opMod_pos, opLt_int, opLe_int, opGt_int, opGe_int, opLt_str, opLe_str, opIsN_ref, opIsN_non, opIsN_int, opIsN_tup, opIsN_str, opIsN_bl, opEq_bl, opNe_bl, opFdiv_int, opMul_int, opPow_int, atI_0, atI_1, atI_2, opIx_ref, opIx_tup, opIx_rl, opLen_tup, opLen_str, opLen_rl, opMax2_int, opMin2_int, opInt_int, opInt_bl, tyN_non, tyN_bl, tyN_int, tyN_str, tyN_tup, tyN_rl, truthW_bl, srcW_tup, srcW_rl, srcW_ref go5, List.length_map, lenOk_of (show (own es x).length ≤ 1000000 by omega), lenOk_of (show 0 ≤ 1000000 by decide)]
    refine wp_mono (wp_lcP (c := eW) (xs := own es x) (fun e => closes e d) (fun _ => .int 1) (fun S' => Fr 0 U S') Fr.refl (fun S' f => f.g0 go5) ?_) ?_ (fun _ _ q => q)
    · intro i e S' _ f
      simp only [wp_ok, wp_exc, wp_ret, wp_badM, wp_lift, wp_chk, wp_alloc, wp_grd, wp_tgt, wp_noXe, wp_dVar, wp_dC, wp_aNil, wp_aCons, wp_dTup, wp_dLst, wp_dOp, wp_dUn, wp_dFn, wB_bl, wp_dChain, wp_dTru, wp_dBool, wp_dNot, wp_dAnd, wp_dOr, wp_dAndV, wp_dOrV, wp_dNotV, wp_dIfE, wp_dYes, wp_dCall, wp_dCallK, wp_dIsi, wp_dIsi2, wp_dMt, wp_oN, wI_int, wp_oS, wp_dSl, wp_dSrc, wp_dZip, wp_dRng1, wp_dRng2, wp_dEnum, wp_dLc, wpS_nx, wpS_rt, wpS_bk, wpS_ct, wpS_exc, wpS_bad, wpS_ite, wpS_dSeq, wpS_dNx, wpS_dBk, wpS_dCt, wpS_dDrop, wpS_dRet, wpS_dRetN, wpS_dIf, wpS_dSet, wpS_dAsg, wpS_dPar, wpS_dPar3, wpS_dSet2, wpS_dPut, wpS_dRaise, wpS_dFor, wp_dfn, wO_some, wO_none, wO_map, wO_bind, wO_ite, List.map_cons, List.map_nil, List.replicate_succ, List.replicate_zero, List.cons_append, List.nil_append, Nat.reduceSub, Nat.reduceAdd, List.getElem?_cons_zero, List.getElem?_cons_succ, List.set_cons_zero, List.set_cons_succ, List.length_cons, List.length_nil, tgN, tgNil, tgCons, tgTup, wipeE, isT, String.reduceBEq, Bool.and_false, Bool.false_and, Bool.true_and, Bool.and_true, Bool.or_false, Bool.false_or, Bool.true_or, Bool.or_true, Bool.not_true, Bool.not_false, if_true, if_false, true_and, and_true, Bool.false_eq_true, Bool.true_eq_false, reduceIte, opEq_int, opNe_int, opEq_str, opNe_str, opAdd_int, opSub_int, opMod_pos, opLt_int, opLe_int, opGt_int, opGe_int, opLt_str, opLe_str, opIsN_ref, opIsN_non, opIsN_int, opIsN_tup, opIsN_str, opIsN_bl, opEq_bl, opNe_bl, opFdiv_int, opMul_int, opPow_int, atI_0, atI_1, atI_2, opIx_ref, opIx_tup, opIx_rl, opLen_tup, opLen_str, opLen_rl, opMax2_int, opMin2_int, opInt_int, opInt_bl, tyN_non, tyN_bl, tyN_int, tyN_str, tyN_tup, tyN_rl, truthW_bl, srcW_tup, srcW_rl]
      refine law_closes_spec ?_
      simp only [wp_ok, wp_exc, wp_ret, wp_badM, wp_lift, wp_chk, wp_alloc, wp_grd, wp_tgt, wp_noXe, wp_dVar, wp_dC, wp_aNil, wp_aCons, wp_dTup, wp_dLst, wp_dOp, wp_dUn, wp_dFn, wB_bl, wp_dChain, wp_dTru, wp_dBool, wp_dNot, wp_dAnd, wp_dOr, wp_dAndV, wp_dOrV, wp_dNotV, wp_dIfE, wp_dYes, wp_dCall, wp_dCallK, wp_dIsi, wp_dIsi2, wp_dMt, wp_oN, wI_int, wp_oS, wp_dSl, wp_dSrc, wp_dZip, wp_dRng1, wp_dRng2, wp_dEnum, wp_dLc, wpS_nx, wpS_rt, wpS_bk, wpS_ct, wpS_exc, wpS_bad, wpS_ite, wpS_dSeq, wpS_dNx, wpS_dBk, wpS_dCt, wpS_dDrop, wpS_dRet, wpS_dRetN, wpS_dIf, wpS_dSet, wpS_dAsg, wpS_dPar, wpS_dPar3, wpS_dSet2, wpS_dPut, wpS_dRaise, wpS_dFor, wp_dfn, wO_some, wO_none, wO_map, wO_bind, wO_ite, List.map_cons, List.map_nil, List.replicate_succ, List.replicate_zero, List.cons_append, List.nil_append, Nat.reduceSub, Nat.reduceAdd, List.getElem?_cons_zero, List.getElem?_cons_succ, List.set_cons_zero, List.set_cons_succ, List.length_cons, List.length_nil, tgN, tgNil, tgCons, tgTup, wipeE, isT, String.reduceBEq, Bool.and_false, Bool.false_and, Bool.true_and, Bool.and_true, Bool.or_false, Bool.false_or, Bool.true_or, Bool.or_true, Bool.not_true, Bool.not_false, if_true, if_false, true_and, and_true, Bool.false_eq_true, Bool.true_eq_false, reduceIte, opEq_int, opNe_int, opEq_str, opNe_str, opAdd_int, opSub_int, opMod_pos, opLt_int, opLe_int, opGt_int, opGe_int, opLt_str, opLe_str, opIsN_ref, opIsN_non, opIsN_int, opIsN_tup, opIsN_str, opIsN_bl, opEq_bl, opNe_bl, opFdiv_int, opMul_int, opPow_int, atI_0, atI_1, atI_2, opIx_ref, opIx_tup, opIx_rl, opLen_tup, opLen_str, opLen_rl, opMax2_int, opMin2_int, opInt_int, opInt_bl, tyN_non, tyN_bl, tyN_int, tyN_str, tyN_tup, tyN_rl, truthW_bl, srcW_tup, srcW_rl]
      split <;> exact f
    rintro ws S6 ⟨rfl, f6⟩
    rw [opNe_ones (Fr.app.g0 get_new) get_new (ones _), wO_some, emp]
    simp only [wp_ok, wp_exc, wp_ret, wp_badM, wp_lift, wp_chk, wp_alloc, wp_grd, wp_tgt, wp_noXe, wp_dVar, wp_dC, wp_aNil, wp_aCons, wp_dTup, wp_dLst, wp_dOp, wp_dUn, wp_dFn, wB_bl, wp_dChain, wp_dTru, wp_dBool, wp_dNot, wp_dAnd, wp_dOr, wp_dAndV, wp_dOrV, wp_dNotV, wp_dIfE, wp_dYes, wp_dCall, wp_dCallK, wp_dIsi, wp_dIsi2, wp_dMt, wp_oN, wI_int, wp_oS, wp_dSl, wp_dSrc, wp_dZip, wp_dRng1, wp_dRng2, wp_dEnum, wp_dLc, wpS_nx, wpS_rt, wpS_bk, wpS_ct, wpS_exc, wpS_bad, wpS_ite, wpS_dSeq, wpS_dNx, wpS_dBk, wpS_dCt, wpS_dDrop, wpS_dRet, wpS_dRetN, wpS_dIf, wpS_dSet, wpS_dAsg, wpS_dPar, wpS_dPar3, wpS_dSet2, wpS_dPut, wpS_dRaise, wpS_dFor, wp_dfn, wO_some, wO_none, wO_map, wO_bind, wO_ite, List.map_cons, List.map_nil, List.replicate_succ, List.replicate_zero, List.cons_append, List.nil_append, Nat.reduceSub, Nat.reduceAdd, List.getElem?_cons_zero, List.getElem?_cons_succ, List.set_cons_zero, List.set_cons_succ, List.length_cons, List.length_nil, tgN, tgNil, tgCons, tgTup, wipeE, isT, String.reduceBEq, Bool.and_false, Bool.false_and, Bool.true_and, Bool.and_true, Bool.or_false, Bool.false_or, Bool.true_or, Bool.or_true, Bool.not_true, Bool.not_false, if_true, if_false, true_and, and_true, Bool.false_eq_true, Bool.true_eq_false, reduceIte, opEq_int, opNe_int, opEq_str, opNe_str, opAdd_int, opSub_int, opMod_pos, opLt_int, opLe_int, opGt_int, opGe_int, opLt_str, opLe_str, opIsN_ref, opIsN_non, opIsN_int, opIsN_tup, opIsN_str, opIsN_bl, opEq_bl, opNe_bl, opFdiv_int, opMul_int, opPow_int, atI_0, atI_1, atI_2, opIx_ref, opIx_tup, opIx_rl, opLen_tup, opLen_str, opLen_rl, opMax2_int, opMin2_int, opInt_int, opInt_bl, tyN_non, tyN_bl, tyN_int, tyN_str, tyN_tup, tyN_rl, truthW_bl, srcW_tup, srcW_rl]
    split <;> exact ⟨rfl, fo.trans (f5.trans f6.snoc.snoc)⟩
/-! ### ranges -/
def overOf (es : List Ent) (x : Str) (d : Int) : List Int := (es.filter fun e => e.1 == x && closes e d).map fun e => e.2.2
def laterOf (es : List Ent) (x : Str) (d : Int) : List Int := (es.filter fun e => e.1 == x && decide (d ≤ e.2.2)).map fun e => e.2.2
theorem lc_two {t : DT} {el : DE} {cnd : DB} {g0 : Store → Prop} {ε0 : Ev} {p : Ent → Bool} (hg : ∀ S', Fr 0 S S' → g0 S')
    (hs : ∀ (e : Ent) S', Fr 0 S S' → wO (t (eW e) ε0 S') fun ε1 => wp (cnd ε1 S') (fun b S1 => b = p e ∧ S1 = S') (fun _ _ => False) ∧ wp (el ε1 S') (fun w S2 => w = .int e.2.2 ∧ S2 = S') (fun _ _ => False)) :
    wp (lcL t cnd el g0 ε0 (es.map eW) S) (fun ws S' => ws = ((es.filter p).map fun e => e.2.2).map W.int ∧ Fr 0 S S') E := by
  refine wp_mono (wp_lcP (c := eW) (xs := es) p (fun e => .int e.2.2) (fun S' => Fr 0 S S') Fr.refl hg ?_) (fun ws S' ⟨e, f⟩ => ⟨by rw [e, List.map_map]; rfl, f⟩) (fun _ _ q => q)
  intro i e S' _ f
  have := hs e S' f
  cases z : t (eW e) ε0 S' with
  | none => rw [z] at this; exact this.elim
  | some ε1 =>
    rw [z] at this
    rw [wO_some] at this ⊢
    refine wp_mono this.1 (fun b S1 ⟨hb, hS⟩ => ⟨hb, ?_⟩) (fun _ _ q => q)
    rw [hS]
    split
    · exact wp_mono this.2 (fun w S2 ⟨hw, hS2⟩ => ⟨hw, by rw [hS2]; exact f⟩) (fun _ _ q => q)
    · exact f
theorem intsOf_map : ∀ {ns : List Int}, intsOf (ns.map W.int) = some ns
  | [] => rfl
  | n :: ns => by
    have ih : intsOf (ns.map W.int) = some ns := intsOf_map
    unfold intsOf at ih ⊢
    rw [List.map_cons]
    simp only [mapO, ih]
theorem opMaxL_ref {q : Nat} {ns : List Int} {S : Store} (g : S[q]? = some (.lst (ns.map W.int))) (h : ns ≠ []) : opMaxL [.ref q] S = some (.int (maxI ns), S) := by
  unfold opMaxL
  simp only [listW_ref g, Option.bind_some, intsOf_map]
  rw [if_pos (by cases ns with | nil => exact absurd rfl h | cons _ _ => rfl)]
theorem opMinL_ref {q : Nat} {ns : List Int} {S : Store} (g : S[q]? = some (.lst (ns.map W.int))) (h : ns ≠ []) : opMinL [.ref q] S = some (.int (minI ns), S) := by
  unfold opMinL
  simp only [listW_ref g, Option.bind_some, intsOf_map]
  rw [if_pos (by cases ns with | nil => exact absurd rfl h | cons _ _ => rfl)]
theorem opSorted_ref {q : Nat} {ns : List Int} {S : Store} (g : S[q]? = some (.lst (ns.map W.int))) : opSorted [.ref q] S = some (.ref S.length, S ++ [.lst ((ns.mergeSort leI).map W.int)]) := by
  unfold opSorted
  simp only [listW_ref g, Option.bind_some, intsOf_map]
theorem toD_intsL {S : Store} {k : Nat} {ns : List Int} : mapO (toD S (k + 1)) (ns.map W.int) = some (ns.map PyData.int) := mapO_map fun _ _ => rfl
theorem opNe_intsNil {q m : Nat} {ns : List Int} {S : Store} (h1 : S[q]? = some (.lst (ns.map W.int))) (h2 : S[m]? = some (.lst [])) : opNe (.ref q) (.ref m) S = some (.bl (!ns.isEmpty), S) := by
  unfold opNe
  rw [toD_lst h1, toD_lst h2, toD_intsL]
  show some (W.bl (!PyData.eqv _ _), S) = _
  rw [eqv_nil]
theorem opEq_intsNil {q m : Nat} {ns : List Int} {S : Store} (h1 : S[q]? = some (.lst (ns.map W.int))) (h2 : S[m]? = some (.lst [])) : opEq (.ref q) (.ref m) S = some (.bl ns.isEmpty, S) := by
  unfold opEq
  rw [toD_lst h1, toD_lst h2, toD_intsL]
  show some (W.bl (PyData.eqv _ _), S) = _
  rw [eqv_nil]
theorem sorted_head {ns : List Int} (h : ns ≠ []) : (ns.mergeSort leI)[0]? = some (minI ns) := by
  have hp := List.mergeSort_perm ns leI
  have hs := leI_sorted ns
  cases z : ns.mergeSort leI with
  | nil =>
    rw [z] at hp
    exact absurd hp.symm.eq_nil h
  | cons a as =>
    rw [z] at hp hs
    have h1 : a ∈ ns := hp.mem_iff.mp (List.mem_cons_self ..)
    have h2 : ∀ y ∈ ns, a ≤ y := fun y hy => by
      rcases List.mem_cons.mp (hp.mem_iff.mpr hy) with e | hy
      · rw [e]; exact Int.le_refl _
      · exact (List.pairwise_cons.mp hs).1 y hy
    rw [minI_uniq h h1 h2]
    rfl
theorem first_of_spec (g : S[n]? = some (.lst (es.map eW))) (hl : es.length ≤ 1000) : wp (n_first_of [.ref n, .str x, .int d] S) (fun r S' => r = .int (maxI (d :: overOf es x d)) ∧ Fr 0 S S') E := by
  unfold n_first_of d_first_of
  have g1 : (S ++ [O.lst [W.int d]])[n]? = some (.lst (es.map eW)) := Fr.app.g0 g
  simp only [wp_ok, wp_exc, wp_ret, wp_badM, wp_lift, wp_chk, wp_alloc, wp_grd, wp_tgt, wp_noXe, wp_dVar, wp_dC, wp_aNil, wp_aCons, wp_dTup, wp_dLst, wp_dOp, wp_dUn, wp_dFn, wB_bl, wp_dChain, wp_dTru, wp_dBool, wp_dNot, wp_dAnd, wp_dOr, wp_dAndV, wp_dOrV, wp_dNotV, wp_dIfE, wp_dYes, wp_dCall, wp_dCallK, wp_dIsi, wp_dIsi2, wp_dMt, wp_oN, wI_int, wp_oS, wp_dSl, wp_dSrc, wp_dZip, wp_dRng1, wp_dRng2, wp_dEnum, wp_dLc, wpS_nx, wpS_rt, wpS_bk, wpS_ct, wpS_exc, wpS_bad, wpS_ite, wpS_dSeq, wpS_dNx, wpS_dBk, wpS_dCt, wpS_dDrop, wpS_dRet, wpS_dRetN, wpS_dIf, wpS_dSet, wpS_dAsg, wpS_dPar, wpS_dPar3, wpS_dSet2, wpS_dPut, wpS_dRaise, wpS_dFor, wp_dfn, wO_some, wO_none, wO_map, wO_bind, wO_ite, List.map_cons, List.map_nil, List.replicate_succ, List.replicate_zero, List.cons_append, List.nil_append, Nat.reduceSub, Nat.reduceAdd, List.getElem?_cons_zero, List.getElem?_cons_succ, List.set_cons_zero, List.set_cons_succ, List.length_cons, List.length_nil, tgN, tgNil, tgCons, tgTup, wipeE, isT, String.reduceBEq, Bool.and_false, Bool.false_and, Bool.true_and, Bool.and_true, Bool.or_false, Bool.false_or, Bool.true_or, Bool.or_true, Bool.not_true, Bool.not_false, if_true, if_false, true_and, and_true, Bool.false_eq_true, Bool.true_eq_false, reduceIte, opEq_int, opNe_int, opEq_str, opNe_str, opAdd_int, opSub_int, opMod_pos, opLt_int, opLe_int, opGt_int, opGe_int, opLt_str, opLe_str, opIsN_ref, opIsN_non, opIsN_int, opIsN_tup, opIsN_str, opIsN_bl, opEq_bl, opNe_bl, opFdiv_int, opMul_int, opPow_int, atI_0, atI_1, atI_2, opIx_ref, opIx_tup, opIx_rl, opLen_tup, opLen_str, opLen_rl, opMax2_int, opMin2_int, opInt_int, opInt_bl, tyN_non, tyN_bl, tyN_int, tyN_str, tyN_tup, tyN_rl, truthW_bl, srcW_tup, srcW_rl, lenOk_of (show 1 ≤ 1000000 by decide), srcW_ref g1, List.length_map, lenOk_of (show es.length ≤ 1000000 by omega)]
  refine wp_mono (lc_two (p := fun e => e.1 == x && closes e d) (fun S' f => f.g0 g1) ?_) ?_ (fun _ _ q => q)
  · intro e S' f
    simp only [wp_ok, wp_exc, wp_ret, wp_badM, wp_lift, wp_chk, wp_alloc, wp_grd, wp_tgt, wp_noXe, wp_dVar, wp_dC, wp_aNil, wp_aCons, wp_dTup, wp_dLst, wp_dOp, wp_dUn, wp_dFn, wB_bl, wp_dChain, wp_dTru, wp_dBool, wp_dNot, wp_dAnd, wp_dOr, wp_dAndV, wp_dOrV, wp_dNotV, wp_dIfE, wp_dYes, wp_dCall, wp_dCallK, wp_dIsi, wp_dIsi2, wp_dMt, wp_oN, wI_int, wp_oS, wp_dSl, wp_dSrc, wp_dZip, wp_dRng1, wp_dRng2, wp_dEnum, wp_dLc, wpS_nx, wpS_rt, wpS_bk, wpS_ct, wpS_exc, wpS_bad, wpS_ite, wpS_dSeq, wpS_dNx, wpS_dBk, wpS_dCt, wpS_dDrop, wpS_dRet, wpS_dRetN, wpS_dIf, wpS_dSet, wpS_dAsg, wpS_dPar, wpS_dPar3, wpS_dSet2, wpS_dPut, wpS_dRaise, wpS_dFor, wp_dfn, wO_some, wO_none, wO_map, wO_bind, wO_ite, List.map_cons, List.map_nil, List.replicate_succ, List.replicate_zero, List.cons_append, List.nil_append, Nat.reduceSub, Nat.reduceAdd, List.getElem?_cons_zero, List.getElem?_cons_succ, List.set_cons_zero, List.set_cons_succ, List.length_cons, List.length_nil, tgN, tgNil, tgCons, tgTup, wipeE, isT, String.reduceBEq, Bool.and_false, Bool.false_and, Bool.true_and, Bool.and_true, Bool.or_false, Bool.false_or, Bool.true_or, Bool.or_true, Bool.not_true, Bool.not_false, if_true, if_false, true_and, and_true, Bool.false_eq_true, Bool.true_eq_false, reduceIte, opEq_int, opNe_int, opEq_str, opNe_str, opAdd_int, opSub_int, opMod_pos, opLt_int, opLe_int, opGt_int, opGe_int, opLt_str, opLe_str, opIsN_ref, opIsN_non, opIsN_int, opIsN_tup, opIsN_str, opIsN_bl, opEq_bl, opNe_bl, opFdiv_int, opMul_int, opPow_int, atI_0, atI_1, atI_2, opIx_ref, opIx_tup, opIx_rl, opLen_tup, opLen_str, opLen_rl, opMax2_int, opMin2_int, opInt_int, opInt_bl, tyN_non, tyN_bl, tyN_int, tyN_str, tyN_tup, tyN_rl, truthW_bl, srcW_tup, srcW_rl]
    split
    · rename_i h
      refine law_closes_spec ?_
      simp only [wp_ok, wp_exc, wp_ret, wp_badM, wp_lift, wp_chk, wp_alloc, wp_grd, wp_tgt, wp_noXe, wp_dVar, wp_dC, wp_aNil, wp_aCons, wp_dTup, wp_dLst, wp_dOp, wp_dUn, wp_dFn, wB_bl, wp_dChain, wp_dTru, wp_dBool, wp_dNot, wp_dAnd, wp_dOr, wp_dAndV, wp_dOrV, wp_dNotV, wp_dIfE, wp_dYes, wp_dCall, wp_dCallK, wp_dIsi, wp_dIsi2, wp_dMt, wp_oN, wI_int, wp_oS, wp_dSl, wp_dSrc, wp_dZip, wp_dRng1, wp_dRng2, wp_dEnum, wp_dLc, wpS_nx, wpS_rt, wpS_bk, wpS_ct, wpS_exc, wpS_bad, wpS_ite, wpS_dSeq, wpS_dNx, wpS_dBk, wpS_dCt, wpS_dDrop, wpS_dRet, wpS_dRetN, wpS_dIf, wpS_dSet, wpS_dAsg, wpS_dPar, wpS_dPar3, wpS_dSet2, wpS_dPut, wpS_dRaise, wpS_dFor, wp_dfn, wO_some, wO_none, wO_map, wO_bind, wO_ite, List.map_cons, List.map_nil, List.replicate_succ, List.replicate_zero, List.cons_append, List.nil_append, Nat.reduceSub, Nat.reduceAdd, List.getElem?_cons_zero, List.getElem?_cons_succ, List.set_cons_zero, List.set_cons_succ, List.length_cons, List.length_nil, tgN, tgNil, tgCons, tgTup, wipeE, isT, String.reduceBEq, Bool.and_false, Bool.false_and, Bool.true_and, Bool.and_true, Bool.or_false, Bool.false_or, Bool.true_or, Bool.or_true, Bool.not_true, Bool.not_false, if_true, if_false, true_and, and_true, Bool.false_eq_true, Bool.true_eq_false, reduceIte, opEq_int, opNe_int, opEq_str, opNe_str, opAdd_int, opSub_int, opMod_pos, opLt_int, opLe_int, opGt_int, opGe_int, opLt_str, opLe_str, opIsN_ref, opIsN_non, opIsN_int, opIsN_tup, opIsN_str, opIsN_bl, opEq_bl, opNe_bl, opFdiv_int, opMul_int, opPow_int, atI_0, atI_1, atI_2, opIx_ref, opIx_tup, opIx_rl, opLen_tup, opLen_str, opLen_rl, opMax2_int, opMin2_int, opInt_int, opInt_bl, tyN_non, tyN_bl, tyN_int, tyN_str, tyN_tup, tyN_rl, truthW_bl, srcW_tup, srcW_rl, h]
    · rename_i h
      have : (e.1 == x) = false := by simpa using h
      simp only [this, Bool.false_and]
  rintro ws S1 ⟨rfl, f1⟩
  have e0 : ((List.filter (fun e : Ent => e.1 == x && closes e d) es).map fun e => e.2.2) = overOf es x d := rfl
  rw [e0]
  have lo : (overOf es x d).length ≤ 1000 := by
    unfold overOf
    rw [List.length_map]
    exact Nat.le_trans (List.length_filter_le _ _) hl
  have ga := opAdd_ref (S := S1 ++ [O.lst ((overOf es x d).map W.int)]) (n := S.length) (m := S1.length) (a := [W.int d]) (b := (overOf es x d).map W.int) (Fr.app.g0 (f1.g0 get_new)) get_new (by simp; omega)
  rw [ga, wO_some]
  dsimp only
  have gm : (S1 ++ [O.lst ((overOf es x d).map W.int)] ++ [O.lst ([W.int d] ++ (overOf es x d).map W.int)])[(S1 ++ [O.lst ((overOf es x d).map W.int)]).length]? = some (.lst ((d :: overOf es x d).map W.int)) := get_new
  rw [opMaxL_ref gm (by simp), wO_some]
  exact ⟨rfl, Fr.app.trans (f1.snoc.snoc)⟩
def minO (ns : List Int) : Option Int := if ns.isEmpty then none else some (minI ns)
def optW : Option Int → W
  | none => .non
  | some i => .int i
theorem last_of_spec (g : S[n]? = some (.lst (es.map eW))) (hl : es.length ≤ 1000) : wp (n_last_of [.ref n, .str x, .int d] S) (fun r S' => r = optW (minO (laterOf es x d)) ∧ Fr 0 S S') E := by
  unfold n_last_of d_last_of
  simp only [wp_ok, wp_exc, wp_ret, wp_badM, wp_lift, wp_chk, wp_alloc, wp_grd, wp_tgt, wp_noXe, wp_dVar, wp_dC, wp_aNil, wp_aCons, wp_dTup, wp_dLst, wp_dOp, wp_dUn, wp_dFn, wB_bl, wp_dChain, wp_dTru, wp_dBool, wp_dNot, wp_dAnd, wp_dOr, wp_dAndV, wp_dOrV, wp_dNotV, wp_dIfE, wp_dYes, wp_dCall, wp_dCallK, wp_dIsi, wp_dIsi2, wp_dMt, wp_oN, wI_int, wp_oS, wp_dSl, wp_dSrc, wp_dZip, wp_dRng1, wp_dRng2, wp_dEnum, wp_dLc, wpS_nx, wpS_rt, wpS_bk, wpS_ct, wpS_exc, wpS_bad, wpS_ite, wpS_dSeq, wpS_dNx, wpS_dBk, wpS_dCt, wpS_dDrop, wpS_dRet, wpS_dRetN, wpS_dIf, wpS_dSet, wpS_dAsg, wpS_dPar, wpS_dPar3, wpS_dSet2, wpS_dPut, wpS_dRaise, wpS_dFor, wp_dfn, wO_some, wO_none, wO_map, wO_bind, wO_ite, List.map_cons, List.map_nil, List.replicate_succ, List.replicate_zero, List.cons_append, List.nil_append, Nat.reduceSub, Nat.reduceAdd, List.getElem?_cons_zero, List.getElem?_cons_succ, List.set_cons_zero, List.set_cons_succ, List.length_cons, List.length_nil, tgN, tgNil, tgCons, tgTup, wipeE, isT, String.reduceBEq, Bool.and_false, Bool.false_and, Bool.true_and, Bool.and_true, Bool.or_false, Bool.false_or, Bool.true_or, Bool.or_true, Bool.not_true, Bool.not_false, if_true, if_false, true_and, and_true, Bool.false_eq_true, Bool.true_eq_false, reduceIte, opEq_int, opNe_int, opEq_str, opNe_str, opAdd_int, opSub_int, opMod_pos, opLt_int, opLe_int, opGt_int, opGe_int, opLt_str, opLe_str, opIsN_ref, opIsN_non, opIsN_int, opIsN_tup, opIsN_str, opIsN_bl, opEq_bl, opNe_bl, opFdiv_int, opMul_int, opPow_int, atI_0, atI_1, atI_2, opIx_ref, opIx_tup, opIx_rl, opLen_tup, opLen_str, opLen_rl, opMax2_int, opMin2_int, opInt_int, opInt_bl, tyN_non, tyN_bl, tyN_int, tyN_str, tyN_tup, tyN_rl, truthW_bl, srcW_tup, srcW_rl, srcW_ref g, List.length_map, lenOk_of (show es.length ≤ 1000000 by omega), lenOk_of (show 0 ≤ 1000000 by decide)]
  refine wp_mono (lc_two (p := fun e => e.1 == x && decide (d ≤ e.2.2)) (fun S' f => f.g0 g) ?_) ?_ (fun _ _ q => q)
  · intro e S' f
    simp only [wp_ok, wp_exc, wp_ret, wp_badM, wp_lift, wp_chk, wp_alloc, wp_grd, wp_tgt, wp_noXe, wp_dVar, wp_dC, wp_aNil, wp_aCons, wp_dTup, wp_dLst, wp_dOp, wp_dUn, wp_dFn, wB_bl, wp_dChain, wp_dTru, wp_dBool, wp_dNot, wp_dAnd, wp_dOr, wp_dAndV, wp_dOrV, wp_dNotV, wp_dIfE, wp_dYes, wp_dCall, wp_dCallK, wp_dIsi, wp_dIsi2, wp_dMt, wp_oN, wI_int, wp_oS, wp_dSl, wp_dSrc, wp_dZip, wp_dRng1, wp_dRng2, wp_dEnum, wp_dLc, wpS_nx, wpS_rt, wpS_bk, wpS_ct, wpS_exc, wpS_bad, wpS_ite, wpS_dSeq, wpS_dNx, wpS_dBk, wpS_dCt, wpS_dDrop, wpS_dRet, wpS_dRetN, wpS_dIf, wpS_dSet, wpS_dAsg, wpS_dPar, wpS_dPar3, wpS_dSet2, wpS_dPut, wpS_dRaise, wpS_dFor, wp_dfn, wO_some, wO_none, wO_map, wO_bind, wO_ite, List.map_cons, List.map_nil, List.replicate_succ, List.replicate_zero, List.cons_append, List.nil_append, Nat.reduceSub, Nat.reduceAdd, List.getElem?_cons_zero, List.getElem?_cons_succ, List.set_cons_zero, List.set_cons_succ, List.length_cons, List.length_nil, tgN, tgNil, tgCons, tgTup, wipeE, isT, String.reduceBEq, Bool.and_false, Bool.false_and, Bool.true_and, Bool.and_true, Bool.or_false, Bool.false_or, Bool.true_or, Bool.or_true, Bool.not_true, Bool.not_false, if_true, if_false, true_and, and_true, Bool.false_eq_true, Bool.true_eq_false, reduceIte, opEq_int, opNe_int, opEq_str, opNe_str, opAdd_int, opSub_int, opMod_pos, opLt_int, opLe_int, opGt_int, opGe_int, opLt_str, opLe_str, opIsN_ref, opIsN_non, opIsN_int, opIsN_tup, opIsN_str, opIsN_bl, opEq_bl, opNe_bl, opFdiv_int, opMul_int, opPow_int, atI_0, atI_1, atI_2, opIx_ref, opIx_tup, opIx_rl, opLen_tup, opLen_str, opLen_rl, opMax2_int, opMin2_int, opInt_int, opInt_bl, tyN_non, tyN_bl, tyN_int, tyN_str, tyN_tup, tyN_rl, truthW_bl, srcW_tup, srcW_rl]
    split
    · rename_i h
      simp only [wp_ok, wp_exc, wp_ret, wp_badM, wp_lift, wp_chk, wp_alloc, wp_grd, wp_tgt, wp_noXe, wp_dVar, wp_dC, wp_aNil, wp_aCons, wp_dTup, wp_dLst, wp_dOp, wp_dUn, wp_dFn, wB_bl, wp_dChain, wp_dTru, wp_dBool, wp_dNot, wp_dAnd, wp_dOr, wp_dAndV, wp_dOrV, wp_dNotV, wp_dIfE, wp_dYes, wp_dCall, wp_dCallK, wp_dIsi, wp_dIsi2, wp_dMt, wp_oN, wI_int, wp_oS, wp_dSl, wp_dSrc, wp_dZip, wp_dRng1, wp_dRng2, wp_dEnum, wp_dLc, wpS_nx, wpS_rt, wpS_bk, wpS_ct, wpS_exc, wpS_bad, wpS_ite, wpS_dSeq, wpS_dNx, wpS_dBk, wpS_dCt, wpS_dDrop, wpS_dRet, wpS_dRetN, wpS_dIf, wpS_dSet, wpS_dAsg, wpS_dPar, wpS_dPar3, wpS_dSet2, wpS_dPut, wpS_dRaise, wpS_dFor, wp_dfn, wO_some, wO_none, wO_map, wO_bind, wO_ite, List.map_cons, List.map_nil, List.replicate_succ, List.replicate_zero, List.cons_append, List.nil_append, Nat.reduceSub, Nat.reduceAdd, List.getElem?_cons_zero, List.getElem?_cons_succ, List.set_cons_zero, List.set_cons_succ, List.length_cons, List.length_nil, tgN, tgNil, tgCons, tgTup, wipeE, isT, String.reduceBEq, Bool.and_false, Bool.false_and, Bool.true_and, Bool.and_true, Bool.or_false, Bool.false_or, Bool.true_or, Bool.or_true, Bool.not_true, Bool.not_false, if_true, if_false, true_and, and_true, Bool.false_eq_true, Bool.true_eq_false, reduceIte, opEq_int, opNe_int, opEq_str, opNe_str, opAdd_int, opSub_int, opMod_pos, opLt_int, opLe_int, opGt_int, opGe_int, opLt_str, opLe_str, opIsN_ref, opIsN_non, opIsN_int, opIsN_tup, opIsN_str, opIsN_bl, opEq_bl, opNe_bl, opFdiv_int, opMul_int, opPow_int, atI_0, atI_1, atI_2, opIx_ref, opIx_tup, opIx_rl, opLen_tup, opLen_str, opLen_rl, opMax2_int, opMin2_int, opInt_int, opInt_bl, tyN_non, tyN_bl, tyN_int, tyN_str, tyN_tup, tyN_rl, truthW_bl, srcW_tup, srcW_rl, h]
    · rename_i h
      have : (e.1 == x) = false := by simpa using h
      simp only [this, Bool.false_and]
  rintro ws S1 ⟨rfl, f1⟩
  have e0 : ((List.filter (fun e : Ent => e.1 == x && decide (d ≤ e.2.2)) es).map fun e => e.2.2) = laterOf es x d := rfl
  rw [e0]
  have g1 : (S1 ++ [O.lst ((laterOf es x d).map W.int)])[S1.length]? = some (.lst ((laterOf es x d).map W.int)) := get_new
  have g2 : (S1 ++ [O.lst ((laterOf es x d).map W.int)] ++ [O.lst []])[S1.length]? = some (.lst ((laterOf es x d).map W.int)) := Fr.app.g0 g1
  have en := opNe_intsNil (S := S1 ++ [O.lst ((laterOf es x d).map W.int)] ++ [O.lst []]) (m := (S1 ++ [O.lst ((laterOf es x d).map W.int)]).length) g2 get_new
  simp only [wp_ok, wp_exc, wp_ret, wp_badM, wp_lift, wp_chk, wp_alloc, wp_grd, wp_tgt, wp_noXe, wp_dVar, wp_dC, wp_aNil, wp_aCons, wp_dTup, wp_dLst, wp_dOp, wp_dUn, wp_dFn, wB_bl, wp_dChain, wp_dTru, wp_dBool, wp_dNot, wp_dAnd, wp_dOr, wp_dAndV, wp_dOrV, wp_dNotV, wp_dIfE, wp_dYes, wp_dCall, wp_dCallK, wp_dIsi, wp_dIsi2, wp_dMt, wp_oN, wI_int, wp_oS, wp_dSl, wp_dSrc, wp_dZip, wp_dRng1, wp_dRng2, wp_dEnum, wp_dLc, wpS_nx, wpS_rt, wpS_bk, wpS_ct, wpS_exc, wpS_bad, wpS_ite, wpS_dSeq, wpS_dNx, wpS_dBk, wpS_dCt, wpS_dDrop, wpS_dRet, wpS_dRetN, wpS_dIf, wpS_dSet, wpS_dAsg, wpS_dPar, wpS_dPar3, wpS_dSet2, wpS_dPut, wpS_dRaise, wpS_dFor, wp_dfn, wO_some, wO_none, wO_map, wO_bind, wO_ite, List.map_cons, List.map_nil, List.replicate_succ, List.replicate_zero, List.cons_append, List.nil_append, Nat.reduceSub, Nat.reduceAdd, List.getElem?_cons_zero, List.getElem?_cons_succ, List.set_cons_zero, List.set_cons_succ, List.length_cons, List.length_nil, tgN, tgNil, tgCons, tgTup, wipeE, isT, String.reduceBEq, Bool.and_false, Bool.false_and, Bool.true_and, Bool.and_true, Bool.or_false, Bool.false_or, Bool.true_or, Bool.or_true, Bool.not_true, Bool.not_false, if_true, if_false, true_and, and_true, Bool.false_eq_true, Bool.true_eq_false, reduceIte, opEq_int, opNe_int, opEq_str, opNe_str, opAdd_int, opSub_int, opMod_pos, opLt_int, opLe_int, opGt_int, opGe_int, opLt_str, opLe_str, opIsN_ref, opIsN_non, opIsN_int, opIsN_tup, opIsN_str, opIsN_bl, opEq_bl, opNe_bl, opFdiv_int, opMul_int, opPow_int, atI_0, atI_1, atI_2, opIx_ref, opIx_tup, opIx_rl, opLen_tup, opLen_str, opLen_rl, opMax2_int, opMin2_int, opInt_int, opInt_bl, tyN_non, tyN_bl, tyN_int, tyN_str, tyN_tup, tyN_rl, truthW_bl, srcW_tup, srcW_rl, en]
  unfold minO
  cases z : laterOf es x d with
  | nil => exact ⟨rfl, f1.snoc.snoc⟩
  | cons a as =>
    rw [z] at g2
    rw [if_pos (by rfl), opMinL_ref g2 (by simp), wO_some]
    exact ⟨rfl, f1.snoc.snoc⟩
def leastS (es : List Ent) (d : Int) (x : Str) : Int := if x = "+" then d + 1 else maxI (d :: overOf es x d)
def greatS (es : List Ent) (g : Option Int) (x : Str) : Option Int := match g with
  | none => none
  | some d => if x = "+" then some (d + 1) else minO (laterOf es x d)
def leastOf (es : List Ent) (xs : List Str) (d : Int) : Int := xs.foldl (leastS es) d
def greatOf (es : List Ent) (xs : List Str) (d : Int) : Option Int := xs.foldl (greatS es) (some d)
theorem fold_take {α β : Type} {f : β → α → β} {b : β} {xs : List α} {i : Nat} {x : α} (e : xs[i]? = some x) : (xs.take (i + 1)).foldl f b = f ((xs.take i).foldl f b) x := by
  rw [List.take_succ, e, List.foldl_append]
  rfl
theorem day_range_spec {x1 x3 x4 r : Nat} {xs : List Str} (g : S[n]? = some (.lst (es.map eW))) (hl : es.length ≤ 1000) (h : ∀ e ∈ es, GoodE e) (hf : found es = .non) (gr : S[r]? = some (.lst (xs.map W.str))) (hx : ∀ x ∈ xs, Letter x) (lx : xs.length ≤ 10000) :
    wp (n_day_range x1 x3 x4 [.ref n, .ref r, .int d] S) (fun w S' => w = .tup [.int (leastOf es xs d), optW (greatOf es xs d)] ∧ Fr 0 S S') E := by
  unfold n_day_range d_day_range
  simp only [wp_ok, wp_exc, wp_ret, wp_badM, wp_lift, wp_chk, wp_alloc, wp_grd, wp_tgt, wp_noXe, wp_dVar, wp_dC, wp_aNil, wp_aCons, wp_dTup, wp_dLst, wp_dOp, wp_dUn, wp_dFn, wB_bl, wp_dChain, wp_dTru, wp_dBool, wp_dNot, wp_dAnd, wp_dOr, wp_dAndV, wp_dOrV, wp_dNotV, wp_dIfE, wp_dYes, wp_dCall, wp_dCallK, wp_dIsi, wp_dIsi2, wp_dMt, wp_oN, wI_int, wp_oS, wp_dSl, wp_dSrc, wp_dZip, wp_dRng1, wp_dRng2, wp_dEnum, wp_dLc, wpS_nx, wpS_rt, wpS_bk, wpS_ct, wpS_exc, wpS_bad, wpS_ite, wpS_dSeq, wpS_dNx, wpS_dBk, wpS_dCt, wpS_dDrop, wpS_dRet, wpS_dRetN, wpS_dIf, wpS_dSet, wpS_dAsg, wpS_dPar, wpS_dPar3, wpS_dSet2, wpS_dPut, wpS_dRaise, wpS_dFor, wp_dfn, wO_some, wO_none, wO_map, wO_bind, wO_ite, List.map_cons, List.map_nil, List.replicate_succ, List.replicate_zero, List.cons_append, List.nil_append, Nat.reduceSub, Nat.reduceAdd, List.getElem?_cons_zero, List.getElem?_cons_succ, List.set_cons_zero, List.set_cons_succ, List.length_cons, List.length_nil, tgN, tgNil, tgCons, tgTup, wipeE, isT, String.reduceBEq, Bool.and_false, Bool.false_and, Bool.true_and, Bool.and_true, Bool.or_false, Bool.false_or, Bool.true_or, Bool.or_true, Bool.not_true, Bool.not_false, if_true, if_false, true_and, and_true, Bool.false_eq_true, Bool.true_eq_false, reduceIte, opEq_int, opNe_int, opEq_str, opNe_str, opAdd_int, opSub_int, opMod_pos, opLt_int, opLe_int, opGt_int, opGe_int, opLt_str, opLe_str, opIsN_ref, opIsN_non, opIsN_int, opIsN_tup, opIsN_str, opIsN_bl, opEq_bl, opNe_bl, opFdiv_int, opMul_int, opPow_int, atI_0, atI_1, atI_2, opIx_ref, opIx_tup, opIx_rl, opLen_tup, opLen_str, opLen_rl, opMax2_int, opMin2_int, opInt_int, opInt_bl, tyN_non, tyN_bl, tyN_int, tyN_str, tyN_tup, tyN_rl, truthW_bl, srcW_tup, srcW_rl]
  refine wp_mono (require_no_clash_spec g hl h hf) ?_ (fun _ _ q => q)
  intro w S1 f1
  refine wp_mono (require_rule_spec (f1.g0 gr) lx hx) ?_ (fun _ _ q => q)
  intro w S2 f2
  refine require_day_spec ?_
  have f12 := f1.trans f2
  simp only [wp_ok, wp_exc, wp_ret, wp_badM, wp_lift, wp_chk, wp_alloc, wp_grd, wp_tgt, wp_noXe, wp_dVar, wp_dC, wp_aNil, wp_aCons, wp_dTup, wp_dLst, wp_dOp, wp_dUn, wp_dFn, wB_bl, wp_dChain, wp_dTru, wp_dBool, wp_dNot, wp_dAnd, wp_dOr, wp_dAndV, wp_dOrV, wp_dNotV, wp_dIfE, wp_dYes, wp_dCall, wp_dCallK, wp_dIsi, wp_dIsi2, wp_dMt, wp_oN, wI_int, wp_oS, wp_dSl, wp_dSrc, wp_dZip, wp_dRng1, wp_dRng2, wp_dEnum, wp_dLc, wpS_nx, wpS_rt, wpS_bk, wpS_ct, wpS_exc, wpS_bad, wpS_ite, wpS_dSeq, wpS_dNx, wpS_dBk, wpS_dCt, wpS_dDrop, wpS_dRet, wpS_dRetN, wpS_dIf, wpS_dSet, wpS_dAsg, wpS_dPar, wpS_dPar3, wpS_dSet2, wpS_dPut, wpS_dRaise, wpS_dFor, wp_dfn, wO_some, wO_none, wO_map, wO_bind, wO_ite, List.map_cons, List.map_nil, List.replicate_succ, List.replicate_zero, List.cons_append, List.nil_append, Nat.reduceSub, Nat.reduceAdd, List.getElem?_cons_zero, List.getElem?_cons_succ, List.set_cons_zero, List.set_cons_succ, List.length_cons, List.length_nil, tgN, tgNil, tgCons, tgTup, wipeE, isT, String.reduceBEq, Bool.and_false, Bool.false_and, Bool.true_and, Bool.and_true, Bool.or_false, Bool.false_or, Bool.true_or, Bool.or_true, Bool.not_true, Bool.not_false, if_true, if_false, true_and, and_true, Bool.false_eq_true, Bool.true_eq_false, reduceIte, opEq_int, opNe_int, opEq_str, opNe_str, opAdd_int, opSub_int, opMod_pos, opLt_int, opLe_int, opGt_int, opGe_int, opLt_str, opLe_str, opIsN_ref, opIsN_non, opIsN_int, opIsN_tup, opIsN_str, opIsN_bl, opEq_bl, opNe_bl, opFdiv_int, opMul_int, opPow_int, atI_0, atI_1, atI_2, opIx_ref, opIx_tup, opIx_rl, opLen_tup, opLen_str, opLen_rl, opMax2_int, opMin2_int, opInt_int, opInt_bl, tyN_non, tyN_bl, tyN_int, tyN_str, tyN_tup, tyN_rl, truthW_bl, srcW_tup, srcW_rl, srcW_ref (f12.g0 gr)]
  refine wpS_forL (fun i ε S' => ∃ x5, ε = [some (.ref n), some (.ref r), some (.int d), some (.int (leastOf es (xs.take i) d)), some (optW (greatOf es (xs.take i) d)), x5] ∧ Fr 0 S S') ⟨_, rfl, f12⟩ (fun _ _ S' _ ⟨_, _, f⟩ => f.g0 gr) ?_ ?_
  · rintro i w ε S' e ⟨x5, rfl, f⟩
    rw [List.getElem?_map, Option.map_eq_some_iff] at e
    obtain ⟨x, e, rfl⟩ := e
    have e1 : leastOf es (xs.take (i + 1)) d = leastS es (leastOf es (xs.take i) d) x := fold_take e
    have e2 : greatOf es (xs.take (i + 1)) d = greatS es (greatOf es (xs.take i) d) x := fold_take e
    simp only [List.map_cons, List.map_nil, List.replicate_succ, List.replicate_zero, List.cons_append, List.nil_append, Nat.reduceSub, Nat.reduceAdd, List.getElem?_cons_zero, List.getElem?_cons_succ, List.set_cons_zero, List.set_cons_succ, List.length_cons, List.length_nil, tgN, tgNil, tgCons, tgTup, wipeE, isT, String.reduceBEq, Bool.and_false, Bool.false_and, Bool.true_and, Bool.and_true, Bool.or_false, Bool.false_or, Bool.true_or, Bool.or_true, Bool.not_true, Bool.not_false, if_true, if_false, true_and, and_true, Bool.false_eq_true, Bool.true_eq_false, reduceIte, wO_some]
    rw [wpS_dSeq]
    refine wpS_join' (fun ε' S6 => ε' = [some (.ref n), some (.ref r), some (.int d), some (.int (leastOf es (xs.take (i + 1)) d)), some (optW (greatOf es (xs.take i) d)), some (.str x)] ∧ Fr 0 S S6) ?_ ?_
    · rw [e1]
      unfold leastS
      simp only [wp_ok, wp_exc, wp_ret, wp_badM, wp_lift, wp_chk, wp_alloc, wp_grd, wp_tgt, wp_noXe, wp_dVar, wp_dC, wp_aNil, wp_aCons, wp_dTup, wp_dLst, wp_dOp, wp_dUn, wp_dFn, wB_bl, wp_dChain, wp_dTru, wp_dBool, wp_dNot, wp_dAnd, wp_dOr, wp_dAndV, wp_dOrV, wp_dNotV, wp_dIfE, wp_dYes, wp_dCall, wp_dCallK, wp_dIsi, wp_dIsi2, wp_dMt, wp_oN, wI_int, wp_oS, wp_dSl, wp_dSrc, wp_dZip, wp_dRng1, wp_dRng2, wp_dEnum, wp_dLc, wpS_nx, wpS_rt, wpS_bk, wpS_ct, wpS_exc, wpS_bad, wpS_ite, wpS_dSeq, wpS_dNx, wpS_dBk, wpS_dCt, wpS_dDrop, wpS_dRet, wpS_dRetN, wpS_dIf, wpS_dSet, wpS_dAsg, wpS_dPar, wpS_dPar3, wpS_dSet2, wpS_dPut, wpS_dRaise, wpS_dFor, wp_dfn, wO_some, wO_none, wO_map, wO_bind, wO_ite, List.map_cons, List.map_nil, List.replicate_succ, List.replicate_zero, List.cons_append, List.nil_append, Nat.reduceSub, Nat.reduceAdd, List.getElem?_cons_zero, List.getElem?_cons_succ, List.set_cons_zero, List.set_cons_succ, List.length_cons, List.length_nil, tgN, tgNil, tgCons, tgTup, wipeE, isT, String.reduceBEq, Bool.and_false, Bool.false_and, Bool.true_and, Bool.and_true, Bool.or_false, Bool.false_or, Bool.true_or, Bool.or_true, Bool.not_true, Bool.not_false, if_true, if_false, true_and, and_true, Bool.false_eq_true, Bool.true_eq_false, reduceIte, opEq_int, opNe_int, opEq_str, opNe_str, opAdd_int, opSub_int, opMod_pos, opLt_int, opLe_int, opGt_int, opGe_int, opLt_str, opLe_str, opIsN_ref, opIsN_non, opIsN_int, opIsN_tup, opIsN_str, opIsN_bl, opEq_bl, opNe_bl, opFdiv_int, opMul_int, opPow_int, atI_0, atI_1, atI_2, opIx_ref, opIx_tup, opIx_rl, opLen_tup, opLen_str, opLen_rl, opMax2_int, opMin2_int, opInt_int, opInt_bl, tyN_non, tyN_bl, tyN_int, tyN_str, tyN_tup, tyN_rl, truthW_bl, srcW_tup, srcW_rl]
      by_cases hp : x = "+"
      · rw [if_pos (by rw [hp]; exact beq_self_eq_true _), if_pos hp]
        exact ⟨rfl, f⟩
      · rw [if_neg (by simpa using hp), if_neg hp]
        refine wp_mono (first_of_spec (f.g0 g) hl) ?_ (fun _ _ q => q)
        rintro w S6 ⟨rfl, f6⟩
        exact ⟨rfl, f.trans f6⟩
    rintro ε' S6 ⟨rfl, f6⟩
    dsimp only
    rw [e2]
    cases z : greatOf es (xs.take i) d with
    | none =>
      simp only [wp_ok, wp_exc, wp_ret, wp_badM, wp_lift, wp_chk, wp_alloc, wp_grd, wp_tgt, wp_noXe, wp_dVar, wp_dC, wp_aNil, wp_aCons, wp_dTup, wp_dLst, wp_dOp, wp_dUn, wp_dFn, wB_bl, wp_dChain, wp_dTru, wp_dBool, wp_dNot, wp_dAnd, wp_dOr, wp_dAndV, wp_dOrV, wp_dNotV, wp_dIfE, wp_dYes, wp_dCall, wp_dCallK, wp_dIsi, wp_dIsi2, wp_dMt, wp_oN, wI_int, wp_oS, wp_dSl, wp_dSrc, wp_dZip, wp_dRng1, wp_dRng2, wp_dEnum, wp_dLc, wpS_nx, wpS_rt, wpS_bk, wpS_ct, wpS_exc, wpS_bad, wpS_ite, wpS_dSeq, wpS_dNx, wpS_dBk, wpS_dCt, wpS_dDrop, wpS_dRet, wpS_dRetN, wpS_dIf, wpS_dSet, wpS_dAsg, wpS_dPar, wpS_dPar3, wpS_dSet2, wpS_dPut, wpS_dRaise, wpS_dFor, wp_dfn, wO_some, wO_none, wO_map, wO_bind, wO_ite, List.map_cons, List.map_nil, List.replicate_succ, List.replicate_zero, List.cons_append, List.nil_append, Nat.reduceSub, Nat.reduceAdd, List.getElem?_cons_zero, List.getElem?_cons_succ, List.set_cons_zero, List.set_cons_succ, List.length_cons, List.length_nil, tgN, tgNil, tgCons, tgTup, wipeE, isT, String.reduceBEq, Bool.and_false, Bool.false_and, Bool.true_and, Bool.and_true, Bool.or_false, Bool.false_or, Bool.true_or, Bool.or_true, Bool.not_true, Bool.not_false, if_true, if_false, true_and, and_true, Bool.false_eq_true, Bool.true_eq_false, reduceIte, opEq_int, opNe_int, opEq_str, opNe_str, opAdd_int, opSub_int, opMod_pos, opLt_int, opLe_int, opGt_int, opGe_int, opLt_str, opLe_str, opIsN_ref, opIsN_non, opIsN_int, opIsN_tup, opIsN_str, opIsN_bl, opEq_bl, opNe_bl, opFdiv_int, opMul_int, opPow_int, atI_0, atI_1, atI_2, opIx_ref, opIx_tup, opIx_rl, opLen_tup, opLen_str, opLen_rl, opMax2_int, opMin2_int, opInt_int, opInt_bl, tyN_non, tyN_bl, tyN_int, tyN_str, tyN_tup, tyN_rl, truthW_bl, srcW_tup, srcW_rl, optW, opNotN_any, isNon]
      exact ⟨_, rfl, f6⟩
    | some k =>
      simp only [wp_ok, wp_exc, wp_ret, wp_badM, wp_lift, wp_chk, wp_alloc, wp_grd, wp_tgt, wp_noXe, wp_dVar, wp_dC, wp_aNil, wp_aCons, wp_dTup, wp_dLst, wp_dOp, wp_dUn, wp_dFn, wB_bl, wp_dChain, wp_dTru, wp_dBool, wp_dNot, wp_dAnd, wp_dOr, wp_dAndV, wp_dOrV, wp_dNotV, wp_dIfE, wp_dYes, wp_dCall, wp_dCallK, wp_dIsi, wp_dIsi2, wp_dMt, wp_oN, wI_int, wp_oS, wp_dSl, wp_dSrc, wp_dZip, wp_dRng1, wp_dRng2, wp_dEnum, wp_dLc, wpS_nx, wpS_rt, wpS_bk, wpS_ct, wpS_exc, wpS_bad, wpS_ite, wpS_dSeq, wpS_dNx, wpS_dBk, wpS_dCt, wpS_dDrop, wpS_dRet, wpS_dRetN, wpS_dIf, wpS_dSet, wpS_dAsg, wpS_dPar, wpS_dPar3, wpS_dSet2, wpS_dPut, wpS_dRaise, wpS_dFor, wp_dfn, wO_some, wO_none, wO_map, wO_bind, wO_ite, List.map_cons, List.map_nil, List.replicate_succ, List.replicate_zero, List.cons_append, List.nil_append, Nat.reduceSub, Nat.reduceAdd, List.getElem?_cons_zero, List.getElem?_cons_succ, List.set_cons_zero, List.set_cons_succ, List.length_cons, List.length_nil, tgN, tgNil, tgCons, tgTup, wipeE, isT, String.reduceBEq, Bool.and_false, Bool.false_and, Bool.true_and, Bool.and_true, Bool.or_false, Bool.false_or, Bool.true_or, Bool.or_true, Bool.not_true, Bool.not_false, if_true, if_false, true_and, and_true, Bool.false_eq_true, Bool.true_eq_false, reduceIte, opEq_int, opNe_int, opEq_str, opNe_str, opAdd_int, opSub_int, opMod_pos, opLt_int, opLe_int, opGt_int, opGe_int, opLt_str, opLe_str, opIsN_ref, opIsN_non, opIsN_int, opIsN_tup, opIsN_str, opIsN_bl, opEq_bl, opNe_bl, opFdiv_int, opMul_int, opPow_int, atI_0, atI_1, atI_2, opIx_ref, opIx_tup, opIx_rl, opLen_tup, opLen_str, opLen_rl, opMax2_int, opMin2_int, opInt_int, opInt_bl, tyN_non, tyN_bl, tyN_int, tyN_str, tyN_tup, tyN_rl, truthW_bl, srcW_tup, srcW_rl, optW, opNotN_any, isNon, greatS]
      by_cases hp : x = "+"
      · rw [if_pos (by rw [hp]; exact beq_self_eq_true _), if_pos hp]
        exact ⟨_, rfl, f6⟩
      · rw [if_neg (by simpa using hp), if_neg hp]
        refine wp_mono (last_of_spec (f6.g0 g) hl) ?_ (fun _ _ q => q)
        rintro w S7 ⟨rfl, f7⟩
        exact ⟨_, rfl, f6.trans f7⟩
  · rintro ε S' ⟨x5, rfl, f⟩
    rw [List.length_map, List.take_length]
    simp only [wp_ok, wp_exc, wp_ret, wp_badM, wp_lift, wp_chk, wp_alloc, wp_grd, wp_tgt, wp_noXe, wp_dVar, wp_dC, wp_aNil, wp_aCons, wp_dTup, wp_dLst, wp_dOp, wp_dUn, wp_dFn, wB_bl, wp_dChain, wp_dTru, wp_dBool, wp_dNot, wp_dAnd, wp_dOr, wp_dAndV, wp_dOrV, wp_dNotV, wp_dIfE, wp_dYes, wp_dCall, wp_dCallK, wp_dIsi, wp_dIsi2, wp_dMt, wp_oN, wI_int, wp_oS, wp_dSl, wp_dSrc, wp_dZip, wp_dRng1, wp_dRng2, wp_dEnum, wp_dLc, wpS_nx, wpS_rt, wpS_bk, wpS_ct, wpS_exc, wpS_bad, wpS_ite, wpS_dSeq, wpS_dNx, wpS_dBk, wpS_dCt, wpS_dDrop, wpS_dRet, wpS_dRetN, wpS_dIf, wpS_dSet, wpS_dAsg, wpS_dPar, wpS_dPar3, wpS_dSet2, wpS_dPut, wpS_dRaise, wpS_dFor, wp_dfn, wO_some, wO_none, wO_map, wO_bind, wO_ite, List.map_cons, List.map_nil, List.replicate_succ, List.replicate_zero, List.cons_append, List.nil_append, Nat.reduceSub, Nat.reduceAdd, List.getElem?_cons_zero, List.getElem?_cons_succ, List.set_cons_zero, List.set_cons_succ, List.length_cons, List.length_nil, tgN, tgNil, tgCons, tgTup, wipeE, isT, String.reduceBEq, Bool.and_false, Bool.false_and, Bool.true_and, Bool.and_true, Bool.or_false, Bool.false_or, Bool.true_or, Bool.or_true, Bool.not_true, Bool.not_false, if_true, if_false, true_and, and_true, Bool.false_eq_true, Bool.true_eq_false, reduceIte, opEq_int, opNe_int, opEq_str, opNe_str, opAdd_int, opSub_int, opMod_pos, opLt_int, opLe_int, opGt_int, opGe_int, opLt_str, opLe_str, opIsN_ref, opIsN_non, opIsN_int, opIsN_tup, opIsN_str, opIsN_bl, opEq_bl, opNe_bl, opFdiv_int, opMul_int, opPow_int, atI_0, atI_1, atI_2, opIx_ref, opIx_tup, opIx_rl, opLen_tup, opLen_str, opLen_rl, opMax2_int, opMin2_int, opInt_int, opInt_bl, tyN_non, tyN_bl, tyN_int, tyN_str, tyN_tup, tyN_rl, truthW_bl, srcW_tup, srcW_rl]
    exact ⟨lenOk_of (by decide), f⟩
theorem over_same {d : Int} {x : Str} (hf : found es = .non) : maxI (d :: overOf es x d) = (overOf es x d).headD d := by
  have nc := found_none.mp hf
  have mem : ∀ t ∈ overOf es x d, ∃ e ∈ es, e.1 = x ∧ closes e d = true ∧ e.2.2 = t := fun t ht => by
    unfold overOf at ht
    obtain ⟨e, he, rfl⟩ := List.mem_map.mp ht
    have := List.mem_filter.mp he
    simp only [Bool.and_eq_true, beq_iff_eq] at this
    exact ⟨e, this.1, this.2.1, this.2.2, rfl⟩
  cases z : overOf es x d with
  | nil => rfl
  | cons t ts =>
    have ht := mem t (by rw [z]; exact List.mem_cons_self ..)
    obtain ⟨e, he, hx, hc, rfl⟩ := ht
    have cl : e.2.1 ≤ d ∧ d < e.2.2 := by
      unfold closes at hc
      simpa using hc
    refine (maxI_uniq (by simp) (by simp) fun y hy => ?_).symm
    rcases List.mem_cons.mp hy with rfl | hy
    · simp only [List.headD]; omega
    · obtain ⟨e', he', hx', hc', rfl⟩ := mem y (by rw [z]; exact hy)
      have cl' : e'.2.1 ≤ d ∧ d < e'.2.2 := by
        unfold closes at hc'
        simpa using hc'
      simp only [List.headD]
      obtain ⟨i, hi⟩ := List.mem_iff_getElem?.mp he
      obtain ⟨j, hj⟩ := List.mem_iff_getElem?.mp he'
      have := nc i j e e' hi hj
      unfold clash closes at this
      rw [hx, hx'] at this
      simp only [beq_self_eq_true, Bool.true_and, Bool.or_eq_false_iff, Bool.and_eq_false_iff, decide_eq_false_iff_not] at this
      omega
theorem law_least_spec {r : Nat} {xs : List Str} (g : S[n]? = some (.lst (es.map eW))) (hl : es.length ≤ 1000) (hf : found es = .non) (h : ∀ e ∈ es, GoodE e) (gr : S[r]? = some (.lst (xs.map W.str))) (lx : xs.length ≤ 10000) :
    wp (n_law_least [.ref n, .ref r, .int d] S) (fun w S' => w = .int (leastOf es xs d) ∧ Fr 0 S S') E := by
  unfold n_law_least d_law_least
  simp only [wp_ok, wp_exc, wp_ret, wp_badM, wp_lift, wp_chk, wp_alloc, wp_grd, wp_tgt, wp_noXe, wp_dVar, wp_dC, wp_aNil, wp_aCons, wp_dTup, wp_dLst, wp_dOp, wp_dUn, wp_dFn, wB_bl, wp_dChain, wp_dTru, wp_dBool, wp_dNot, wp_dAnd, wp_dOr, wp_dAndV, wp_dOrV, wp_dNotV, wp_dIfE, wp_dYes, wp_dCall, wp_dCallK, wp_dIsi, wp_dIsi2, wp_dMt, wp_oN, wI_int, wp_oS, wp_dSl, wp_dSrc, wp_dZip, wp_dRng1, wp_dRng2, wp_dEnum, wp_dLc, wpS_nx, wpS_rt, wpS_bk, wpS_ct, wpS_exc, wpS_bad, wpS_ite, wpS_dSeq, wpS_dNx, wpS_dBk, wpS_dCt, wpS_dDrop, wpS_dRet, wpS_dRetN, wpS_dIf, wpS_dSet, wpS_dAsg, wpS_dPar, wpS_dPar3, wpS_dSet2, wpS_dPut, wpS_dRaise, wpS_dFor, wp_dfn, wO_some, wO_none, wO_map, wO_bind, wO_ite, List.map_cons, List.map_nil, List.replicate_succ, List.replicate_zero, List.cons_append, List.nil_append, Nat.reduceSub, Nat.reduceAdd, List.getElem?_cons_zero, List.getElem?_cons_succ, List.set_cons_zero, List.set_cons_succ, List.length_cons, List.length_nil, tgN, tgNil, tgCons, tgTup, wipeE, isT, String.reduceBEq, Bool.and_false, Bool.false_and, Bool.true_and, Bool.and_true, Bool.or_false, Bool.false_or, Bool.true_or, Bool.or_true, Bool.not_true, Bool.not_false, if_true, if_false, true_and, and_true, Bool.false_eq_true, Bool.true_eq_false, reduceIte, opEq_int, opNe_int, opEq_str, opNe_str, opAdd_int, opSub_int, opMod_pos, opLt_int, opLe_int, opGt_int, opGe_int, opLt_str, opLe_str, opIsN_ref, opIsN_non, opIsN_int, opIsN_tup, opIsN_str, opIsN_bl, opEq_bl, opNe_bl, opFdiv_int, opMul_int, opPow_int, atI_0, atI_1, atI_2, opIx_ref, opIx_tup, opIx_rl, opLen_tup, opLen_str, opLen_rl, opMax2_int, opMin2_int, opInt_int, opInt_bl, tyN_non, tyN_bl, tyN_int, tyN_str, tyN_tup, tyN_rl, truthW_bl, srcW_tup, srcW_rl, srcW_ref gr]
  refine wpS_forL (fun i ε S' => ∃ x3 x4 x5, ε = [some (.ref n), some (.ref r), some (.int (leastOf es (xs.take i) d)), x3, x4, x5] ∧ Fr 0 S S') ⟨_, _, _, rfl, Fr.refl⟩ (fun _ _ S' _ ⟨_, _, _, _, f⟩ => f.g0 gr) ?_ ?_
  · rintro i w ε S' e ⟨x3, x4, x5, rfl, f⟩
    rw [List.getElem?_map, Option.map_eq_some_iff] at e
    obtain ⟨x, e, rfl⟩ := e
    have e1 : leastOf es (xs.take (i + 1)) d = leastS es (leastOf es (xs.take i) d) x := fold_take e
    rw [e1]
    generalize leastOf es (xs.take i) d = k
    simp only [wp_ok, wp_exc, wp_ret, wp_badM, wp_lift, wp_chk, wp_alloc, wp_grd, wp_tgt, wp_noXe, wp_dVar, wp_dC, wp_aNil, wp_aCons, wp_dTup, wp_dLst, wp_dOp, wp_dUn, wp_dFn, wB_bl, wp_dChain, wp_dTru, wp_dBool, wp_dNot, wp_dAnd, wp_dOr, wp_dAndV, wp_dOrV, wp_dNotV, wp_dIfE, wp_dYes, wp_dCall, wp_dCallK, wp_dIsi, wp_dIsi2, wp_dMt, wp_oN, wI_int, wp_oS, wp_dSl, wp_dSrc, wp_dZip, wp_dRng1, wp_dRng2, wp_dEnum, wp_dLc, wpS_nx, wpS_rt, wpS_bk, wpS_ct, wpS_exc, wpS_bad, wpS_ite, wpS_dSeq, wpS_dNx, wpS_dBk, wpS_dCt, wpS_dDrop, wpS_dRet, wpS_dRetN, wpS_dIf, wpS_dSet, wpS_dAsg, wpS_dPar, wpS_dPar3, wpS_dSet2, wpS_dPut, wpS_dRaise, wpS_dFor, wp_dfn, wO_some, wO_none, wO_map, wO_bind, wO_ite, List.map_cons, List.map_nil, List.replicate_succ, List.replicate_zero, List.cons_append, List.nil_append, Nat.reduceSub, Nat.reduceAdd, List.getElem?_cons_zero, List.getElem?_cons_succ, List.set_cons_zero, List.set_cons_succ, List.length_cons, List.length_nil, tgN, tgNil, tgCons, tgTup, wipeE, isT, String.reduceBEq, Bool.and_false, Bool.false_and, Bool.true_and, Bool.and_true, Bool.or_false, Bool.false_or, Bool.true_or, Bool.or_true, Bool.not_true, Bool.not_false, if_true, if_false, true_and, and_true, Bool.false_eq_true, Bool.true_eq_false, reduceIte, opEq_int, opNe_int, opEq_str, opNe_str, opAdd_int, opSub_int, opMod_pos, opLt_int, opLe_int, opGt_int, opGe_int, opLt_str, opLe_str, opIsN_ref, opIsN_non, opIsN_int, opIsN_tup, opIsN_str, opIsN_bl, opEq_bl, opNe_bl, opFdiv_int, opMul_int, opPow_int, atI_0, atI_1, atI_2, opIx_ref, opIx_tup, opIx_rl, opLen_tup, opLen_str, opLen_rl, opMax2_int, opMin2_int, opInt_int, opInt_bl, tyN_non, tyN_bl, tyN_int, tyN_str, tyN_tup, tyN_rl, truthW_bl, srcW_tup, srcW_rl, srcW_ref (f.g0 g), List.length_map, lenOk_of (show es.length ≤ 1000000 by omega)]
    refine wp_mono (lc_two (p := fun e => e.1 == x && closes e k) (fun S2 f2 => (f.trans f2).g0 g) ?_) ?_ (fun _ _ q => q)
    · intro e S2 f2
      simp only [wp_ok, wp_exc, wp_ret, wp_badM, wp_lift, wp_chk, wp_alloc, wp_grd, wp_tgt, wp_noXe, wp_dVar, wp_dC, wp_aNil, wp_aCons, wp_dTup, wp_dLst, wp_dOp, wp_dUn, wp_dFn, wB_bl, wp_dChain, wp_dTru, wp_dBool, wp_dNot, wp_dAnd, wp_dOr, wp_dAndV, wp_dOrV, wp_dNotV, wp_dIfE, wp_dYes, wp_dCall, wp_dCallK, wp_dIsi, wp_dIsi2, wp_dMt, wp_oN, wI_int, wp_oS, wp_dSl, wp_dSrc, wp_dZip, wp_dRng1, wp_dRng2, wp_dEnum, wp_dLc, wpS_nx, wpS_rt, wpS_bk, wpS_ct, wpS_exc, wpS_bad, wpS_ite, wpS_dSeq, wpS_dNx, wpS_dBk, wpS_dCt, wpS_dDrop, wpS_dRet, wpS_dRetN, wpS_dIf, wpS_dSet, wpS_dAsg, wpS_dPar, wpS_dPar3, wpS_dSet2, wpS_dPut, wpS_dRaise, wpS_dFor, wp_dfn, wO_some, wO_none, wO_map, wO_bind, wO_ite, List.map_cons, List.map_nil, List.replicate_succ, List.replicate_zero, List.cons_append, List.nil_append, Nat.reduceSub, Nat.reduceAdd, List.getElem?_cons_zero, List.getElem?_cons_succ, List.set_cons_zero, List.set_cons_succ, List.length_cons, List.length_nil, tgN, tgNil, tgCons, tgTup, wipeE, isT, String.reduceBEq, Bool.and_false, Bool.false_and, Bool.true_and, Bool.and_true, Bool.or_false, Bool.false_or, Bool.true_or, Bool.or_true, Bool.not_true, Bool.not_false, if_true, if_false, true_and, and_true, Bool.false_eq_true, Bool.true_eq_false, reduceIte, opEq_int, opNe_int, opEq_str, opNe_str, opAdd_int, opSub_int, opMod_pos, opLt_int, opLe_int, opGt_int, opGe_int, opLt_str, opLe_str, opIsN_ref, opIsN_non, opIsN_int, opIsN_tup, opIsN_str, opIsN_bl, opEq_bl, opNe_bl, opFdiv_int, opMul_int, opPow_int, atI_0, atI_1, atI_2, opIx_ref, opIx_tup, opIx_rl, opLen_tup, opLen_str, opLen_rl, opMax2_int, opMin2_int, opInt_int, opInt_bl, tyN_non, tyN_bl, tyN_int, tyN_str, tyN_tup, tyN_rl, truthW_bl, srcW_tup, srcW_rl]
      split
      · rename_i h
        refine law_closes_spec ?_
        simp only [wp_ok, wp_exc, wp_ret, wp_badM, wp_lift, wp_chk, wp_alloc, wp_grd, wp_tgt, wp_noXe, wp_dVar, wp_dC, wp_aNil, wp_aCons, wp_dTup, wp_dLst, wp_dOp, wp_dUn, wp_dFn, wB_bl, wp_dChain, wp_dTru, wp_dBool, wp_dNot, wp_dAnd, wp_dOr, wp_dAndV, wp_dOrV, wp_dNotV, wp_dIfE, wp_dYes, wp_dCall, wp_dCallK, wp_dIsi, wp_dIsi2, wp_dMt, wp_oN, wI_int, wp_oS, wp_dSl, wp_dSrc, wp_dZip, wp_dRng1, wp_dRng2, wp_dEnum, wp_dLc, wpS_nx, wpS_rt, wpS_bk, wpS_ct, wpS_exc, wpS_bad, wpS_ite, wpS_dSeq, wpS_dNx, wpS_dBk, wpS_dCt, wpS_dDrop, wpS_dRet, wpS_dRetN, wpS_dIf, wpS_dSet, wpS_dAsg, wpS_dPar, wpS_dPar3, wpS_dSet2, wpS_dPut, wpS_dRaise, wpS_dFor, wp_dfn, wO_some, wO_none, wO_map, wO_bind, wO_ite, List.map_cons, List.map_nil, List.replicate_succ, List.replicate_zero, List.cons_append, List.nil_append, Nat.reduceSub, Nat.reduceAdd, List.getElem?_cons_zero, List.getElem?_cons_succ, List.set_cons_zero, List.set_cons_succ, List.length_cons, List.length_nil, tgN, tgNil, tgCons, tgTup, wipeE, isT, String.reduceBEq, Bool.and_false, Bool.false_and, Bool.true_and, Bool.and_true, Bool.or_false, Bool.false_or, Bool.true_or, Bool.or_true, Bool.not_true, Bool.not_false, if_true, if_false, true_and, and_true, Bool.false_eq_true, Bool.true_eq_false, reduceIte, opEq_int, opNe_int, opEq_str, opNe_str, opAdd_int, opSub_int, opMod_pos, opLt_int, opLe_int, opGt_int, opGe_int, opLt_str, opLe_str, opIsN_ref, opIsN_non, opIsN_int, opIsN_tup, opIsN_str, opIsN_bl, opEq_bl, opNe_bl, opFdiv_int, opMul_int, opPow_int, atI_0, atI_1, atI_2, opIx_ref, opIx_tup, opIx_rl, opLen_tup, opLen_str, opLen_rl, opMax2_int, opMin2_int, opInt_int, opInt_bl, tyN_non, tyN_bl, tyN_int, tyN_str, tyN_tup, tyN_rl, truthW_bl, srcW_tup, srcW_rl, h]
      · rename_i h
        have : (e.1 == x) = false := by simpa using h
        simp only [this, Bool.false_and]
    rintro ws S1 ⟨rfl, f1⟩
    have e0 : ((List.filter (fun e : Ent => e.1 == x && closes e k) es).map fun e => e.2.2) = overOf es x k := rfl
    rw [e0]
    have lo : (overOf es x k).length ≤ 1000 := by
      unfold overOf
      rw [List.length_map]
      exact Nat.le_trans (List.length_filter_le _ _) hl
    unfold leastS
    by_cases hp : x = "+"
    · rw [if_pos (by rw [hp]; exact beq_self_eq_true _), if_pos hp]
      exact ⟨_, _, _, rfl, f.trans f1.snoc⟩
    · have gA : (S1 ++ [O.lst ((overOf es x k).map W.int)] ++ [O.lst [W.int k]])[S1.length]? = some (.lst ((overOf es x k).map W.int)) := Fr.app.g0 get_new
      have ga := opAdd_ref (S := S1 ++ [O.lst ((overOf es x k).map W.int)] ++ [O.lst [W.int k]]) (n := S1.length) (m := (S1 ++ [O.lst ((overOf es x k).map W.int)]).length) (a := (overOf es x k).map W.int) (b := [W.int k]) gA get_new (by simp; omega)
      have hd : ((overOf es x k).map W.int ++ [W.int k])[0]? = some (.int ((overOf es x k).headD k)) := by
        cases overOf es x k <;> rfl
      rw [if_neg (by simpa using hp), if_neg hp]
      simp only [wp_ok, wp_exc, wp_ret, wp_badM, wp_lift, wp_chk, wp_alloc, wp_grd, wp_tgt, wp_noXe, wp_dVar, wp_dC, wp_aNil, wp_aCons, wp_dTup, wp_dLst, wp_dOp, wp_dUn, wp_dFn, wB_bl, wp_dChain, wp_dTru, wp_dBool, wp_dNot, wp_dAnd, wp_dOr, wp_dAndV, wp_dOrV, wp_dNotV, wp_dIfE, wp_dYes, wp_dCall, wp_dCallK, wp_dIsi, wp_dIsi2, wp_dMt, wp_oN, wI_int, wp_oS, wp_dSl, wp_dSrc, wp_dZip, wp_dRng1, wp_dRng2, wp_dEnum, wp_dLc, wpS_nx, wpS_rt, wpS_bk, wpS_ct, wpS_exc, wpS_bad, wpS_ite, wpS_dSeq, wpS_dNx, wpS_dBk, wpS_dCt, wpS_dDrop, wpS_dRet, wpS_dRetN, wpS_dIf, wpS_dSet, wpS_dAsg, wpS_dPar, wpS_dPar3, wpS_dSet2, wpS_dPut, wpS_dRaise, wpS_dFor, wp_dfn, wO_some, wO_none, wO_map, wO_bind, wO_ite, List.map_cons, List.map_nil, List.replicate_succ, List.replicate_zero, List.cons_append, List.nil_append, Nat.reduceSub, Nat.reduceAdd, List.getElem?_cons_zero, List.getElem?_cons_succ, List.set_cons_zero, List.set_cons_succ, List.length_cons, List.length_nil, tgN, tgNil, tgCons, tgTup, wipeE, isT, String.reduceBEq, Bool.and_false, Bool.false_and, Bool.true_and, Bool.and_true, Bool.or_false, Bool.false_or, Bool.true_or, Bool.or_true, Bool.not_true, Bool.not_false, if_true, if_false, true_and, and_true, Bool.false_eq_true, Bool.true_eq_false, reduceIte, opEq_int, opNe_int, opEq_str, opNe_str, opAdd_int, opSub_int, opMod_pos, opLt_int, opLe_int, opGt_int, opGe_int, opLt_str, opLe_str, opIsN_ref, opIsN_non, opIsN_int, opIsN_tup, opIsN_str, opIsN_bl, opEq_bl, opNe_bl, opFdiv_int, opMul_int, opPow_int, atI_0, atI_1, atI_2, opIx_ref, opIx_tup, opIx_rl, opLen_tup, opLen_str, opLen_rl, opMax2_int, opMin2_int, opInt_int, opInt_bl, tyN_non, tyN_bl, tyN_int, tyN_str, tyN_tup, tyN_rl, truthW_bl, srcW_tup, srcW_rl, lenOk_of (show 1 ≤ 1000000 by decide), ga, lstAt_of get_new, hd]
      rw [over_same hf]
      exact ⟨_, _, _, rfl, f.trans f1.snoc.snoc.snoc⟩
  · rintro ε S' ⟨x3, x4, x5, rfl, f⟩
    rw [List.length_map, List.take_length]
    simp only [wp_ok, wp_exc, wp_ret, wp_badM, wp_lift, wp_chk, wp_alloc, wp_grd, wp_tgt, wp_noXe, wp_dVar, wp_dC, wp_aNil, wp_aCons, wp_dTup, wp_dLst, wp_dOp, wp_dUn, wp_dFn, wB_bl, wp_dChain, wp_dTru, wp_dBool, wp_dNot, wp_dAnd, wp_dOr, wp_dAndV, wp_dOrV, wp_dNotV, wp_dIfE, wp_dYes, wp_dCall, wp_dCallK, wp_dIsi, wp_dIsi2, wp_dMt, wp_oN, wI_int, wp_oS, wp_dSl, wp_dSrc, wp_dZip, wp_dRng1, wp_dRng2, wp_dEnum, wp_dLc, wpS_nx, wpS_rt, wpS_bk, wpS_ct, wpS_exc, wpS_bad, wpS_ite, wpS_dSeq, wpS_dNx, wpS_dBk, wpS_dCt, wpS_dDrop, wpS_dRet, wpS_dRetN, wpS_dIf, wpS_dSet, wpS_dAsg, wpS_dPar, wpS_dPar3, wpS_dSet2, wpS_dPut, wpS_dRaise, wpS_dFor, wp_dfn, wO_some, wO_none, wO_map, wO_bind, wO_ite, List.map_cons, List.map_nil, List.replicate_succ, List.replicate_zero, List.cons_append, List.nil_append, Nat.reduceSub, Nat.reduceAdd, List.getElem?_cons_zero, List.getElem?_cons_succ, List.set_cons_zero, List.set_cons_succ, List.length_cons, List.length_nil, tgN, tgNil, tgCons, tgTup, wipeE, isT, String.reduceBEq, Bool.and_false, Bool.false_and, Bool.true_and, Bool.and_true, Bool.or_false, Bool.false_or, Bool.true_or, Bool.or_true, Bool.not_true, Bool.not_false, if_true, if_false, true_and, and_true, Bool.false_eq_true, Bool.true_eq_false, reduceIte, opEq_int, opNe_int, opEq_str, opNe_str, opAdd_int, opSub_int, opMod_pos, opLt_int, opLe_int, opGt_int, opGe_int, opLt_str, opLe_str, opIsN_ref, opIsN_non, opIsN_int, opIsN_tup, opIsN_str, opIsN_bl, opEq_bl, opNe_bl, opFdiv_int, opMul_int, opPow_int, atI_0, atI_1, atI_2, opIx_ref, opIx_tup, opIx_rl, opLen_tup, opLen_str, opLen_rl, opMax2_int, opMin2_int, opInt_int, opInt_bl, tyN_non, tyN_bl, tyN_int, tyN_str, tyN_tup, tyN_rl, truthW_bl, srcW_tup, srcW_rl]
    exact f
theorem great_none : ∀ {xs : List Str}, xs.foldl (greatS es) none = none
  | [] => rfl
  | x :: xs => great_none (xs := xs)
theorem law_greatest_spec {r : Nat} {xs : List Str} (g : S[n]? = some (.lst (es.map eW))) (hl : es.length ≤ 1000) (gr : S[r]? = some (.lst (xs.map W.str))) (lx : xs.length ≤ 10000) :
    wp (n_law_greatest [.ref n, .ref r, .int d] S) (fun w S' => w = optW (greatOf es xs d) ∧ Fr 0 S S') E := by
  unfold n_law_greatest d_law_greatest
  simp only [wp_ok, wp_exc, wp_ret, wp_badM, wp_lift, wp_chk, wp_alloc, wp_grd, wp_tgt, wp_noXe, wp_dVar, wp_dC, wp_aNil, wp_aCons, wp_dTup, wp_dLst, wp_dOp, wp_dUn, wp_dFn, wB_bl, wp_dChain, wp_dTru, wp_dBool, wp_dNot, wp_dAnd, wp_dOr, wp_dAndV, wp_dOrV, wp_dNotV, wp_dIfE, wp_dYes, wp_dCall, wp_dCallK, wp_dIsi, wp_dIsi2, wp_dMt, wp_oN, wI_int, wp_oS, wp_dSl, wp_dSrc, wp_dZip, wp_dRng1, wp_dRng2, wp_dEnum, wp_dLc, wpS_nx, wpS_rt, wpS_bk, wpS_ct, wpS_exc, wpS_bad, wpS_ite, wpS_dSeq, wpS_dNx, wpS_dBk, wpS_dCt, wpS_dDrop, wpS_dRet, wpS_dRetN, wpS_dIf, wpS_dSet, wpS_dAsg, wpS_dPar, wpS_dPar3, wpS_dSet2, wpS_dPut, wpS_dRaise, wpS_dFor, wp_dfn, wO_some, wO_none, wO_map, wO_bind, wO_ite, List.map_cons, List.map_nil, List.replicate_succ, List.replicate_zero, List.cons_append, List.nil_append, Nat.reduceSub, Nat.reduceAdd, List.getElem?_cons_zero, List.getElem?_cons_succ, List.set_cons_zero, List.set_cons_succ, List.length_cons, List.length_nil, tgN, tgNil, tgCons, tgTup, wipeE, isT, String.reduceBEq, Bool.and_false, Bool.false_and, Bool.true_and, Bool.and_true, Bool.or_false, Bool.false_or, Bool.true_or, Bool.or_true, Bool.not_true, Bool.not_false, if_true, if_false, true_and, and_true, Bool.false_eq_true, Bool.true_eq_false, reduceIte, opEq_int, opNe_int, opEq_str, opNe_str, opAdd_int, opSub_int, opMod_pos, opLt_int, opLe_int, opGt_int, opGe_int, opLt_str, opLe_str, opIsN_ref, opIsN_non, opIsN_int, opIsN_tup, opIsN_str, opIsN_bl, opEq_bl, opNe_bl, opFdiv_int, opMul_int, opPow_int, atI_0, atI_1, atI_2, opIx_ref, opIx_tup, opIx_rl, opLen_tup, opLen_str, opLen_rl, opMax2_int, opMin2_int, opInt_int, opInt_bl, tyN_non, tyN_bl, tyN_int, tyN_str, tyN_tup, tyN_rl, truthW_bl, srcW_tup, srcW_rl, srcW_ref gr]
  refine wpS_forL (fun i ε S' => ∃ k x3 x4 x5, ε = [some (.ref n), some (.ref r), some (.int k), x3, x4, x5] ∧ greatOf es (xs.take i) d = some k ∧ Fr 0 S S') ⟨d, _, _, _, rfl, rfl, Fr.refl⟩ (fun _ _ S' _ ⟨_, _, _, _, _, _, f⟩ => f.g0 gr) ?_ ?_
  · rintro i w ε S' e ⟨k, x3, x4, x5, rfl, hk, f⟩
    rw [List.getElem?_map, Option.map_eq_some_iff] at e
    obtain ⟨x, e, rfl⟩ := e
    have e2 : greatOf es (xs.take (i + 1)) d = greatS es (some k) x := by rw [← hk]; exact fold_take e
    simp only [wp_ok, wp_exc, wp_ret, wp_badM, wp_lift, wp_chk, wp_alloc, wp_grd, wp_tgt, wp_noXe, wp_dVar, wp_dC, wp_aNil, wp_aCons, wp_dTup, wp_dLst, wp_dOp, wp_dUn, wp_dFn, wB_bl, wp_dChain, wp_dTru, wp_dBool, wp_dNot, wp_dAnd, wp_dOr, wp_dAndV, wp_dOrV, wp_dNotV, wp_dIfE, wp_dYes, wp_dCall, wp_dCallK, wp_dIsi, wp_dIsi2, wp_dMt, wp_oN, wI_int, wp_oS, wp_dSl, wp_dSrc, wp_dZip, wp_dRng1, wp_dRng2, wp_dEnum, wp_dLc, wpS_nx, wpS_rt, wpS_bk, wpS_ct, wpS_exc, wpS_bad, wpS_ite, wpS_dSeq, wpS_dNx, wpS_dBk, wpS_dCt, wpS_dDrop, wpS_dRet, wpS_dRetN, wpS_dIf, wpS_dSet, wpS_dAsg, wpS_dPar, wpS_dPar3, wpS_dSet2, wpS_dPut, wpS_dRaise, wpS_dFor, wp_dfn, wO_some, wO_none, wO_map, wO_bind, wO_ite, List.map_cons, List.map_nil, List.replicate_succ, List.replicate_zero, List.cons_append, List.nil_append, Nat.reduceSub, Nat.reduceAdd, List.getElem?_cons_zero, List.getElem?_cons_succ, List.set_cons_zero, List.set_cons_succ, List.length_cons, List.length_nil, tgN, tgNil, tgCons, tgTup, wipeE, isT, String.reduceBEq, Bool.and_false, Bool.false_and, Bool.true_and, Bool.and_true, Bool.or_false, Bool.false_or, Bool.true_or, Bool.or_true, Bool.not_true, Bool.not_false, if_true, if_false, true_and, and_true, Bool.false_eq_true, Bool.true_eq_false, reduceIte, opEq_int, opNe_int, opEq_str, opNe_str, opAdd_int, opSub_int, opMod_pos, opLt_int, opLe_int, opGt_int, opGe_int, opLt_str, opLe_str, opIsN_ref, opIsN_non, opIsN_int, opIsN_tup, opIsN_str, opIsN_bl, opEq_bl, opNe_bl, opFdiv_int, opMul_int, opPow_int, atI_0, atI_1, atI_2, opIx_ref, opIx_tup, opIx_rl, opLen_tup, opLen_str, opLen_rl, opMax2_int, opMin2_int, opInt_int, opInt_bl, tyN_non, tyN_bl, tyN_int, tyN_str, tyN_tup, tyN_rl, truthW_bl, srcW_tup, srcW_rl]
    by_cases hp : x = "+"
    · rw [if_pos (by rw [hp]; exact beq_self_eq_true _)]
      refine ⟨k + 1, _, _, _, rfl, ?_, f⟩
      rw [e2]
      exact if_pos hp
    · rw [if_neg (by simpa using hp)]
      have e3 : greatS es (some k) x = minO (laterOf es x k) := if_neg hp
      rw [e3] at e2
      simp only [wp_ok, wp_exc, wp_ret, wp_badM, wp_lift, wp_chk, wp_alloc, wp_grd, wp_tgt, wp_noXe, wp_dVar, wp_dC, wp_aNil, wp_aCons, wp_dTup, wp_dLst, wp_dOp, wp_dUn, wp_dFn, wB_bl, wp_dChain, wp_dTru, wp_dBool, wp_dNot, wp_dAnd, wp_dOr, wp_dAndV, wp_dOrV, wp_dNotV, wp_dIfE, wp_dYes, wp_dCall, wp_dCallK, wp_dIsi, wp_dIsi2, wp_dMt, wp_oN, wI_int, wp_oS, wp_dSl, wp_dSrc, wp_dZip, wp_dRng1, wp_dRng2, wp_dEnum, wp_dLc, wpS_nx, wpS_rt, wpS_bk, wpS_ct, wpS_exc, wpS_bad, wpS_ite, wpS_dSeq, wpS_dNx, wpS_dBk, wpS_dCt, wpS_dDrop, wpS_dRet, wpS_dRetN, wpS_dIf, wpS_dSet, wpS_dAsg, wpS_dPar, wpS_dPar3, wpS_dSet2, wpS_dPut, wpS_dRaise, wpS_dFor, wp_dfn, wO_some, wO_none, wO_map, wO_bind, wO_ite, List.map_cons, List.map_nil, List.replicate_succ, List.replicate_zero, List.cons_append, List.nil_append, Nat.reduceSub, Nat.reduceAdd, List.getElem?_cons_zero, List.getElem?_cons_succ, List.set_cons_zero, List.set_cons_succ, List.length_cons, List.length_nil, tgN, tgNil, tgCons, tgTup, wipeE, isT, String.reduceBEq, Bool.and_false, Bool.false_and, Bool.true_and, Bool.and_true, Bool.or_false, Bool.false_or, Bool.true_or, Bool.or_true, Bool.not_true, Bool.not_false, if_true, if_false, true_and, and_true, Bool.false_eq_true, Bool.true_eq_false, reduceIte, opEq_int, opNe_int, opEq_str, opNe_str, opAdd_int, opSub_int, opMod_pos, opLt_int, opLe_int, opGt_int, opGe_int, opLt_str, opLe_str, opIsN_ref, opIsN_non, opIsN_int, opIsN_tup, opIsN_str, opIsN_bl, opEq_bl, opNe_bl, opFdiv_int, opMul_int, opPow_int, atI_0, atI_1, atI_2, opIx_ref, opIx_tup, opIx_rl, opLen_tup, opLen_str, opLen_rl, opMax2_int, opMin2_int, opInt_int, opInt_bl, tyN_non, tyN_bl, tyN_int, tyN_str, tyN_tup, tyN_rl, truthW_bl, srcW_tup, srcW_rl, srcW_ref (f.g0 g), List.length_map, lenOk_of (show es.length ≤ 1000000 by omega)]
      refine wp_mono (lc_two (p := fun e => e.1 == x && decide (k ≤ e.2.2)) (fun S2 f2 => (f.trans f2).g0 g) ?_) ?_ (fun _ _ q => q)
      · intro e S2 f2
        simp only [wp_ok, wp_exc, wp_ret, wp_badM, wp_lift, wp_chk, wp_alloc, wp_grd, wp_tgt, wp_noXe, wp_dVar, wp_dC, wp_aNil, wp_aCons, wp_dTup, wp_dLst, wp_dOp, wp_dUn, wp_dFn, wB_bl, wp_dChain, wp_dTru, wp_dBool, wp_dNot, wp_dAnd, wp_dOr, wp_dAndV, wp_dOrV, wp_dNotV, wp_dIfE, wp_dYes, wp_dCall, wp_dCallK, wp_dIsi, wp_dIsi2, wp_dMt, wp_oN, wI_int, wp_oS, wp_dSl, wp_dSrc, wp_dZip, wp_dRng1, wp_dRng2, wp_dEnum, wp_dLc, wpS_nx, wpS_rt, wpS_bk, wpS_ct, wpS_exc, wpS_bad, wpS_ite, wpS_dSeq, wpS_dNx, wpS_dBk, wpS_dCt, wpS_dDrop, wpS_dRet, wpS_dRetN, wpS_dIf, wpS_dSet, wpS_dAsg, wpS_dPar, wpS_dPar3, wpS_dSet2, wpS_dPut, wpS_dRaise, wpS_dFor, wp_dfn, wO_some, wO_none, wO_map, wO_bind, wO_ite, List.map_cons, List.map_nil, List.replicate_succ, List.replicate_zero, List.cons_append, List.nil_append, Nat.reduceSub, Nat.reduceAdd, List.getElem?_cons_zero, List.getElem?_cons_succ, List.set_cons_zero, List.set_cons_succ, List.length_cons, List.length_nil, tgN, tgNil, tgCons, tgTup, wipeE, isT, String.reduceBEq, Bool.and_false, Bool.false_and, Bool.true_and, Bool.and_true, Bool.or_false, Bool.false_or, Bool.true_or, Bool.or_true, Bool.not_true, Bool.not_false, if_true, if_false, true_and, and_true, Bool.false_eq_true, Bool.true_eq_false, reduceIte, opEq_int, opNe_int, opEq_str, opNe_str, opAdd_int, opSub_int, opMod_pos, opLt_int, opLe_int, opGt_int, opGe_int, opLt_str, opLe_str, opIsN_ref, opIsN_non, opIsN_int, opIsN_tup, opIsN_str, opIsN_bl, opEq_bl, opNe_bl, opFdiv_int, opMul_int, opPow_int, atI_0, atI_1, atI_2, opIx_ref, opIx_tup, opIx_rl, opLen_tup, opLen_str, opLen_rl, opMax2_int, opMin2_int, opInt_int, opInt_bl, tyN_non, tyN_bl, tyN_int, tyN_str, tyN_tup, tyN_rl, truthW_bl, srcW_tup, srcW_rl]
        split
        · rename_i h
          simp only [wp_ok, wp_exc, wp_ret, wp_badM, wp_lift, wp_chk, wp_alloc, wp_grd, wp_tgt, wp_noXe, wp_dVar, wp_dC, wp_aNil, wp_aCons, wp_dTup, wp_dLst, wp_dOp, wp_dUn, wp_dFn, wB_bl, wp_dChain, wp_dTru, wp_dBool, wp_dNot, wp_dAnd, wp_dOr, wp_dAndV, wp_dOrV, wp_dNotV, wp_dIfE, wp_dYes, wp_dCall, wp_dCallK, wp_dIsi, wp_dIsi2, wp_dMt, wp_oN, wI_int, wp_oS, wp_dSl, wp_dSrc, wp_dZip, wp_dRng1, wp_dRng2, wp_dEnum, wp_dLc, wpS_nx, wpS_rt, wpS_bk, wpS_ct, wpS_exc, wpS_bad, wpS_ite, wpS_dSeq, wpS_dNx, wpS_dBk, wpS_dCt, wpS_dDrop, wpS_dRet, wpS_dRetN, wpS_dIf, wpS_dSet, wpS_dAsg, wpS_dPar, wpS_dPar3, wpS_dSet2, wpS_dPut, wpS_dRaise, wpS_dFor, wp_dfn, wO_some, wO_none, wO_map, wO_bind, wO_ite, List.map_cons, List.map_nil, List.replicate_succ, List.replicate_zero, List.cons_append, List.nil_append, Nat.reduceSub, Nat.reduceAdd, List.getElem?_cons_zero, List.getElem?_cons_succ, List.set_cons_zero, List.set_cons_succ, List.length_cons, List.length_nil, tgN, tgNil, tgCons, tgTup, wipeE, isT, String.reduceBEq, Bool.and_false, Bool.false_and, Bool.true_and, Bool.and_true, Bool.or_false, Bool.false_or, Bool.true_or, Bool.or_true, Bool.not_true, Bool.not_false, if_true, if_false, true_and, and_true, Bool.false_eq_true, Bool.true_eq_false, reduceIte, opEq_int, opNe_int, opEq_str, opNe_str, opAdd_int, opSub_int, opMod_pos, opLt_int, opLe_int, opGt_int, opGe_int, opLt_str, opLe_str, opIsN_ref, opIsN_non, opIsN_int, opIsN_tup, opIsN_str, opIsN_bl, opEq_bl, opNe_bl, opFdiv_int, opMul_int, opPow_int, atI_0, atI_1, atI_2, opIx_ref, opIx_tup, opIx_rl, opLen_tup, opLen_str, opLen_rl, opMax2_int, opMin2_int, opInt_int, opInt_bl, tyN_non, tyN_bl, tyN_int, tyN_str, tyN_tup, tyN_rl, truthW_bl, srcW_tup, srcW_rl, h]
        · rename_i h
          have : (e.1 == x) = false := by simpa using h
          simp only [this, Bool.false_and]
      rintro ws S1 ⟨rfl, f1⟩
      have e0 : ((List.filter (fun e : Ent => e.1 == x && decide (k ≤ e.2.2)) es).map fun e => e.2.2) = laterOf es x k := rfl
      rw [e0]
      have g1 : (S1 ++ [O.lst ((laterOf es x k).map W.int)])[S1.length]? = some (.lst ((laterOf es x k).map W.int)) := get_new
      rw [opSorted_ref g1]
      simp only [wp_ok, wp_exc, wp_ret, wp_badM, wp_lift, wp_chk, wp_alloc, wp_grd, wp_tgt, wp_noXe, wp_dVar, wp_dC, wp_aNil, wp_aCons, wp_dTup, wp_dLst, wp_dOp, wp_dUn, wp_dFn, wB_bl, wp_dChain, wp_dTru, wp_dBool, wp_dNot, wp_dAnd, wp_dOr, wp_dAndV, wp_dOrV, wp_dNotV, wp_dIfE, wp_dYes, wp_dCall, wp_dCallK, wp_dIsi, wp_dIsi2, wp_dMt, wp_oN, wI_int, wp_oS, wp_dSl, wp_dSrc, wp_dZip, wp_dRng1, wp_dRng2, wp_dEnum, wp_dLc, wpS_nx, wpS_rt, wpS_bk, wpS_ct, wpS_exc, wpS_bad, wpS_ite, wpS_dSeq, wpS_dNx, wpS_dBk, wpS_dCt, wpS_dDrop, wpS_dRet, wpS_dRetN, wpS_dIf, wpS_dSet, wpS_dAsg, wpS_dPar, wpS_dPar3, wpS_dSet2, wpS_dPut, wpS_dRaise, wpS_dFor, wp_dfn, wO_some, wO_none, wO_map, wO_bind, wO_ite, List.map_cons, List.map_nil, List.replicate_succ, List.replicate_zero, List.cons_append, List.nil_append, Nat.reduceSub, Nat.reduceAdd, List.getElem?_cons_zero, List.getElem?_cons_succ, List.set_cons_zero, List.set_cons_succ, List.length_cons, List.length_nil, tgN, tgNil, tgCons, tgTup, wipeE, isT, String.reduceBEq, Bool.and_false, Bool.false_and, Bool.true_and, Bool.and_true, Bool.or_false, Bool.false_or, Bool.true_or, Bool.or_true, Bool.not_true, Bool.not_false, if_true, if_false, true_and, and_true, Bool.false_eq_true, Bool.true_eq_false, reduceIte, opEq_int, opNe_int, opEq_str, opNe_str, opAdd_int, opSub_int, opMod_pos, opLt_int, opLe_int, opGt_int, opGe_int, opLt_str, opLe_str, opIsN_ref, opIsN_non, opIsN_int, opIsN_tup, opIsN_str, opIsN_bl, opEq_bl, opNe_bl, opFdiv_int, opMul_int, opPow_int, atI_0, atI_1, atI_2, opIx_ref, opIx_tup, opIx_rl, opLen_tup, opLen_str, opLen_rl, opMax2_int, opMin2_int, opInt_int, opInt_bl, tyN_non, tyN_bl, tyN_int, tyN_str, tyN_tup, tyN_rl, truthW_bl, srcW_tup, srcW_rl, lenOk_of (show 0 ≤ 1000000 by decide)]
      have g2 : (S1 ++ [O.lst ((laterOf es x k).map W.int)] ++ [O.lst (((laterOf es x k).mergeSort leI).map W.int)] ++ [O.lst []])[(S1 ++ [O.lst ((laterOf es x k).map W.int)]).length]? = some (.lst (((laterOf es x k).mergeSort leI).map W.int)) := Fr.app.g0 get_new
      rw [opEq_intsNil g2 get_new, wO_some]
      simp only [wp_ok, wp_exc, wp_ret, wp_badM, wp_lift, wp_chk, wp_alloc, wp_grd, wp_tgt, wp_noXe, wp_dVar, wp_dC, wp_aNil, wp_aCons, wp_dTup, wp_dLst, wp_dOp, wp_dUn, wp_dFn, wB_bl, wp_dChain, wp_dTru, wp_dBool, wp_dNot, wp_dAnd, wp_dOr, wp_dAndV, wp_dOrV, wp_dNotV, wp_dIfE, wp_dYes, wp_dCall, wp_dCallK, wp_dIsi, wp_dIsi2, wp_dMt, wp_oN, wI_int, wp_oS, wp_dSl, wp_dSrc, wp_dZip, wp_dRng1, wp_dRng2, wp_dEnum, wp_dLc, wpS_nx, wpS_rt, wpS_bk, wpS_ct, wpS_exc, wpS_bad, wpS_ite, wpS_dSeq, wpS_dNx, wpS_dBk, wpS_dCt, wpS_dDrop, wpS_dRet, wpS_dRetN, wpS_dIf, wpS_dSet, wpS_dAsg, wpS_dPar, wpS_dPar3, wpS_dSet2, wpS_dPut, wpS_dRaise, wpS_dFor, wp_dfn, wO_some, wO_none, wO_map, wO_bind, wO_ite, List.map_cons, List.map_nil, List.replicate_succ, List.replicate_zero, List.cons_append, List.nil_append, Nat.reduceSub, Nat.reduceAdd, List.getElem?_cons_zero, List.getElem?_cons_succ, List.set_cons_zero, List.set_cons_succ, List.length_cons, List.length_nil, tgN, tgNil, tgCons, tgTup, wipeE, isT, String.reduceBEq, Bool.and_false, Bool.false_and, Bool.true_and, Bool.and_true, Bool.or_false, Bool.false_or, Bool.true_or, Bool.or_true, Bool.not_true, Bool.not_false, if_true, if_false, true_and, and_true, Bool.false_eq_true, Bool.true_eq_false, reduceIte, opEq_int, opNe_int, opEq_str, opNe_str, opAdd_int, opSub_int, opMod_pos, opLt_int, opLe_int, opGt_int, opGe_int, opLt_str, opLe_str, opIsN_ref, opIsN_non, opIsN_int, opIsN_tup, opIsN_str, opIsN_bl, opEq_bl, opNe_bl, opFdiv_int, opMul_int, opPow_int, atI_0, atI_1, atI_2, opIx_ref, opIx_tup, opIx_rl, opLen_tup, opLen_str, opLen_rl, opMax2_int, opMin2_int, opInt_int, opInt_bl, tyN_non, tyN_bl, tyN_int, tyN_str, tyN_tup, tyN_rl, truthW_bl, srcW_tup, srcW_rl]
      have ff : Fr 0 S (S1 ++ [O.lst ((laterOf es x k).map W.int)] ++ [O.lst (((laterOf es x k).mergeSort leI).map W.int)] ++ [O.lst []]) := f.trans f1.snoc.snoc.snoc
      cases z : laterOf es x k with
      | nil =>
        rw [z] at e2
        have : ([] : List Int).mergeSort leI = [] := by simp
        rw [this]
        simp only [List.isEmpty_nil, if_true]
        have nn : greatOf es xs d = none := by
          have e4 : greatOf es xs d = (xs.drop (i + 1)).foldl (greatS es) (greatOf es (xs.take (i + 1)) d) := by
            unfold greatOf
            rw [← List.foldl_append, List.take_append_drop]
          rw [e4, e2]
          exact great_none
        rw [nn]
        rw [z, this] at ff
        exact ⟨rfl, ff⟩
      | cons a as =>
        rw [z] at e2 g2 ff
        have hd := sorted_head (ns := a :: as) (by simp)
        have hne : ((a :: as).mergeSort leI).isEmpty = false := by
          cases q : (a :: as).mergeSort leI with
          | nil => rw [q] at hd; cases hd
          | cons _ _ => rfl
        rw [hne, if_neg (by decide)]
        have hd2 : (((a :: as).mergeSort leI).map W.int)[0]? = some (.int (minI (a :: as))) := by rw [List.getElem?_map, hd]; rfl
        have g3 := lstAt_of g2
        simp only [List.map_cons] at g3 ⊢
        simp only [wp_ok, wp_exc, wp_ret, wp_badM, wp_lift, wp_chk, wp_alloc, wp_grd, wp_tgt, wp_noXe, wp_dVar, wp_dC, wp_aNil, wp_aCons, wp_dTup, wp_dLst, wp_dOp, wp_dUn, wp_dFn, wB_bl, wp_dChain, wp_dTru, wp_dBool, wp_dNot, wp_dAnd, wp_dOr, wp_dAndV, wp_dOrV, wp_dNotV, wp_dIfE, wp_dYes, wp_dCall, wp_dCallK, wp_dIsi, wp_dIsi2, wp_dMt, wp_oN, wI_int, wp_oS, wp_dSl, wp_dSrc, wp_dZip, wp_dRng1, wp_dRng2, wp_dEnum, wp_dLc, wpS_nx, wpS_rt, wpS_bk, wpS_ct, wpS_exc, wpS_bad, wpS_ite, wpS_dSeq, wpS_dNx, wpS_dBk, wpS_dCt, wpS_dDrop, wpS_dRet, wpS_dRetN, wpS_dIf, wpS_dSet, wpS_dAsg, wpS_dPar, wpS_dPar3, wpS_dSet2, wpS_dPut, wpS_dRaise, wpS_dFor, wp_dfn, wO_some, wO_none, wO_map, wO_bind, wO_ite, List.map_cons, List.map_nil, List.replicate_succ, List.replicate_zero, List.cons_append, List.nil_append, Nat.reduceSub, Nat.reduceAdd, List.getElem?_cons_zero, List.getElem?_cons_succ, List.set_cons_zero, List.set_cons_succ, List.length_cons, List.length_nil, tgN, tgNil, tgCons, tgTup, wipeE, isT, String.reduceBEq, Bool.and_false, Bool.false_and, Bool.true_and, Bool.and_true, Bool.or_false, Bool.false_or, Bool.true_or, Bool.or_true, Bool.not_true, Bool.not_false, if_true, if_false, true_and, and_true, Bool.false_eq_true, Bool.true_eq_false, reduceIte, opEq_int, opNe_int, opEq_str, opNe_str, opAdd_int, opSub_int, opMod_pos, opLt_int, opLe_int, opGt_int, opGe_int, opLt_str, opLe_str, opIsN_ref, opIsN_non, opIsN_int, opIsN_tup, opIsN_str, opIsN_bl, opEq_bl, opNe_bl, opFdiv_int, opMul_int, opPow_int, atI_0, atI_1, atI_2, opIx_ref, opIx_tup, opIx_rl, opLen_tup, opLen_str, opLen_rl, opMax2_int, opMin2_int, opInt_int, opInt_bl, tyN_non, tyN_bl, tyN_int, tyN_str, tyN_tup, tyN_rl, truthW_bl, srcW_tup, srcW_rl, g3, hd2]
        exact ⟨_, _, _, _, rfl, e2, ff⟩
  · rintro ε S' ⟨k, x3, x4, x5, rfl, hk, f⟩
    rw [List.length_map, List.take_length] at hk
    simp only [wp_ok, wp_exc, wp_ret, wp_badM, wp_lift, wp_chk, wp_alloc, wp_grd, wp_tgt, wp_noXe, wp_dVar, wp_dC, wp_aNil, wp_aCons, wp_dTup, wp_dLst, wp_dOp, wp_dUn, wp_dFn, wB_bl, wp_dChain, wp_dTru, wp_dBool, wp_dNot, wp_dAnd, wp_dOr, wp_dAndV, wp_dOrV, wp_dNotV, wp_dIfE, wp_dYes, wp_dCall, wp_dCallK, wp_dIsi, wp_dIsi2, wp_dMt, wp_oN, wI_int, wp_oS, wp_dSl, wp_dSrc, wp_dZip, wp_dRng1, wp_dRng2, wp_dEnum, wp_dLc, wpS_nx, wpS_rt, wpS_bk, wpS_ct, wpS_exc, wpS_bad, wpS_ite, wpS_dSeq, wpS_dNx, wpS_dBk, wpS_dCt, wpS_dDrop, wpS_dRet, wpS_dRetN, wpS_dIf, wpS_dSet, wpS_dAsg, wpS_dPar, wpS_dPar3, wpS_dSet2, wpS_dPut, wpS_dRaise, wpS_dFor, wp_dfn, wO_some, wO_none, wO_map, wO_bind, wO_ite, List.map_cons, List.map_nil, List.replicate_succ, List.replicate_zero, List.cons_append, List.nil_append, Nat.reduceSub, Nat.reduceAdd, List.getElem?_cons_zero, List.getElem?_cons_succ, List.set_cons_zero, List.set_cons_succ, List.length_cons, List.length_nil, tgN, tgNil, tgCons, tgTup, wipeE, isT, String.reduceBEq, Bool.and_false, Bool.false_and, Bool.true_and, Bool.and_true, Bool.or_false, Bool.false_or, Bool.true_or, Bool.or_true, Bool.not_true, Bool.not_false, if_true, if_false, true_and, and_true, Bool.false_eq_true, Bool.true_eq_false, reduceIte, opEq_int, opNe_int, opEq_str, opNe_str, opAdd_int, opSub_int, opMod_pos, opLt_int, opLe_int, opGt_int, opGe_int, opLt_str, opLe_str, opIsN_ref, opIsN_non, opIsN_int, opIsN_tup, opIsN_str, opIsN_bl, opEq_bl, opNe_bl, opFdiv_int, opMul_int, opPow_int, atI_0, atI_1, atI_2, opIx_ref, opIx_tup, opIx_rl, opLen_tup, opLen_str, opLen_rl, opMax2_int, opMin2_int, opInt_int, opInt_bl, tyN_non, tyN_bl, tyN_int, tyN_str, tyN_tup, tyN_rl, truthW_bl, srcW_tup, srcW_rl]
    rw [hk]
    exact ⟨rfl, f⟩
end
end N
namespace K52
open PySem L2 N
def top (i : Nat) : Stmt := PySem.Challenge.pw_daychains_k52_long_logs.main.body.getD i (.Pass ⟨0, 0, 0, 0⟩)
noncomputable section
def d_is_integer : DS :=
  dSeq (dIf (dOr (dNot (dTru (dIsi "int" (dVar 0)))) (dTru (dIsi "bool" (dVar 0)))) (dRet (dC (.bl false))) (dNx))
  (dRet (dAndV (dOrV (dOp opIsN (dVar 1) (dC .non)) (dOp opLe (dVar 1) (dVar 0))) (dOrV (dOp opIsN (dVar 2) (dC .non)) (dOp opLe (dVar 0) (dVar 2)))))
def n_is_integer : List W → M W := dfn 3 3 d_is_integer
def d_is_day : DS :=
  dRet (dCallK n_is_integer 1 0 [.non, .non] [0, 1, 2] (aCons (dVar 0) (aNil)) (aNil))
def n_is_day : List W → M W := dfn 1 1 d_is_day
def d_require_day : DS :=
  dIf (dNot (dTru (dCall n_is_day (aCons (dVar 0) (aNil))))) (dRaise 1) (dNx)
def n_require_day : List W → M W := dfn 1 1 d_require_day
def d_is_office : DS :=
  dSeq (dIf (dOr (dNot (dTru (dIsi "str" (dVar 0)))) (dNot (dBool (dChain opLe opLe (dC (.int 1)) (dFn opLen (aCons (dVar 0) aNil)) (dC (.int 8)))))) (dRet (dC (.bl false))) (dNx))
  (dRet (dFn opAll (aCons (dLc (dSrc (dVar 0)) (tgN 1) (dYes) (dChain opLe opLe (dC (.str "a")) (dVar 1) (dC (.str "z"))) [1]) aNil)))
def n_is_office : List W → M W := dfn 2 1 d_is_office
def d_is_letter : DS :=
  dRet (dOrV (dCall n_is_office (aCons (dVar 0) (aNil))) (dAndV (dIsi "str" (dVar 0)) (dOp opEq (dVar 0) (dC (.str "+")))))
def n_is_letter : List W → M W := dfn 1 1 d_is_letter
def d_is_rule : DS :=
  dRet (dAndV (dIsi "list" (dVar 0)) (dFn opAll (aCons (dLc (dSrc (dVar 0)) (tgN 1) (dYes) (dCall n_is_letter (aCons (dVar 1) (aNil))) [1]) aNil)))
def n_is_rule : List W → M W := dfn 2 1 d_is_rule
def d_require_office : DS :=
  dIf (dNot (dTru (dCall n_is_office (aCons (dVar 0) (aNil))))) (dRaise 2) (dNx)
def n_require_office : List W → M W := dfn 1 1 d_require_office
def d_require_rule : DS :=
  dIf (dNot (dTru (dCall n_is_rule (aCons (dVar 0) (aNil))))) (dRaise 3) (dNx)
def n_require_rule : List W → M W := dfn 1 1 d_require_rule
def d_is_entry : DS :=
  dSeq (dIf (dOr (dNot (dTru (dIsi "tuple" (dVar 0)))) (dOr (dBool (dOp opNe (dFn opLen (aCons (dVar 0) aNil)) (dC (.int 3)))) (dNot (dTru (dCall n_is_office (aCons (dOp opIx (dVar 0) (dC (.int 0))) (aNil))))))) (dRet (dC (.bl false))) (dNx))
  (dRet (dAndV (dCall n_is_day (aCons (dOp opIx (dVar 0) (dC (.int 1))) (aNil))) (dAndV (dCall n_is_day (aCons (dOp opIx (dVar 0) (dC (.int 2))) (aNil))) (dOp opLe (dOp opIx (dVar 0) (dC (.int 1))) (dOp opIx (dVar 0) (dC (.int 2)))))))
def n_is_entry : List W → M W := dfn 1 1 d_is_entry
def d_require_log : DS :=
  dIf (dOr (dNot (dTru (dIsi "list" (dVar 0)))) (dNot (dTru (dFn opAll (aCons (dLc (dSrc (dVar 0)) (tgN 1) (dYes) (dCall n_is_entry (aCons (dVar 1) (aNil))) [1]) aNil))))) (dRaise 4) (dNx)
def n_require_log : List W → M W := dfn 2 1 d_require_log
def d_closes : DS :=
  dRet (dChain opLe opLt (dOp opIx (dVar 0) (dC (.int 1))) (dVar 1) (dOp opIx (dVar 0) (dC (.int 2))))
def n_closes : List W → M W := dfn 2 2 d_closes
def d_do_clash : DS :=
  dRet (dAndV (dOp opEq (dOp opIx (dVar 0) (dC (.int 0))) (dOp opIx (dVar 1) (dC (.int 0)))) (dOrV (dCall n_closes (aCons (dVar 0) (aCons (dOp opIx (dVar 1) (dC (.int 2))) (aNil)))) (dCall n_closes (aCons (dVar 1) (aCons (dOp opIx (dVar 0) (dC (.int 2))) (aNil))))))
def n_do_clash : List W → M W := dfn 2 2 d_do_clash
def d_clash_in : DS :=
  dSeq (dFor (dEnum (aCons (dVar 0) aNil)) (tgTup 2 (tgCons (tgN 1) (tgCons (tgN 2) (tgNil)))) (dFor (dEnum (aCons (dSl (dVar 0) (oN) (oS (dVar 1))) aNil)) (tgTup 2 (tgCons (tgN 3) (tgCons (tgN 4) (tgNil)))) (dIf (dTru (dCall n_do_clash (aCons (dVar 4) (aCons (dVar 2) (aNil))))) (dRet (dTup (aCons (dVar 3) (aCons (dVar 1) (aNil))))) (dNx))))
  (dRet (dC .non))
def n_clash_in : List W → M W := dfn 5 1 d_clash_in
def d_require_no_clash : DS :=
  dSeq (dDrop (dCall n_require_log (aCons (dVar 0) (aNil))))
  (dSeq (dSet 1 (dCall n_clash_in (aCons (dVar 0) (aNil))))
  (dIf (dBool (dOp opNotN (dVar 1) (dC .non))) (dSeq (dAsg (tgTup 2 (tgCons (tgN 2) (tgCons (tgN 3) (tgNil)))) (dVar 1))
  ((fun _ _ => .bad))) (dNx)))
def n_require_no_clash : List W → M W := dfn 4 1 d_require_no_clash
def d_find_clash : DS :=
  dSeq (dDrop (dCall n_require_log (aCons (dVar 0) (aNil))))
  (dRet (dCall n_clash_in (aCons (dVar 0) (aNil))))
def n_find_clash : List W → M W := dfn 1 1 d_find_clash
def d_known_state : DS :=
  dSeq (dDrop (dCall n_require_no_clash (aCons (dVar 0) (aNil))))
  (dSeq (dDrop (dCall n_require_office (aCons (dVar 1) (aNil))))
  (dSeq (dDrop (dCall n_require_day (aCons (dVar 2) (aNil))))
  (dSeq (dSet 3 (dLc (dSrc (dVar 0)) (tgN 4) (dBool (dOp opEq (dOp opIx (dVar 4) (dC (.int 0))) (dVar 1))) (dVar 4) [4]))
  (dSeq (dIf (dTru (dFn opAny (aCons (dLc (dSrc (dVar 3)) (tgN 4) (dYes) (dOp opEq (dOp opIx (dVar 4) (dC (.int 2))) (dVar 2)) [4]) aNil))) (dRet (dC (.str "open"))) (dNx))
  (dRet (dIfE (dTru (dFn opAny (aCons (dLc (dSrc (dVar 3)) (tgN 4) (dYes) (dCall n_closes (aCons (dVar 4) (aCons (dVar 2) (aNil)))) [4]) aNil))) (dC (.str "closed")) (dC (.str "free"))))))))
def n_known_state : List W → M W := dfn 5 3 d_known_state
def d_first_of : DS :=
  dRet (dFn opMaxL (aCons (dOp opAdd (dLst (aCons (dVar 2) (aNil))) (dLc (dSrc (dVar 0)) (tgN 3) (dAnd (dBool (dOp opEq (dOp opIx (dVar 3) (dC (.int 0))) (dVar 1))) (dTru (dCall n_closes (aCons (dVar 3) (aCons (dVar 2) (aNil)))))) (dOp opIx (dVar 3) (dC (.int 2))) [3])) aNil))
def n_first_of : List W → M W := dfn 4 3 d_first_of
def d_last_of : DS :=
  dSeq (dSet 3 (dLc (dSrc (dVar 0)) (tgN 4) (dAnd (dBool (dOp opEq (dOp opIx (dVar 4) (dC (.int 0))) (dVar 1))) (dBool (dOp opGe (dOp opIx (dVar 4) (dC (.int 2))) (dVar 2)))) (dOp opIx (dVar 4) (dC (.int 2))) [4]))
  (dRet (dIfE (dBool (dOp opNe (dVar 3) (dLst (aNil)))) (dFn opMinL (aCons (dVar 3) aNil)) (dC .non)))
def n_last_of : List W → M W := dfn 5 3 d_last_of
def d_day_range : DS :=
  dSeq (dDrop (dCall n_require_no_clash (aCons (dVar 0) (aNil))))
  (dSeq (dDrop (dCall n_require_rule (aCons (dVar 1) (aNil))))
  (dSeq (dDrop (dCall n_require_day (aCons (dVar 2) (aNil))))
  (dSeq (dSet2 3 4 (dVar 2))
  (dSeq (dFor (dSrc (dVar 1)) (tgN 5) (dSeq (dSet 3 (dIfE (dBool (dOp opEq (dVar 5) (dC (.str "+")))) (dOp opAdd (dVar 3) (dC (.int 1))) (dCall n_first_of (aCons (dVar 0) (aCons (dVar 5) (aCons (dVar 3) (aNil)))))))
  (dIf (dBool (dOp opNotN (dVar 4) (dC .non))) (dSet 4 (dIfE (dBool (dOp opEq (dVar 5) (dC (.str "+")))) (dOp opAdd (dVar 4) (dC (.int 1))) (dCall n_last_of (aCons (dVar 0) (aCons (dVar 5) (aCons (dVar 4) (aNil))))))) (dNx))))
  (dRet (dTup (aCons (dVar 3) (aCons (dVar 4) (aNil)))))))))
def n_day_range : List W → M W := dfn 6 3 d_day_range
def d_law_deck : DS :=
  dSeq (dSet 1 (dLst (aNil)))
  (dSeq (dFor (dRng1 (aCons (dFn opMax2 (aCons (dC (.int 1)) (aCons (dFn opMin2 (aCons (dC (.int 63)) (aCons (dFn opLen (aCons (dVar 0) aNil)) aNil))) aNil))) aNil)) (tgN 2) (dSeq (dSet 3 (dC (.int 0)))
  (dSeq (dIf (dBool (dOp opLt (dVar 2) (dFn opLen (aCons (dVar 0) aNil)))) (dSet 3 (dOp opIx (dVar 0) (dVar 2))) (dNx))
  (dDrop (dMt "list" mAppend (dVar 1) (aCons (dLst (aCons (dVar 3) (aCons (dFn opInt (aCons (dOp opGe (dVar 3) (dOp opPow (dC (.int 10)) (dC (.int 18)))) aNil)) (aCons (dOp opMul (dC (.int 31)) (dVar 2)) (aNil))))) aNil))))))
  (dRet (dLst (aCons (dVar 1) (aCons (dC (.int 0)) (aNil))))))
def n_law_deck : List W → M W := dfn 4 1 d_law_deck
def d_law_draw : DS :=
  dSeq (dSet 2 (dOp opIx (dOp opIx (dVar 0) (dC (.int 0))) (dOp opMod (dOp opIx (dVar 0) (dC (.int 1))) (dFn opLen (aCons (dOp opIx (dVar 0) (dC (.int 0))) aNil)))))
  (dSeq (dPut (dOp opAdd (dOp opIx (dVar 0) (dC (.int 1))) (dC (.int 1))) (dVar 0) (dC (.int 1)))
  (dSeq (dIf (dAnd (dBool (dOp opEq (dOp opIx (dVar 2) (dC (.int 1))) (dC (.int 1)))) (dBool (dOp opGt (dOp opIx (dVar 2) (dC (.int 0))) (dC (.int 0))))) (dSeq (dSet 4 (dOp opMod (dOp opIx (dVar 2) (dC (.int 0))) (dVar 1)))
  (dSeq (dPut (dOp opFdiv (dOp opIx (dVar 2) (dC (.int 0))) (dVar 1)) (dVar 2) (dC (.int 0)))
  (dRet (dVar 4)))) (dNx))
  (dSeq (dPut (dOp opAdd (dOp opIx (dVar 2) (dC (.int 2))) (dC (.int 1))) (dVar 2) (dC (.int 2)))
  (dSeq (dSet 3 (dOp opAdd (dOp opMod (dOp opIx (dVar 2) (dC (.int 0))) (dC (.int 162259276829213363391578010288127))) (dOp opMul (dC (.int 982451653)) (dOp opIx (dVar 2) (dC (.int 2))))))
  (dSeq (dSet 3 (dOp opMod (dOp opPow (dVar 3) (dC (.int 3))) (dC (.int 618970019642690137449562111))))
  (dSeq (dSet 3 (dOp opMod (dOp opPow (dOp opAdd (dVar 3) (dOp opMul (dC (.int 49979687)) (dOp opIx (dVar 2) (dC (.int 2))))) (dC (.int 3))) (dC (.int 162259276829213363391578010288127))))
  (dRet (dOp opMod (dOp opFdiv (dVar 3) (dC (.int 524288))) (dVar 1)))))))))
def n_law_draw : List W → M W := dfn 5 2 d_law_draw
def d_law_same (r : List W → M W) : DS :=
  dSeq (dIf (dTru (dIsi2 "list" "tuple" (dVar 1))) (dSeq (dIf (dOr (dBool (dOp opNe (dIsi "list" (dVar 0)) (dIsi "list" (dVar 1)))) (dBool (dOp opNe (dIsi "tuple" (dVar 0)) (dIsi "tuple" (dVar 1))))) (dRet (dC (.bl false))) (dNx))
  (dSeq (dIf (dBool (dOp opNe (dFn opLen (aCons (dVar 0) aNil)) (dFn opLen (aCons (dVar 1) aNil)))) (dRet (dC (.bl false))) (dNx))
  (dRet (dOp opEq (dLc (dZip (aCons (dVar 0) (aCons (dVar 1) aNil))) (tgTup 2 (tgCons (tgN 2) (tgCons (tgN 3) (tgNil)))) (dNot (dTru (dCall r (aCons (dVar 2) (aCons (dVar 3) (aNil)))))) (dC (.int 1)) [2, 3]) (dLst (aNil)))))) (dNx))
  (dSeq (dIf (dOr (dBool (dOp opIsN (dVar 1) (dC .non))) (dBool (dOp opIsN (dVar 0) (dC .non)))) (dRet (dAndV (dOp opIsN (dVar 1) (dC .non)) (dOp opIsN (dVar 0) (dC .non)))) (dNx))
  (dSeq (dIf (dOr (dBool (dOp opNe (dIsi "bool" (dVar 0)) (dIsi "bool" (dVar 1)))) (dBool (dOp opNe (dIsi "str" (dVar 0)) (dIsi "str" (dVar 1))))) (dRet (dC (.bl false))) (dNx))
  (dRet (dOp opEq (dVar 0) (dVar 1)))))
def n_law_same : Nat → List W → M W
  | 0 => fun _ => bad
  | j + 1 => dfn 4 2 (d_law_same (n_law_same j))
def d_law_letters : DS :=
  dSeq (dSet 3 (dOp opAdd (dVar 1) (dLst (aCons (dC (.str "+")) (aCons (dC (.str "+")) (aNil))))))
  (dRet (dLc (dRng1 (aCons (dCall n_law_draw (aCons (dVar 0) (aCons (dOp opAdd (dVar 2) (dC (.int 1))) (aNil)))) aNil)) (tgN 4) (dYes) (dOp opIx (dVar 3) (dCall n_law_draw (aCons (dVar 0) (aCons (dFn opLen (aCons (dVar 3) aNil)) (aNil))))) [4]))
def n_law_letters : List W → M W := dfn 5 3 d_law_letters
def d_law_closes : DS :=
  dRet (dChain opLe opLt (dOp opIx (dVar 0) (dC (.int 1))) (dVar 1) (dOp opIx (dVar 0) (dC (.int 2))))
def n_law_closes : List W → M W := dfn 2 2 d_law_closes
def d_law_first_clash : DS :=
  dSeq (dFor (dRng1 (aCons (dFn opLen (aCons (dVar 0) aNil)) aNil)) (tgN 1) (dFor (dRng1 (aCons (dVar 1) aNil)) (tgN 2) (dIf (dBool (dOp opEq (dOp opIx (dOp opIx (dVar 0) (dVar 2)) (dC (.int 0))) (dOp opIx (dOp opIx (dVar 0) (dVar 1)) (dC (.int 0))))) (dIf (dOr (dTru (dCall n_law_closes (aCons (dOp opIx (dVar 0) (dVar 2)) (aCons (dOp opIx (dOp opIx (dVar 0) (dVar 1)) (dC (.int 2))) (aNil))))) (dTru (dCall n_law_closes (aCons (dOp opIx (dVar 0) (dVar 1)) (aCons (dOp opIx (dOp opIx (dVar 0) (dVar 2)) (dC (.int 2))) (aNil)))))) (dRet (dTup (aCons (dVar 2) (aCons (dVar 1) (aNil))))) (dNx)) (dNx))))
  (dRet (dC .non))
def n_law_first_clash : List W → M W := dfn 3 1 d_law_first_clash
def d_law_long : DS :=
  dSeq (dSet 3 (dLst (aNil)))
  (dSeq (dFor (dSrc (dVar 1)) (tgN 4) (dSeq (dSet 5 (dOp opIx (dLst (aCons (dC (.int 0)) (aCons (dUn opNeg (dOp opPow (dC (.int 10)) (dC (.int 30)))) (aCons (dCall n_law_draw (aCons (dVar 0) (aCons (dOp opPow (dC (.int 10)) (dC (.int 6))) (aNil)))) (aNil))))) (dCall n_law_draw (aCons (dVar 0) (aCons (dC (.int 3)) (aNil))))))
  (dFor (dRng1 (aCons (dOp opIx (dLst (aCons (dCall n_law_draw (aCons (dVar 0) (aCons (dC (.int 5)) (aNil)))) (aCons (dOp opFdiv (dVar 2) (dFn opLen (aCons (dVar 1) aNil))) (aNil)))) (dCall n_law_draw (aCons (dVar 0) (aCons (dC (.int 2)) (aNil))))) aNil)) (tgN 6) (dSeq (dSet 7 (dOp opIx (dLst (aCons (dC (.int 1)) (aCons (dC (.int 6)) (aCons (dOp opPow (dC (.int 10)) (dC (.int 4))) (aCons (dOp opPow (dC (.int 10)) (dC (.int 27))) (aNil)))))) (dCall n_law_draw (aCons (dVar 0) (aCons (dC (.int 4)) (aNil))))))
  (dSeq (dSet 8 (dOp opAdd (dVar 5) (dCall n_law_draw (aCons (dVar 0) (aCons (dOp opAdd (dVar 7) (dC (.int 1))) (aNil))))))
  (dSeq (dDrop (dMt "list" mAppend (dVar 3) (aCons (dTup (aCons (dVar 4) (aCons (dOp opAdd (dVar 5) (dCall n_law_draw (aCons (dVar 0) (aCons (dOp opAdd (dOp opSub (dVar 8) (dVar 5)) (dC (.int 1))) (aNil))))) (aCons (dVar 8) (aNil))))) aNil)))
  (dSeq (dIf (dBool (dOp opEq (dCall n_law_draw (aCons (dVar 0) (aCons (dC (.int 6)) (aNil)))) (dC (.int 0)))) (dDrop (dMt "list" mAppend (dVar 3) (aCons (dTup (aCons (dVar 4) (aCons (dOp opAdd (dVar 5) (dCall n_law_draw (aCons (dVar 0) (aCons (dOp opAdd (dOp opSub (dVar 8) (dVar 5)) (dC (.int 1))) (aNil))))) (aCons (dVar 8) (aNil))))) aNil))) (dNx))
  (dSet 5 (dOp opAdd (dOp opAdd (dVar 8) (dC (.int 1))) (dCall n_law_draw (aCons (dVar 0) (aCons (dC (.int 4)) (aNil)))))))))))))
  (dRet (dSl (dLc (dRng1 (aCons (dFn opLen (aCons (dVar 3) aNil)) aNil)) (tgN 6) (dYes) (dMt "list" mPop (dVar 3) (aCons (dCall n_law_draw (aCons (dVar 0) (aCons (dFn opLen (aCons (dVar 3) aNil)) (aNil)))) (aNil))) [6]) (oN) (oS (dVar 2)))))
def n_law_long : List W → M W := dfn 9 3 d_law_long
def d_law_state : DS :=
  dSeq (dSet 3 (dLc (dSrc (dVar 0)) (tgN 4) (dBool (dOp opEq (dOp opIx (dVar 4) (dC (.int 0))) (dVar 1))) (dVar 4) [4]))
  (dSeq (dIf (dBool (dOp opNe (dLc (dSrc (dVar 3)) (tgN 4) (dBool (dOp opEq (dOp opIx (dVar 4) (dC (.int 2))) (dVar 2))) (dC (.int 1)) [4]) (dLst (aNil)))) (dRet (dC (.str "open"))) (dNx))
  (dRet (dIfE (dBool (dOp opNe (dLc (dSrc (dVar 3)) (tgN 4) (dTru (dCall n_law_closes (aCons (dVar 4) (aCons (dVar 2) (aNil))))) (dC (.int 1)) [4]) (dLst (aNil)))) (dC (.str "closed")) (dC (.str "free")))))
def n_law_state : List W → M W := dfn 5 3 d_law_state
def d_law_least : DS :=
  dSeq (dFor (dSrc (dVar 1)) (tgN 3) (dSeq (dSet 4 (dLc (dSrc (dVar 0)) (tgN 5) (dAnd (dBool (dOp opEq (dOp opIx (dVar 5) (dC (.int 0))) (dVar 3))) (dTru (dCall n_law_closes (aCons (dVar 5) (aCons (dVar 2) (aNil)))))) (dOp opIx (dVar 5) (dC (.int 2))) [5]))
  (dSet 2 (dIfE (dBool (dOp opEq (dVar 3) (dC (.str "+")))) (dOp opAdd (dVar 2) (dC (.int 1))) (dOp opIx (dOp opAdd (dVar 4) (dLst (aCons (dVar 2) (aNil)))) (dC (.int 0)))))))
  (dRet (dVar 2))
def n_law_least : List W → M W := dfn 6 3 d_law_least
def d_law_greatest : DS :=
  dSeq (dFor (dSrc (dVar 1)) (tgN 3) (dIf (dBool (dOp opEq (dVar 3) (dC (.str "+")))) (dSet 2 (dOp opAdd (dVar 2) (dC (.int 1)))) (dSeq (dSet 4 (dFn opSorted (aCons (dLc (dSrc (dVar 0)) (tgN 5) (dAnd (dBool (dOp opEq (dOp opIx (dVar 5) (dC (.int 0))) (dVar 3))) (dBool (dOp opGe (dOp opIx (dVar 5) (dC (.int 2))) (dVar 2)))) (dOp opIx (dVar 5) (dC (.int 2))) [5]) aNil)))
  (dSeq (dIf (dBool (dOp opEq (dVar 4) (dLst (aNil)))) (dRet (dC .non)) (dNx))
  (dSet 2 (dOp opIx (dVar 4) (dC (.int 0))))))))
  (dRet (dVar 2))
def n_law_greatest : List W → M W := dfn 6 3 d_law_greatest
def d_law : DS :=
  dSeq (dSet 1 (dCall n_law_deck (aCons (dVar 0) (aNil))))
  (dSeq (dFor (dRng1 (aCons (dFn opMax2 (aCons (dC (.int 1)) (aCons (dFn opMin2 (aCons (dC (.int 8)) (aCons (dFn opLen (aCons (dVar 0) aNil)) aNil))) aNil))) aNil)) (tgN 2) (dSeq (dSet 3 (dSl (dLst (aCons (dC (.str "ny")) (aCons (dC (.str "a")) (aCons (dC (.str "ldn")) (aCons (dC (.str "b")) (aCons (dC (.str "tokyo")) (aCons (dC (.str "zzzzzzzz")) (aNil)))))))) (oN) (oS (dOp opAdd (dC (.int 1)) (dCall n_law_draw (aCons (dVar 1) (aCons (dC (.int 6)) (aNil))))))))
  (dSeq (dSet 4 (dCall n_law_long (aCons (dVar 1) (aCons (dVar 3) (aCons (dIfE (dBool (dOp opEq (dVar 2) (dC (.int 0)))) (dC (.int 200)) (dC (.int 40))) (aNil))))))
  (dSeq (dSet 5 (dFn opRepr (aCons (dVar 4) aNil)))
  (dSeq (dIf (dBool (dOp opNotN (dCall n_find_clash (aCons (dVar 4) (aNil))) (dC .non))) (dRet (dC (.bl false))) (dNx))
  (dSeq (dSet 6 (dCall n_law_letters (aCons (dVar 1) (aCons (dVar 3) (aCons (dOp opIx (dLst (aCons (dC (.int 8)) (aCons (dC (.int 40)) (aCons (dC (.int 200)) (aNil))))) (dCall n_law_draw (aCons (dVar 1) (aCons (dC (.int 3)) (aNil))))) (aNil))))))
  (dSeq (dFor (dRng1 (aCons (dC (.int 2)) aNil)) (tgN 7) (dSeq (dSet 8 (dOp opIx (dOp opAdd (dVar 4) (dLst (aCons (dTup (aCons (dC (.str "ny")) (aCons (dC (.int 0)) (aCons (dC (.int 0)) (aNil))))) (aNil)))) (dCall n_law_draw (aCons (dVar 1) (aCons (dOp opAdd (dFn opLen (aCons (dVar 4) aNil)) (dC (.int 1))) (aNil))))))
  (dSeq (dPar 12 13 (aCons (dOp opIx (dVar 3) (dCall n_law_draw (aCons (dVar 1) (aCons (dFn opLen (aCons (dVar 3) aNil)) (aNil))))) (aCons (dOp opSub (dOp opAdd (dOp opIx (dVar 8) (dOp opAdd (dC (.int 1)) (dCall n_law_draw (aCons (dVar 1) (aCons (dC (.int 2)) (aNil)))))) (dCall n_law_draw (aCons (dVar 1) (aCons (dC (.int 7)) (aNil))))) (dC (.int 3))) (aNil))))
  (dSeq (dIf (dBool (dOp opNe (dCall n_known_state (aCons (dVar 4) (aCons (dVar 12) (aCons (dVar 13) (aNil))))) (dCall n_law_state (aCons (dVar 4) (aCons (dVar 12) (aCons (dVar 13) (aNil))))))) (dRet (dC (.bl false))) (dNx))
  (dSeq (dIf (dBool (dOp opNe (dCall n_known_state (aCons (dVar 4) (aCons (dOp opIx (dVar 8) (dC (.int 0))) (aCons (dVar 13) (aNil))))) (dCall n_law_state (aCons (dVar 4) (aCons (dOp opIx (dVar 8) (dC (.int 0))) (aCons (dVar 13) (aNil))))))) (dRet (dC (.bl false))) (dNx))
  (dSeq (dSet 9 (dTup (aCons (dCall n_law_least (aCons (dVar 4) (aCons (dVar 6) (aCons (dVar 13) (aNil))))) (aCons (dCall n_law_greatest (aCons (dVar 4) (aCons (dVar 6) (aCons (dVar 13) (aNil))))) (aNil)))))
  (dIf (dNot (dTru (dCall (n_law_same 8) (aCons (dCall n_day_range (aCons (dVar 4) (aCons (dVar 6) (aCons (dVar 13) (aNil))))) (aCons (dVar 9) (aNil)))))) (dRet (dC (.bl false))) (dNx))))))))
  (dSeq (dIf (dBool (dOp opNe (dVar 4) (dLst (aNil)))) (dSeq (dSet 10 (dOp opIx (dVar 4) (dCall n_law_draw (aCons (dVar 1) (aCons (dFn opLen (aCons (dVar 4) aNil)) (aNil))))))
  (dSeq (dSet 11 (dOp opAdd (dSl (dVar 4) (oN) (oS (dC (.int 199)))) (dLst (aCons (dTup (aCons (dOp opIx (dVar 10) (dC (.int 0))) (aCons (dOp opSub (dOp opIx (dVar 10) (dC (.int 1))) (dCall n_law_draw (aCons (dVar 1) (aCons (dC (.int 3)) (aNil))))) (aCons (dOp opAdd (dOp opIx (dVar 10) (dC (.int 2))) (dCall n_law_draw (aCons (dVar 1) (aCons (dC (.int 3)) (aNil))))) (aNil))))) (aNil)))))
  (dIf (dNot (dTru (dCall (n_law_same 8) (aCons (dCall n_find_clash (aCons (dVar 11) (aNil))) (aCons (dCall n_law_first_clash (aCons (dVar 11) (aNil))) (aNil)))))) (dRet (dC (.bl false))) (dNx)))) (dNx))
  (dIf (dBool (dOp opNe (dFn opRepr (aCons (dVar 4) aNil)) (dVar 5))) (dRet (dC (.bl false))) (dNx))))))))))
  (dRet (dC (.bl true))))
def n_law : List W → M W := dfn 14 1 d_law
/-- what the text gives -/
structure Txt (G : Top) : Prop where
  b_all : G.mg "all" = none
  b_any : G.mg "any" = none
  b_bool : G.mg "bool" = none
  b_enumerate : G.mg "enumerate" = none
  b_int : G.mg "int" = none
  b_isinstance : G.mg "isinstance" = none
  b_len : G.mg "len" = none
  b_list : G.mg "list" = none
  b_max : G.mg "max" = none
  b_min : G.mg "min" = none
  b_range : G.mg "range" = none
  b_repr : G.mg "repr" = none
  b_sorted : G.mg "sorted" = none
  b_str : G.mg "str" = none
  b_tuple : G.mg "tuple" = none
  b_zip : G.mg "zip" = none
  c_CLOSED_STATE : ∃ t, G.mg "CLOSED_STATE" = some (.str "closed" t)
  c_FREE_STATE : ∃ t, G.mg "FREE_STATE" = some (.str "free" t)
  c_MOST_SIGNS : ∃ t, G.mg "MOST_SIGNS" = some (.int (8) t)
  c_OPEN_STATE : ∃ t, G.mg "OPEN_STATE" = some (.str "open" t)
  c_PLUS : ∃ t, G.mg "PLUS" = some (.str "+" t)
  x_InvalidDay : ExcC G "InvalidDay" 1
  x_InvalidLog : ExcC G "InvalidLog" 4
  x_InvalidOffice : ExcC G "InvalidOffice" 2
  x_InvalidRule : ExcC G "InvalidRule" 3
  f_is_integer : MdefD G "is_integer" (top 8) [.none, .none]
  f_is_day : Mdef G "is_day" (top 9)
  f_require_day : Mdef G "require_day" (top 10)
  f_is_office : Mdef G "is_office" (top 14)
  f_is_letter : Mdef G "is_letter" (top 15)
  f_is_rule : Mdef G "is_rule" (top 16)
  f_require_office : Mdef G "require_office" (top 17)
  f_require_rule : Mdef G "require_rule" (top 18)
  f_is_entry : Mdef G "is_entry" (top 23)
  f_require_log : Mdef G "require_log" (top 24)
  f_closes : Mdef G "closes" (top 25)
  f_do_clash : Mdef G "do_clash" (top 26)
  f_clash_in : Mdef G "clash_in" (top 27)
  f_require_no_clash : Mdef G "require_no_clash" (top 28)
  f_find_clash : Mdef G "find_clash" (top 29)
  f_known_state : Mdef G "known_state" (top 30)
  f_first_of : Mdef G "first_of" (top 31)
  f_last_of : Mdef G "last_of" (top 32)
  f_day_range : Mdef G "day_range" (top 33)
  f_law_deck : Mdef G "_law_deck" (top 35)
  f_law_draw : Mdef G "_law_draw" (top 36)
  f_law_same : Mdef G "_law_same" (top 37)
  f_law_letters : Mdef G "_law_letters" (top 38)
  f_law_closes : Mdef G "_law_closes" (top 39)
  f_law_first_clash : Mdef G "_law_first_clash" (top 40)
  f_law_long : Mdef G "_law_long" (top 41)
  f_law_state : Mdef G "_law_state" (top 42)
  f_law_least : Mdef G "_law_least" (top 43)
  f_law_greatest : Mdef G "_law_greatest" (top 44)
  f_law : Mdef G "law" (top 45)
section
variable {G : Top}
theorem sc_is_integer : FnScope ["value", "low", "high"] ["value", "low", "high"] (defScope (top 8)) := ⟨rfl, rfl, rfl, by decide +kernel, rfl, by decide +kernel, by decide +kernel⟩
theorem bd_is_integer (T : Txt G) : SsOk G ⟨["value", "low", "high"], defScope (top 8), fun _ => true⟩ 0 (defBody (top 8)) d_is_integer :=
  ss_cons (s_if (bw_pt (bw_or (b_not (b_val (e_isi "int" (e_var 0) T.b_isinstance T.b_int))) (bw_or1 (b_val (e_isi "bool" (e_var 0) T.b_isinstance T.b_bool))))) (ss_one (s_ret (e_bl))) (ss_nil))
  (ss_one (s_ret (e_and (e_or (e_cmp r_isN o_isN (e_var 1) (e_non)) (e_one (e_cmp r_le o_le (e_var 1) (e_var 0)))) (e_one (e_or (e_cmp r_isN o_isN (e_var 2) (e_non)) (e_one (e_cmp r_le o_le (e_var 0) (e_var 2))))))))
theorem ok_is_integer_1_ (T : Txt G) : DefK G 1 "is_integer" ["value", "low", "high"] n_is_integer [] 1 [.non, .non] [0, 1, 2] := defD_mk (dV := [.non, .non]) T.f_is_integer sc_is_integer rfl (bd_is_integer T) (fun _ _ => VRs.cons .non (VRs.cons .non (VRs.nil))) (Paired.cons rfl (Paired.cons rfl (Paired.nil))) (fun _ _ _ _ _ _ _ us ws zs h1 h2 h3 => match us, ws, h1, h2, h3 with | [_], [], _, _, h3 => by cases h3; exact ⟨_, rfl, rfl⟩)
theorem sc_is_day : FnScope ["value"] ["value"] (defScope (top 9)) := ⟨rfl, rfl, rfl, by decide +kernel, rfl, by decide +kernel, by decide +kernel⟩
theorem bd_is_day (T : Txt G) : SsOk G ⟨["value"], defScope (top 9), fun _ => true⟩ 1 (defBody (top 9)) d_is_day :=
  ss_one (s_ret (e_callK (ok_is_integer_1_ T) (by decide) (a_cons (e_var 0) (a_nil)) (k_nil)))
theorem ok_is_day (T : Txt G) : Def G 2 "is_day" ["value"] n_is_day := def_mk T.f_is_day sc_is_day rfl (bd_is_day T) (fun _ _ _ _ _ _ us hl => match us, hl with | [_], _ => rfl)
theorem sc_require_day : FnScope ["value"] ["value"] (defScope (top 10)) := ⟨rfl, rfl, rfl, by decide +kernel, rfl, by decide +kernel, by decide +kernel⟩
theorem bd_require_day (T : Txt G) : SsOk G ⟨["value"], defScope (top 10), fun _ => true⟩ 2 (defBody (top 10)) d_require_day :=
  ss_one (s_if (b_not (b_val (e_call (ok_is_day T) (by decide) (a_cons (e_var 0) (a_nil))))) (ss_one (s_raise T.x_InvalidDay)) (ss_nil))
theorem ok_require_day (T : Txt G) : Def G 3 "require_day" ["value"] n_require_day := def_mk T.f_require_day sc_require_day rfl (bd_require_day T) (fun _ _ _ _ _ _ us hl => match us, hl with | [_], _ => rfl)
theorem sc_is_office : FnScope ["value", "sign"] ["value"] (defScope (top 14)) := ⟨rfl, rfl, rfl, by decide +kernel, rfl, by decide +kernel, by decide +kernel⟩
theorem bd_is_office (T : Txt G) : SsOk G ⟨["value", "sign"], defScope (top 14), fun _ => true⟩ 0 (defBody (top 14)) d_is_office :=
  ss_cons (s_if (bw_pt (bw_or (b_not (b_val (e_isi "str" (e_var 0) T.b_isinstance T.b_str))) (bw_or1 (b_not (b_chain r_le r_le o_le o_le (e_int) (e_len (e_var 0) T.b_len) (e_globI T.c_MOST_SIGNS)))))) (ss_one (s_ret (e_bl))) (ss_nil))
  (ss_one (s_ret (e_all (e_lc [("sign", 1)] (i_seq (e_var 0)) (gw_name 1) (cs_nil) (e_chain r_le r_le o_le o_le (e_str) (e_var 1) (e_str))) T.b_all)))
theorem ok_is_office (T : Txt G) : Def G 1 "is_office" ["value"] n_is_office := def_mk T.f_is_office sc_is_office rfl (bd_is_office T) (fun _ _ _ _ _ _ us hl => match us, hl with | [_], _ => rfl)
theorem sc_is_letter : FnScope ["value"] ["value"] (defScope (top 15)) := ⟨rfl, rfl, rfl, by decide +kernel, rfl, by decide +kernel, by decide +kernel⟩
theorem bd_is_letter (T : Txt G) : SsOk G ⟨["value"], defScope (top 15), fun _ => true⟩ 1 (defBody (top 15)) d_is_letter :=
  ss_one (s_ret (e_or (e_call (ok_is_office T) (by decide) (a_cons (e_var 0) (a_nil))) (e_one (e_and (e_isi "str" (e_var 0) T.b_isinstance T.b_str) (e_one (e_cmp r_eq o_eq (e_var 0) (e_globS T.c_PLUS)))))))
theorem ok_is_letter (T : Txt G) : Def G 2 "is_letter" ["value"] n_is_letter := def_mk T.f_is_letter sc_is_letter rfl (bd_is_letter T) (fun _ _ _ _ _ _ us hl => match us, hl with | [_], _ => rfl)
theorem sc_is_rule : FnScope ["value", "letter"] ["value"] (defScope (top 16)) := ⟨rfl, rfl, rfl, by decide +kernel, rfl, by decide +kernel, by decide +kernel⟩
theorem bd_is_rule (T : Txt G) : SsOk G ⟨["value", "letter"], defScope (top 16), fun _ => true⟩ 2 (defBody (top 16)) d_is_rule :=
  ss_one (s_ret (e_and (e_isi "list" (e_var 0) T.b_isinstance T.b_list) (e_one (e_all (e_lc [("letter", 1)] (i_seq (e_var 0)) (gw_name 1) (cs_nil) (e_call (ok_is_letter T) (by decide) (a_cons (e_var 1) (a_nil)))) T.b_all))))
theorem ok_is_rule (T : Txt G) : Def G 3 "is_rule" ["value"] n_is_rule := def_mk T.f_is_rule sc_is_rule rfl (bd_is_rule T) (fun _ _ _ _ _ _ us hl => match us, hl with | [_], _ => rfl)
theorem sc_require_office : FnScope ["value"] ["value"] (defScope (top 17)) := ⟨rfl, rfl, rfl, by decide +kernel, rfl, by decide +kernel, by decide +kernel⟩
theorem bd_require_office (T : Txt G) : SsOk G ⟨["value"], defScope (top 17), fun _ => true⟩ 1 (defBody (top 17)) d_require_office :=
  ss_one (s_if (b_not (b_val (e_call (ok_is_office T) (by decide) (a_cons (e_var 0) (a_nil))))) (ss_one (s_raise T.x_InvalidOffice)) (ss_nil))
theorem ok_require_office (T : Txt G) : Def G 2 "require_office" ["value"] n_require_office := def_mk T.f_require_office sc_require_office rfl (bd_require_office T) (fun _ _ _ _ _ _ us hl => match us, hl with | [_], _ => rfl)
theorem sc_require_rule : FnScope ["value"] ["value"] (defScope (top 18)) := ⟨rfl, rfl, rfl, by decide +kernel, rfl, by decide +kernel, by decide +kernel⟩
theorem bd_require_rule (T : Txt G) : SsOk G ⟨["value"], defScope (top 18), fun _ => true⟩ 3 (defBody (top 18)) d_require_rule :=
  ss_one (s_if (b_not (b_val (e_call (ok_is_rule T) (by decide) (a_cons (e_var 0) (a_nil))))) (ss_one (s_raise T.x_InvalidRule)) (ss_nil))
theorem ok_require_rule (T : Txt G) : Def G 4 "require_rule" ["value"] n_require_rule := def_mk T.f_require_rule sc_require_rule rfl (bd_require_rule T) (fun _ _ _ _ _ _ us hl => match us, hl with | [_], _ => rfl)
theorem sc_is_entry : FnScope ["value"] ["value"] (defScope (top 23)) := ⟨rfl, rfl, rfl, by decide +kernel, rfl, by decide +kernel, by decide +kernel⟩
theorem bd_is_entry (T : Txt G) : SsOk G ⟨["value"], defScope (top 23), fun _ => true⟩ 2 (defBody (top 23)) d_is_entry :=
  ss_cons (s_if (bw_pt (bw_or (b_not (b_val (e_isi "tuple" (e_var 0) T.b_isinstance T.b_tuple))) (bw_or (b_cmp r_ne o_ne (e_len (e_var 0) T.b_len) (e_int)) (bw_or1 (b_not (b_val (e_call (ok_is_office T) (by decide) (a_cons (e_ix (e_var 0) (e_int)) (a_nil))))))))) (ss_one (s_ret (e_bl))) (ss_nil))
  (ss_one (s_ret (e_and (e_call (ok_is_day T) (by decide) (a_cons (e_ix (e_var 0) (e_int)) (a_nil))) (e_and (e_call (ok_is_day T) (by decide) (a_cons (e_ix (e_var 0) (e_int)) (a_nil))) (e_one (e_cmp r_le o_le (e_ix (e_var 0) (e_int)) (e_ix (e_var 0) (e_int))))))))
theorem ok_is_entry (T : Txt G) : Def G 3 "is_entry" ["value"] n_is_entry := def_mk T.f_is_entry sc_is_entry rfl (bd_is_entry T) (fun _ _ _ _ _ _ us hl => match us, hl with | [_], _ => rfl)
theorem sc_require_log : FnScope ["log", "entry"] ["log"] (defScope (top 24)) := ⟨rfl, rfl, rfl, by decide +kernel, rfl, by decide +kernel, by decide +kernel⟩
theorem bd_require_log (T : Txt G) : SsOk G ⟨["log", "entry"], defScope (top 24), fun _ => true⟩ 3 (defBody (top 24)) d_require_log :=
  ss_one (s_if (bw_pt (bw_or (b_not (b_val (e_isi "list" (e_var 0) T.b_isinstance T.b_list))) (bw_or1 (b_not (b_val (e_all (e_lc [("entry", 1)] (i_seq (e_var 0)) (gw_name 1) (cs_nil) (e_call (ok_is_entry T) (by decide) (a_cons (e_var 1) (a_nil)))) T.b_all)))))) (ss_one (s_raise T.x_InvalidLog)) (ss_nil))
theorem ok_require_log (T : Txt G) : Def G 4 "require_log" ["log"] n_require_log := def_mk T.f_require_log sc_require_log rfl (bd_require_log T) (fun _ _ _ _ _ _ us hl => match us, hl with | [_], _ => rfl)
theorem sc_closes : FnScope ["entry", "day"] ["entry", "day"] (defScope (top 25)) := ⟨rfl, rfl, rfl, by decide +kernel, rfl, by decide +kernel, by decide +kernel⟩
theorem bd_closes (T : Txt G) : SsOk G ⟨["entry", "day"], defScope (top 25), fun _ => true⟩ 0 (defBody (top 25)) d_closes :=
  ss_one (s_ret (e_chain r_le r_lt o_le o_lt (e_ix (e_var 0) (e_int)) (e_var 1) (e_ix (e_var 0) (e_int))))
theorem ok_closes (T : Txt G) : Def G 1 "closes" ["entry", "day"] n_closes := def_mk T.f_closes sc_closes rfl (bd_closes T) (fun _ _ _ _ _ _ us hl => match us, hl with | [_, _], _ => rfl)
theorem sc_do_clash : FnScope ["one", "other"] ["one", "other"] (defScope (top 26)) := ⟨rfl, rfl, rfl, by decide +kernel, rfl, by decide +kernel, by decide +kernel⟩
theorem bd_do_clash (T : Txt G) : SsOk G ⟨["one", "other"], defScope (top 26), fun _ => true⟩ 1 (defBody (top 26)) d_do_clash :=
  ss_one (s_ret (e_and (e_cmp r_eq o_eq (e_ix (e_var 0) (e_int)) (e_ix (e_var 1) (e_int))) (e_one (e_or (e_call (ok_closes T) (by decide) (a_cons (e_var 0) (a_cons (e_ix (e_var 1) (e_int)) (a_nil)))) (e_one (e_call (ok_closes T) (by decide) (a_cons (e_var 1) (a_cons (e_ix (e_var 0) (e_int)) (a_nil)))))))))
theorem ok_do_clash (T : Txt G) : Def G 2 "do_clash" ["one", "other"] n_do_clash := def_mk T.f_do_clash sc_do_clash rfl (bd_do_clash T) (fun _ _ _ _ _ _ us hl => match us, hl with | [_, _], _ => rfl)
theorem sc_clash_in : FnScope ["log", "second", "entry", "first", "earlier"] ["log"] (defScope (top 27)) := ⟨rfl, rfl, rfl, by decide +kernel, rfl, by decide +kernel, by decide +kernel⟩
theorem bd_clash_in (T : Txt G) : SsOk G ⟨["log", "second", "entry", "first", "earlier"], defScope (top 27), fun _ => true⟩ 2 (defBody (top 27)) d_clash_in :=
  ss_cons (s_for (i_enum (e_var 0) T.b_enumerate) (g_tup (gs_cons (g_name 1) (gs_cons (g_name 2) (gs_nil)))) (ss_one (s_for (i_enum (e_sl (e_var 0) (o_none) (o_some (e_var 1))) T.b_enumerate) (g_tup (gs_cons (g_name 3) (gs_cons (g_name 4) (gs_nil)))) (ss_one (s_if (b_val (e_call (ok_do_clash T) (by decide) (a_cons (e_var 4) (a_cons (e_var 2) (a_nil))))) (ss_one (s_ret (e_tup (a_cons (e_var 3) (a_cons (e_var 1) (a_nil)))))) (ss_nil))))))
  (ss_one (s_ret (e_non)))
theorem ok_clash_in (T : Txt G) : Def G 3 "clash_in" ["log"] n_clash_in := def_mk T.f_clash_in sc_clash_in rfl (bd_clash_in T) (fun _ _ _ _ _ _ us hl => match us, hl with | [_], _ => rfl)
theorem sc_require_no_clash : FnScope ["log", "found", "first", "second"] ["log"] (defScope (top 28)) := ⟨rfl, rfl, rfl, by decide +kernel, rfl, by decide +kernel, by decide +kernel⟩
theorem bd_require_no_clash (T : Txt G) : SsOk G ⟨["log", "found", "first", "second"], defScope (top 28), fun _ => true⟩ 4 (defBody (top 28)) d_require_no_clash :=
  ss_cons (s_expr (e_call (ok_require_log T) (by decide) (a_cons (e_var 0) (a_nil))))
  (ss_cons (s_set 1 (e_call (ok_clash_in T) (by decide) (a_cons (e_var 0) (a_nil))))
  (ss_one (s_if (b_cmp r_notN o_notN (e_var 1) (e_non)) (ss_cons (s_asg (e_var 1) (g_tup (gs_cons (g_name 2) (gs_cons (g_name 3) (gs_nil)))))
  (ss_one (s_bad))) (ss_nil))))
theorem ok_require_no_clash (T : Txt G) : Def G 5 "require_no_clash" ["log"] n_require_no_clash := def_mk T.f_require_no_clash sc_require_no_clash rfl (bd_require_no_clash T) (fun _ _ _ _ _ _ us hl => match us, hl with | [_], _ => rfl)
theorem sc_find_clash : FnScope ["log"] ["log"] (defScope (top 29)) := ⟨rfl, rfl, rfl, by decide +kernel, rfl, by decide +kernel, by decide +kernel⟩
theorem bd_find_clash (T : Txt G) : SsOk G ⟨["log"], defScope (top 29), fun _ => true⟩ 4 (defBody (top 29)) d_find_clash :=
  ss_cons (s_expr (e_call (ok_require_log T) (by decide) (a_cons (e_var 0) (a_nil))))
  (ss_one (s_ret (e_call (ok_clash_in T) (by decide) (a_cons (e_var 0) (a_nil)))))
theorem ok_find_clash (T : Txt G) : Def G 5 "find_clash" ["log"] n_find_clash := def_mk T.f_find_clash sc_find_clash rfl (bd_find_clash T) (fun _ _ _ _ _ _ us hl => match us, hl with | [_], _ => rfl)
theorem sc_known_state : FnScope ["log", "office", "day", "entries", "entry"] ["log", "office", "day"] (defScope (top 30)) := ⟨rfl, rfl, rfl, by decide +kernel, rfl, by decide +kernel, by decide +kernel⟩
theorem bd_known_state (T : Txt G) : SsOk G ⟨["log", "office", "day", "entries", "entry"], defScope (top 30), fun _ => true⟩ 5 (defBody (top 30)) d_known_state :=
  ss_cons (s_expr (e_call (ok_require_no_clash T) (by decide) (a_cons (e_var 0) (a_nil))))
  (ss_cons (s_expr (e_call (ok_require_office T) (by decide) (a_cons (e_var 1) (a_nil))))
  (ss_cons (s_expr (e_call (ok_require_day T) (by decide) (a_cons (e_var 2) (a_nil))))
  (ss_cons (s_lc 3 [("entry", 4)] (i_seq (e_var 0)) (gw_name 4) (cs_one (b_cmp r_eq o_eq (e_ix (e_var 4) (e_int)) (e_var 1))) (e_var 4))
  (ss_cons (s_if (b_val (e_any (e_lc [("entry", 4)] (i_seq (e_var 3)) (gw_name 4) (cs_nil) (e_cmp r_eq o_eq (e_ix (e_var 4) (e_int)) (e_var 2))) T.b_any)) (ss_one (s_ret (e_globS T.c_OPEN_STATE))) (ss_nil))
  (ss_one (s_ret (e_if (b_val (e_any (e_lc [("entry", 4)] (i_seq (e_var 3)) (gw_name 4) (cs_nil) (e_call (ok_closes T) (by decide) (a_cons (e_var 4) (a_cons (e_var 2) (a_nil))))) T.b_any)) (e_globS T.c_CLOSED_STATE) (e_globS T.c_FREE_STATE))))))))
theorem ok_known_state (T : Txt G) : Def G 6 "known_state" ["log", "office", "day"] n_known_state := def_mk T.f_known_state sc_known_state rfl (bd_known_state T) (fun _ _ _ _ _ _ us hl => match us, hl with | [_, _, _], _ => rfl)
theorem sc_first_of : FnScope ["log", "office", "day", "entry"] ["log", "office", "day"] (defScope (top 31)) := ⟨rfl, rfl, rfl, by decide +kernel, rfl, by decide +kernel, by decide +kernel⟩
theorem bd_first_of (T : Txt G) : SsOk G ⟨["log", "office", "day", "entry"], defScope (top 31), fun _ => true⟩ 1 (defBody (top 31)) d_first_of :=
  ss_one (s_ret (e_maxL (e_add (e_lst (a_cons (e_var 2) (a_nil))) (e_lc [("entry", 3)] (i_seq (e_var 0)) (gw_name 3) (cs_one (bw_pt (bw_and (b_cmp r_eq o_eq (e_ix (e_var 3) (e_int)) (e_var 1)) (bw_and1 (b_val (e_call (ok_closes T) (by decide) (a_cons (e_var 3) (a_cons (e_var 2) (a_nil))))))))) (e_ix (e_var 3) (e_int)))) T.b_max))
theorem ok_first_of (T : Txt G) : Def G 2 "first_of" ["log", "office", "day"] n_first_of := def_mk T.f_first_of sc_first_of rfl (bd_first_of T) (fun _ _ _ _ _ _ us hl => match us, hl with | [_, _, _], _ => rfl)
theorem sc_last_of : FnScope ["log", "office", "day", "known", "entry"] ["log", "office", "day"] (defScope (top 32)) := ⟨rfl, rfl, rfl, by decide +kernel, rfl, by decide +kernel, by decide +kernel⟩
theorem bd_last_of (T : Txt G) : SsOk G ⟨["log", "office", "day", "known", "entry"], defScope (top 32), fun _ => true⟩ 0 (defBody (top 32)) d_last_of :=
  ss_cons (s_lc 3 [("entry", 4)] (i_seq (e_var 0)) (gw_name 4) (cs_one (bw_pt (bw_and (b_cmp r_eq o_eq (e_ix (e_var 4) (e_int)) (e_var 1)) (bw_and1 (b_cmp r_ge o_ge (e_ix (e_var 4) (e_int)) (e_var 2)))))) (e_ix (e_var 4) (e_int)))
  (ss_one (s_ret (e_if (b_cmp r_ne o_ne (e_var 3) (e_lst (a_nil))) (e_minL (e_var 3) T.b_min) (e_non))))
theorem ok_last_of (T : Txt G) : Def G 1 "last_of" ["log", "office", "day"] n_last_of := def_mk T.f_last_of sc_last_of rfl (bd_last_of T) (fun _ _ _ _ _ _ us hl => match us, hl with | [_, _, _], _ => rfl)
theorem sc_day_range : FnScope ["log", "rule", "day", "least", "greatest", "letter"] ["log", "rule", "day"] (defScope (top 33)) := ⟨rfl, rfl, rfl, by decide +kernel, rfl, by decide +kernel, by decide +kernel⟩
theorem bd_day_range (T : Txt G) : SsOk G ⟨["log", "rule", "day", "least", "greatest", "letter"], defScope (top 33), fun _ => true⟩ 5 (defBody (top 33)) d_day_range :=
  ss_cons (s_expr (e_call (ok_require_no_clash T) (by decide) (a_cons (e_var 0) (a_nil))))
  (ss_cons (s_expr (e_call (ok_require_rule T) (by decide) (a_cons (e_var 1) (a_nil))))
  (ss_cons (s_expr (e_call (ok_require_day T) (by decide) (a_cons (e_var 2) (a_nil))))
  (ss_cons (s_set2 3 4 (e_var 2) (g_name 3) (g_name 4))
  (ss_cons (s_for (i_seq (e_var 1)) (g_name 5) (ss_cons (s_set 3 (e_if (b_cmp r_eq o_eq (e_var 5) (e_globS T.c_PLUS)) (e_add (e_var 3) (e_int)) (e_call (ok_first_of T) (by decide) (a_cons (e_var 0) (a_cons (e_var 5) (a_cons (e_var 3) (a_nil)))))))
  (ss_one (s_if (b_cmp r_notN o_notN (e_var 4) (e_non)) (ss_one (s_set 4 (e_if (b_cmp r_eq o_eq (e_var 5) (e_globS T.c_PLUS)) (e_add (e_var 4) (e_int)) (e_call (ok_last_of T) (by decide) (a_cons (e_var 0) (a_cons (e_var 5) (a_cons (e_var 4) (a_nil)))))))) (ss_nil)))))
  (ss_one (s_ret (e_tup (a_cons (e_var 3) (a_cons (e_var 4) (a_nil))))))))))
theorem ok_day_range (T : Txt G) : Def G 6 "day_range" ["log", "rule", "day"] n_day_range := def_mk T.f_day_range sc_day_range rfl (bd_day_range T) (fun _ _ _ _ _ _ us hl => match us, hl with | [_, _, _], _ => rfl)
theorem sc_law_deck : FnScope ["script", "pools", "k", "cell"] ["script"] (defScope (top 35)) := ⟨rfl, rfl, rfl, by decide +kernel, rfl, by decide +kernel, by decide +kernel⟩
theorem bd_law_deck (T : Txt G) : SsOk G ⟨["script", "pools", "k", "cell"], defScope (top 35), fun _ => true⟩ 0 (defBody (top 35)) d_law_deck :=
  ss_cons (s_set 1 (e_lst (a_nil)))
  (ss_cons (s_for (i_rng1 (e_max2 (e_int) (e_min2 (e_int) (e_len (e_var 0) T.b_len) T.b_min) T.b_max) T.b_range) (g_name 2) (ss_cons (s_set 3 (e_int))
  (ss_cons (s_if (b_cmp r_lt o_lt (e_var 2) (e_len (e_var 0) T.b_len)) (ss_one (s_set 3 (e_ix (e_var 0) (e_var 2)))) (ss_nil))
  (ss_one (s_expr (e_append (e_var 1) (e_lst (a_cons (e_var 3) (a_cons (e_intC (e_cmp r_ge o_ge (e_var 3) (e_pow (e_int) (e_int))) T.b_int) (a_cons (e_mul (e_int) (e_var 2)) (a_nil)))))))))))
  (ss_one (s_ret (e_lst (a_cons (e_var 1) (a_cons (e_int) (a_nil)))))))
theorem ok_law_deck (T : Txt G) : Def G 1 "_law_deck" ["script"] n_law_deck := def_mk T.f_law_deck sc_law_deck rfl (bd_law_deck T) (fun _ _ _ _ _ _ us hl => match us, hl with | [_], _ => rfl)
theorem sc_law_draw : FnScope ["deck", "many", "pool", "mixed", "found"] ["deck", "many"] (defScope (top 36)) := ⟨rfl, rfl, rfl, by decide +kernel, rfl, by decide +kernel, by decide +kernel⟩
theorem bd_law_draw (T : Txt G) : SsOk G ⟨["deck", "many", "pool", "mixed", "found"], defScope (top 36), fun _ => true⟩ 0 (defBody (top 36)) d_law_draw :=
  ss_cons (s_set 2 (e_ix (e_ix (e_var 0) (e_int)) (e_mod (e_ix (e_var 0) (e_int)) (e_len (e_ix (e_var 0) (e_int)) T.b_len))))
  (ss_cons (s_put (e_add (e_ix (e_var 0) (e_int)) (e_int)) (e_var 0) (e_int))
  (ss_cons (s_if (bw_pt (bw_and (b_cmp r_eq o_eq (e_ix (e_var 2) (e_int)) (e_int)) (bw_and1 (b_cmp r_gt o_gt (e_ix (e_var 2) (e_int)) (e_int))))) (ss_cons (s_set 4 (e_mod (e_ix (e_var 2) (e_int)) (e_var 1)))
  (ss_cons (s_put (e_fdiv (e_ix (e_var 2) (e_int)) (e_var 1)) (e_var 2) (e_int))
  (ss_one (s_ret (e_var 4))))) (ss_nil))
  (ss_cons (s_put (e_add (e_ix (e_var 2) (e_int)) (e_int)) (e_var 2) (e_int))
  (ss_cons (s_set 3 (e_add (e_mod (e_ix (e_var 2) (e_int)) (e_int)) (e_mul (e_int) (e_ix (e_var 2) (e_int)))))
  (ss_cons (s_set 3 (e_mod (e_pow (e_var 3) (e_int)) (e_int)))
  (ss_cons (s_set 3 (e_mod (e_pow (e_add (e_var 3) (e_mul (e_int) (e_ix (e_var 2) (e_int)))) (e_int)) (e_int)))
  (ss_one (s_ret (e_mod (e_fdiv (e_var 3) (e_int)) (e_var 1))))))))))
theorem ok_law_draw (T : Txt G) : Def G 1 "_law_draw" ["deck", "many"] n_law_draw := def_mk T.f_law_draw sc_law_draw rfl (bd_law_draw T) (fun _ _ _ _ _ _ us hl => match us, hl with | [_, _], _ => rfl)
theorem sc_law_same : FnScope ["found", "due", "one", "two"] ["found", "due"] (defScope (top 37)) := ⟨rfl, rfl, rfl, by decide +kernel, rfl, by decide +kernel, by decide +kernel⟩
theorem bd_law_same (T : Txt G) {k : Nat} {r : List W → M W} (hk : 0 ≤ k) (ih : Def G k "_law_same" ["found", "due"] r) : SsOk G ⟨["found", "due", "one", "two"], defScope (top 37), fun _ => true⟩ k (defBody (top 37)) (d_law_same r) :=
  ss_cons (s_if (b_val (e_isi2 "list" "tuple" (e_var 1) T.b_isinstance T.b_list T.b_tuple)) (ss_cons (s_if (bw_pt (bw_or (b_cmp r_ne o_ne (e_isi "list" (e_var 0) T.b_isinstance T.b_list) (e_isi "list" (e_var 1) T.b_isinstance T.b_list)) (bw_or1 (b_cmp r_ne o_ne (e_isi "tuple" (e_var 0) T.b_isinstance T.b_tuple) (e_isi "tuple" (e_var 1) T.b_isinstance T.b_tuple))))) (ss_one (s_ret (e_bl))) (ss_nil))
  (ss_cons (s_if (b_cmp r_ne o_ne (e_len (e_var 0) T.b_len) (e_len (e_var 1) T.b_len)) (ss_one (s_ret (e_bl))) (ss_nil))
  (ss_one (s_ret (e_cmp r_eq o_eq (e_lc [("one", 2), ("two", 3)] (i_zip (e_var 0) (e_var 1) T.b_zip) (gw_tup (gsw_cons (gw_name 2) (gsw_cons (gw_name 3) (gsw_nil)))) (cs_one (b_not (b_val (e_call ih (Nat.le_refl _) (a_cons (e_var 2) (a_cons (e_var 3) (a_nil))))))) (e_int)) (e_lst (a_nil))))))) (ss_nil))
  (ss_cons (s_if (bw_pt (bw_or (b_cmp r_isN o_isN (e_var 1) (e_non)) (bw_or1 (b_cmp r_isN o_isN (e_var 0) (e_non))))) (ss_one (s_ret (e_and (e_cmp r_isN o_isN (e_var 1) (e_non)) (e_one (e_cmp r_isN o_isN (e_var 0) (e_non)))))) (ss_nil))
  (ss_cons (s_if (bw_pt (bw_or (b_cmp r_ne o_ne (e_isi "bool" (e_var 0) T.b_isinstance T.b_bool) (e_isi "bool" (e_var 1) T.b_isinstance T.b_bool)) (bw_or1 (b_cmp r_ne o_ne (e_isi "str" (e_var 0) T.b_isinstance T.b_str) (e_isi "str" (e_var 1) T.b_isinstance T.b_str))))) (ss_one (s_ret (e_bl))) (ss_nil))
  (ss_one (s_ret (e_cmp r_eq o_eq (e_var 0) (e_var 1))))))
theorem okr_law_same (T : Txt G) : ∀ j, Def G (0 + j) "_law_same" ["found", "due"] (n_law_same j)
  | 0 => def_bad T.f_law_same (fun _ _ _ _ _ _ us hl => match us, hl with | [_, _], _ => rfl)
  | j + 1 => def_mk T.f_law_same sc_law_same rfl (bd_law_same T (by omega) (okr_law_same T j)) (fun _ _ _ _ _ _ us hl => match us, hl with | [_, _], _ => rfl)
theorem ok_law_same (T : Txt G) : Def G 8 "_law_same" ["found", "due"] (n_law_same 8) := okr_law_same T 8
theorem sc_law_letters : FnScope ["deck", "names", "most", "menu", "turn"] ["deck", "names", "most"] (defScope (top 38)) := ⟨rfl, rfl, rfl, by decide +kernel, rfl, by decide +kernel, by decide +kernel⟩
theorem bd_law_letters (T : Txt G) : SsOk G ⟨["deck", "names", "most", "menu", "turn"], defScope (top 38), fun _ => true⟩ 1 (defBody (top 38)) d_law_letters :=
  ss_cons (s_set 3 (e_add (e_var 1) (e_lst (a_cons (e_str) (a_cons (e_str) (a_nil))))))
  (ss_one (s_ret (e_lc [("turn", 4)] (i_rng1 (e_call (ok_law_draw T) (by decide) (a_cons (e_var 0) (a_cons (e_add (e_var 2) (e_int)) (a_nil)))) T.b_range) (gw_name 4) (cs_nil) (e_ix (e_var 3) (e_call (ok_law_draw T) (by decide) (a_cons (e_var 0) (a_cons (e_len (e_var 3) T.b_len) (a_nil))))))))
theorem ok_law_letters (T : Txt G) : Def G 2 "_law_letters" ["deck", "names", "most"] n_law_letters := def_mk T.f_law_letters sc_law_letters rfl (bd_law_letters T) (fun _ _ _ _ _ _ us hl => match us, hl with | [_, _, _], _ => rfl)
theorem sc_law_closes : FnScope ["entry", "when"] ["entry", "when"] (defScope (top 39)) := ⟨rfl, rfl, rfl, by decide +kernel, rfl, by decide +kernel, by decide +kernel⟩
theorem bd_law_closes (T : Txt G) : SsOk G ⟨["entry", "when"], defScope (top 39), fun _ => true⟩ 0 (defBody (top 39)) d_law_closes :=
  ss_one (s_ret (e_chain r_le r_lt o_le o_lt (e_ix (e_var 0) (e_int)) (e_var 1) (e_ix (e_var 0) (e_int))))
theorem ok_law_closes (T : Txt G) : Def G 1 "_law_closes" ["entry", "when"] n_law_closes := def_mk T.f_law_closes sc_law_closes rfl (bd_law_closes T) (fun _ _ _ _ _ _ us hl => match us, hl with | [_, _], _ => rfl)
theorem sc_law_first_clash : FnScope ["entries", "two", "one"] ["entries"] (defScope (top 40)) := ⟨rfl, rfl, rfl, by decide +kernel, rfl, by decide +kernel, by decide +kernel⟩
theorem bd_law_first_clash (T : Txt G) : SsOk G ⟨["entries", "two", "one"], defScope (top 40), fun _ => true⟩ 1 (defBody (top 40)) d_law_first_clash :=
  ss_cons (s_for (i_rng1 (e_len (e_var 0) T.b_len) T.b_range) (g_name 1) (ss_one (s_for (i_rng1 (e_var 1) T.b_range) (g_name 2) (ss_one (s_if (b_cmp r_eq o_eq (e_ix (e_ix (e_var 0) (e_var 2)) (e_int)) (e_ix (e_ix (e_var 0) (e_var 1)) (e_int))) (ss_one (s_if (bw_pt (bw_or (b_val (e_call (ok_law_closes T) (by decide) (a_cons (e_ix (e_var 0) (e_var 2)) (a_cons (e_ix (e_ix (e_var 0) (e_var 1)) (e_int)) (a_nil))))) (bw_or1 (b_val (e_call (ok_law_closes T) (by decide) (a_cons (e_ix (e_var 0) (e_var 1)) (a_cons (e_ix (e_ix (e_var 0) (e_var 2)) (e_int)) (a_nil)))))))) (ss_one (s_ret (e_tup (a_cons (e_var 2) (a_cons (e_var 1) (a_nil)))))) (ss_nil))) (ss_nil))))))
  (ss_one (s_ret (e_non)))
theorem ok_law_first_clash (T : Txt G) : Def G 2 "_law_first_clash" ["entries"] n_law_first_clash := def_mk T.f_law_first_clash sc_law_first_clash rfl (bd_law_first_clash T) (fun _ _ _ _ _ _ us hl => match us, hl with | [_], _ => rfl)
theorem sc_law_long : FnScope ["deck", "names", "most", "found", "name", "at", "turn", "wide", "there"] ["deck", "names", "most"] (defScope (top 41)) := ⟨rfl, rfl, rfl, by decide +kernel, rfl, by decide +kernel, by decide +kernel⟩
theorem bd_law_long (T : Txt G) : SsOk G ⟨["deck", "names", "most", "found", "name", "at", "turn", "wide", "there"], defScope (top 41), fun _ => true⟩ 1 (defBody (top 41)) d_law_long :=
  ss_cons (s_set 3 (e_lst (a_nil)))
  (ss_cons (s_for (i_seq (e_var 1)) (g_name 4) (ss_cons (s_set 5 (e_ix (e_lst (a_cons (e_int) (a_cons (e_neg (e_pow (e_int) (e_int))) (a_cons (e_call (ok_law_draw T) (by decide) (a_cons (e_var 0) (a_cons (e_pow (e_int) (e_int)) (a_nil)))) (a_nil))))) (e_call (ok_law_draw T) (by decide) (a_cons (e_var 0) (a_cons (e_int) (a_nil))))))
  (ss_one (s_for (i_rng1 (e_ix (e_lst (a_cons (e_call (ok_law_draw T) (by decide) (a_cons (e_var 0) (a_cons (e_int) (a_nil)))) (a_cons (e_fdiv (e_var 2) (e_len (e_var 1) T.b_len)) (a_nil)))) (e_call (ok_law_draw T) (by decide) (a_cons (e_var 0) (a_cons (e_int) (a_nil))))) T.b_range) (g_name 6) (ss_cons (s_set 7 (e_ix (e_lst (a_cons (e_int) (a_cons (e_int) (a_cons (e_pow (e_int) (e_int)) (a_cons (e_pow (e_int) (e_int)) (a_nil)))))) (e_call (ok_law_draw T) (by decide) (a_cons (e_var 0) (a_cons (e_int) (a_nil))))))
  (ss_cons (s_set 8 (e_add (e_var 5) (e_call (ok_law_draw T) (by decide) (a_cons (e_var 0) (a_cons (e_add (e_var 7) (e_int)) (a_nil))))))
  (ss_cons (s_expr (e_append (e_var 3) (e_tup (a_cons (e_var 4) (a_cons (e_add (e_var 5) (e_call (ok_law_draw T) (by decide) (a_cons (e_var 0) (a_cons (e_add (e_sub (e_var 8) (e_var 5)) (e_int)) (a_nil))))) (a_cons (e_var 8) (a_nil)))))))
  (ss_cons (s_if (b_cmp r_eq o_eq (e_call (ok_law_draw T) (by decide) (a_cons (e_var 0) (a_cons (e_int) (a_nil)))) (e_int)) (ss_one (s_expr (e_append (e_var 3) (e_tup (a_cons (e_var 4) (a_cons (e_add (e_var 5) (e_call (ok_law_draw T) (by decide) (a_cons (e_var 0) (a_cons (e_add (e_sub (e_var 8) (e_var 5)) (e_int)) (a_nil))))) (a_cons (e_var 8) (a_nil)))))))) (ss_nil))
  (ss_one (s_set 5 (e_add (e_add (e_var 8) (e_int)) (e_call (ok_law_draw T) (by decide) (a_cons (e_var 0) (a_cons (e_int) (a_nil)))))))))))))))
  (ss_one (s_ret (e_sl (e_lc [("turn", 6)] (i_rng1 (e_len (e_var 3) T.b_len) T.b_range) (gw_name 6) (cs_nil) (e_pop (e_var 3) (e_call (ok_law_draw T) (by decide) (a_cons (e_var 0) (a_cons (e_len (e_var 3) T.b_len) (a_nil)))))) (o_none) (o_some (e_var 2))))))
theorem ok_law_long (T : Txt G) : Def G 2 "_law_long" ["deck", "names", "most"] n_law_long := def_mk T.f_law_long sc_law_long rfl (bd_law_long T) (fun _ _ _ _ _ _ us hl => match us, hl with | [_, _, _], _ => rfl)
theorem sc_law_state : FnScope ["entries", "name", "when", "own", "entry"] ["entries", "name", "when"] (defScope (top 42)) := ⟨rfl, rfl, rfl, by decide +kernel, rfl, by decide +kernel, by decide +kernel⟩
theorem bd_law_state (T : Txt G) : SsOk G ⟨["entries", "name", "when", "own", "entry"], defScope (top 42), fun _ => true⟩ 1 (defBody (top 42)) d_law_state :=
  ss_cons (s_lc 3 [("entry", 4)] (i_seq (e_var 0)) (gw_name 4) (cs_one (b_cmp r_eq o_eq (e_ix (e_var 4) (e_int)) (e_var 1))) (e_var 4))
  (ss_cons (s_if (b_cmp r_ne o_ne (e_lc [("entry", 4)] (i_seq (e_var 3)) (gw_name 4) (cs_one (b_cmp r_eq o_eq (e_ix (e_var 4) (e_int)) (e_var 2))) (e_int)) (e_lst (a_nil))) (ss_one (s_ret (e_str))) (ss_nil))
  (ss_one (s_ret (e_if (b_cmp r_ne o_ne (e_lc [("entry", 4)] (i_seq (e_var 3)) (gw_name 4) (cs_one (b_val (e_call (ok_law_closes T) (by decide) (a_cons (e_var 4) (a_cons (e_var 2) (a_nil)))))) (e_int)) (e_lst (a_nil))) (e_str) (e_str)))))
theorem ok_law_state (T : Txt G) : Def G 2 "_law_state" ["entries", "name", "when"] n_law_state := def_mk T.f_law_state sc_law_state rfl (bd_law_state T) (fun _ _ _ _ _ _ us hl => match us, hl with | [_, _, _], _ => rfl)
theorem sc_law_least : FnScope ["entries", "letters", "when", "letter", "over", "entry"] ["entries", "letters", "when"] (defScope (top 43)) := ⟨rfl, rfl, rfl, by decide +kernel, rfl, by decide +kernel, by decide +kernel⟩
theorem bd_law_least (T : Txt G) : SsOk G ⟨["entries", "letters", "when", "letter", "over", "entry"], defScope (top 43), fun _ => true⟩ 1 (defBody (top 43)) d_law_least :=
  ss_cons (s_for (i_seq (e_var 1)) (g_name 3) (ss_cons (s_lc 4 [("entry", 5)] (i_seq (e_var 0)) (gw_name 5) (cs_one (bw_pt (bw_and (b_cmp r_eq o_eq (e_ix (e_var 5) (e_int)) (e_var 3)) (bw_and1 (b_val (e_call (ok_law_closes T) (by decide) (a_cons (e_var 5) (a_cons (e_var 2) (a_nil))))))))) (e_ix (e_var 5) (e_int)))
  (ss_one (s_set 2 (e_if (b_cmp r_eq o_eq (e_var 3) (e_str)) (e_add (e_var 2) (e_int)) (e_ix (e_add (e_var 4) (e_lst (a_cons (e_var 2) (a_nil)))) (e_int)))))))
  (ss_one (s_ret (e_var 2)))
theorem ok_law_least (T : Txt G) : Def G 2 "_law_least" ["entries", "letters", "when"] n_law_least := def_mk T.f_law_least sc_law_least rfl (bd_law_least T) (fun _ _ _ _ _ _ us hl => match us, hl with | [_, _, _], _ => rfl)
theorem sc_law_greatest : FnScope ["entries", "letters", "when", "letter", "there", "entry"] ["entries", "letters", "when"] (defScope (top 44)) := ⟨rfl, rfl, rfl, by decide +kernel, rfl, by decide +kernel, by decide +kernel⟩
theorem bd_law_greatest (T : Txt G) : SsOk G ⟨["entries", "letters", "when", "letter", "there", "entry"], defScope (top 44), fun _ => true⟩ 0 (defBody (top 44)) d_law_greatest :=
  ss_cons (s_for (i_seq (e_var 1)) (g_name 3) (ss_one (s_if (b_cmp r_eq o_eq (e_var 3) (e_str)) (ss_one (s_set 2 (e_add (e_var 2) (e_int)))) (ss_cons (s_set 4 (e_sorted (e_lc [("entry", 5)] (i_seq (e_var 0)) (gw_name 5) (cs_one (bw_pt (bw_and (b_cmp r_eq o_eq (e_ix (e_var 5) (e_int)) (e_var 3)) (bw_and1 (b_cmp r_ge o_ge (e_ix (e_var 5) (e_int)) (e_var 2)))))) (e_ix (e_var 5) (e_int))) T.b_sorted))
  (ss_cons (s_if (b_cmp r_eq o_eq (e_var 4) (e_lst (a_nil))) (ss_one (s_ret (e_non))) (ss_nil))
  (ss_one (s_set 2 (e_ix (e_var 4) (e_int)))))))))
  (ss_one (s_ret (e_var 2)))
theorem ok_law_greatest (T : Txt G) : Def G 1 "_law_greatest" ["entries", "letters", "when"] n_law_greatest := def_mk T.f_law_greatest sc_law_greatest rfl (bd_law_greatest T) (fun _ _ _ _ _ _ us hl => match us, hl with | [_, _, _], _ => rfl)
theorem sc_law : FnScope ["script", "deck", "lap", "names", "entries", "kept", "letters", "turn", "some", "due", "other", "more", "name", "when"] ["script"] (defScope (top 45)) := ⟨rfl, rfl, rfl, by decide +kernel, rfl, by decide +kernel, by decide +kernel⟩
theorem bd_law (T : Txt G) : SsOk G ⟨["script", "deck", "lap", "names", "entries", "kept", "letters", "turn", "some", "due", "other", "more", "name", "when"], defScope (top 45), fun _ => true⟩ 8 (defBody (top 45)) d_law :=
  ss_cons (s_set 1 (e_call (ok_law_deck T) (by decide) (a_cons (e_var 0) (a_nil))))
  (ss_cons (s_for (i_rng1 (e_max2 (e_int) (e_min2 (e_int) (e_len (e_var 0) T.b_len) T.b_min) T.b_max) T.b_range) (g_name 2) (ss_cons (s_set 3 (e_sl (e_lst (a_cons (e_str) (a_cons (e_str) (a_cons (e_str) (a_cons (e_str) (a_cons (e_str) (a_cons (e_str) (a_nil)))))))) (o_none) (o_some (e_add (e_int) (e_call (ok_law_draw T) (by decide) (a_cons (e_var 1) (a_cons (e_int) (a_nil))))))))
  (ss_cons (s_set 4 (e_call (ok_law_long T) (by decide) (a_cons (e_var 1) (a_cons (e_var 3) (a_cons (e_if (b_cmp r_eq o_eq (e_var 2) (e_int)) (e_int) (e_int)) (a_nil))))))
  (ss_cons (s_set 5 (e_repr (e_var 4) T.b_repr))
  (ss_cons (s_if (b_cmp r_notN o_notN (e_call (ok_find_clash T) (by decide) (a_cons (e_var 4) (a_nil))) (e_non)) (ss_one (s_ret (e_bl))) (ss_nil))
  (ss_cons (s_set 6 (e_call (ok_law_letters T) (by decide) (a_cons (e_var 1) (a_cons (e_var 3) (a_cons (e_ix (e_lst (a_cons (e_int) (a_cons (e_int) (a_cons (e_int) (a_nil))))) (e_call (ok_law_draw T) (by decide) (a_cons (e_var 1) (a_cons (e_int) (a_nil))))) (a_nil))))))
  (ss_cons (s_for (i_rng1 (e_int) T.b_range) (g_name 7) (ss_cons (s_set 8 (e_ix (e_add (e_var 4) (e_lst (a_cons (e_tup (a_cons (e_str) (a_cons (e_int) (a_cons (e_int) (a_nil))))) (a_nil)))) (e_call (ok_law_draw T) (by decide) (a_cons (e_var 1) (a_cons (e_add (e_len (e_var 4) T.b_len) (e_int)) (a_nil))))))
  (ss_cons (s_par 12 13 (a_cons (e_ix (e_var 3) (e_call (ok_law_draw T) (by decide) (a_cons (e_var 1) (a_cons (e_len (e_var 3) T.b_len) (a_nil))))) (a_cons (e_sub (e_add (e_ix (e_var 8) (e_add (e_int) (e_call (ok_law_draw T) (by decide) (a_cons (e_var 1) (a_cons (e_int) (a_nil)))))) (e_call (ok_law_draw T) (by decide) (a_cons (e_var 1) (a_cons (e_int) (a_nil))))) (e_int)) (a_nil))))
  (ss_cons (s_if (b_cmp r_ne o_ne (e_call (ok_known_state T) (by decide) (a_cons (e_var 4) (a_cons (e_var 12) (a_cons (e_var 13) (a_nil))))) (e_call (ok_law_state T) (by decide) (a_cons (e_var 4) (a_cons (e_var 12) (a_cons (e_var 13) (a_nil)))))) (ss_one (s_ret (e_bl))) (ss_nil))
  (ss_cons (s_if (b_cmp r_ne o_ne (e_call (ok_known_state T) (by decide) (a_cons (e_var 4) (a_cons (e_ix (e_var 8) (e_int)) (a_cons (e_var 13) (a_nil))))) (e_call (ok_law_state T) (by decide) (a_cons (e_var 4) (a_cons (e_ix (e_var 8) (e_int)) (a_cons (e_var 13) (a_nil)))))) (ss_one (s_ret (e_bl))) (ss_nil))
  (ss_cons (s_set 9 (e_tup (a_cons (e_call (ok_law_least T) (by decide) (a_cons (e_var 4) (a_cons (e_var 6) (a_cons (e_var 13) (a_nil))))) (a_cons (e_call (ok_law_greatest T) (by decide) (a_cons (e_var 4) (a_cons (e_var 6) (a_cons (e_var 13) (a_nil))))) (a_nil)))))
  (ss_one (s_if (b_not (b_val (e_call (ok_law_same T) (by decide) (a_cons (e_call (ok_day_range T) (by decide) (a_cons (e_var 4) (a_cons (e_var 6) (a_cons (e_var 13) (a_nil))))) (a_cons (e_var 9) (a_nil)))))) (ss_one (s_ret (e_bl))) (ss_nil)))))))))
  (ss_cons (s_if (b_cmp r_ne o_ne (e_var 4) (e_lst (a_nil))) (ss_cons (s_set 10 (e_ix (e_var 4) (e_call (ok_law_draw T) (by decide) (a_cons (e_var 1) (a_cons (e_len (e_var 4) T.b_len) (a_nil))))))
  (ss_cons (s_set 11 (e_add (e_sl (e_var 4) (o_none) (o_some (e_int))) (e_lst (a_cons (e_tup (a_cons (e_ix (e_var 10) (e_int)) (a_cons (e_sub (e_ix (e_var 10) (e_int)) (e_call (ok_law_draw T) (by decide) (a_cons (e_var 1) (a_cons (e_int) (a_nil))))) (a_cons (e_add (e_ix (e_var 10) (e_int)) (e_call (ok_law_draw T) (by decide) (a_cons (e_var 1) (a_cons (e_int) (a_nil))))) (a_nil))))) (a_nil)))))
  (ss_one (s_if (b_not (b_val (e_call (ok_law_same T) (by decide) (a_cons (e_call (ok_find_clash T) (by decide) (a_cons (e_var 11) (a_nil))) (a_cons (e_call (ok_law_first_clash T) (by decide) (a_cons (e_var 11) (a_nil))) (a_nil)))))) (ss_one (s_ret (e_bl))) (ss_nil))))) (ss_nil))
  (ss_one (s_if (b_cmp r_ne o_ne (e_repr (e_var 4) T.b_repr) (e_var 5)) (ss_one (s_ret (e_bl))) (ss_nil)))))))))))
  (ss_one (s_ret (e_bl))))
end
end
end K52
/-! K52p: the law of k52. -/
namespace K52
open PySem L2 N
structure LongE (nms : List Str) (e : Ent) : Prop where
  nm : e.1 ∈ nms
  le : e.2.1 ≤ e.2.2
  lo : -(10 ^ 30) ≤ e.2.1
  hi : e.2.2 ≤ 10 ^ 31
def NC (es : List Ent) : Prop := ∀ a ∈ es, ∀ b ∈ es, clash a b = false
theorem nc_add {es : List Ent} {e0 : Ent} (h : NC es) (hn : ∀ e ∈ es, e.1 = e0.1 → e.2.2 < e0.2.1 ∨ e.2.2 = e0.2.2) (hl : e0.2.1 ≤ e0.2.2) : NC (es ++ [e0]) := by
  have key : ∀ e ∈ es, clash e e0 = false := fun e he => by
    unfold clash closes
    by_cases hx : e.1 = e0.1
    · have := hn e he hx
      rw [hx]
      simp only [beq_self_eq_true, Bool.true_and, Bool.or_eq_false_iff, Bool.and_eq_false_iff, decide_eq_false_iff_not]
      omega
    · have : (e.1 == e0.1) = false := by simpa using hx
      rw [this]; rfl
  intro a ha b hb
  rcases List.mem_append.mp ha with ha | ha <;> rcases List.mem_append.mp hb with hb | hb
  · exact h a ha b hb
  · rw [List.mem_singleton.mp hb]; exact key a ha
  · rw [List.mem_singleton.mp ha]
    cases z : clash e0 b with
    | false => rfl
    | true => have := key b hb; rw [clash_symm z] at this; cases this
  · rw [List.mem_singleton.mp ha, List.mem_singleton.mp hb]
    unfold clash closes
    simp
theorem nc_found {es : List Ent} (h : NC es) : found es = .non := found_none.mpr fun i j a b ea eb => h a (List.mem_of_getElem? ea) b (List.mem_of_getElem? eb)
section
variable {B n d q : Nat} {S : Store} {E : Ex → Store → Prop} {nms : List Str} {most : Nat}
/-- the list that grows -/
def Gro (B n d f : Nat) (nms : List Str) (T : Store) (k : Nat) (es : List Ent) (S' : Store) : Prop := S'[f]? = some (.lst (es.map eW)) ∧ es.length ≤ k ∧ (∀ e ∈ es, LongE nms e) ∧ NC es ∧ Deck B n d S' ∧ Fr B T S'
theorem pick3 {i : Int} {a b c : Int} (h0 : 0 ≤ i) (h1 : i < 3) : ∃ v : Int, ([W.int a, W.int b, W.int c][i.toNat]?) = some (.int v) ∧ (v = a ∨ v = b ∨ v = c) := by
  rcases (show i.toNat = 0 ∨ i.toNat = 1 ∨ i.toNat = 2 by omega) with z | z | z <;> rw [z]
  · exact ⟨a, rfl, .inl rfl⟩
  · exact ⟨b, rfl, .inr (.inl rfl)⟩
  · exact ⟨c, rfl, .inr (.inr rfl)⟩
theorem pick2 {i : Int} {a b : Int} (h0 : 0 ≤ i) (h1 : i < 2) : ∃ v : Int, ([W.int a, W.int b][i.toNat]?) = some (.int v) ∧ (v = a ∨ v = b) := by
  rcases (show i.toNat = 0 ∨ i.toNat = 1 by omega) with z | z <;> rw [z]
  · exact ⟨a, rfl, .inl rfl⟩
  · exact ⟨b, rfl, .inr rfl⟩
theorem pick4 {i : Int} {a b c e : Int} (h0 : 0 ≤ i) (h1 : i < 4) : ∃ v : Int, ([W.int a, W.int b, W.int c, W.int e][i.toNat]?) = some (.int v) ∧ (v = a ∨ v = b ∨ v = c ∨ v = e) := by
  rcases (show i.toNat = 0 ∨ i.toNat = 1 ∨ i.toNat = 2 ∨ i.toNat = 3 by omega) with z | z | z | z <;> rw [z]
  · exact ⟨a, rfl, .inl rfl⟩
  · exact ⟨b, rfl, .inr (.inl rfl)⟩
  · exact ⟨c, rfl, .inr (.inr (.inl rfl))⟩
  · exact ⟨e, rfl, .inr (.inr (.inr rfl))⟩
theorem law_long_spec (D : Deck B n d S) (hn : n < 2 ^ 90) (g : S[q]? = some (.lst (nms.map W.str))) (hq : B ≤ q) (h0 : nms ≠ []) (hnd : nms.Nodup) (hlen : nms.length ≤ 6) (hm1 : 1 ≤ most) (hm : most ≤ 200) :
    wp (n_law_long [.ref d, .ref q, .int most] S) (fun r S' => ∃ (r0 : Nat) (es : List Ent), r = .ref r0 ∧ B ≤ r0 ∧ S'[r0]? = some (.lst (es.map eW)) ∧ es.length ≤ most ∧ (∀ e ∈ es, LongE nms e) ∧ NC es ∧ Deck B (n + 20000) d S' ∧ Fr B S S') E := by
  have hb := D.bl
  have hpos : 0 < nms.length := List.length_pos_iff.mpr h0
  unfold n_law_long d_law_long
  simp only [wp_dfn, List.map_cons, List.map_nil, List.replicate_succ, List.replicate_zero, List.cons_append, List.nil_append, Nat.reduceSub, Nat.reduceAdd, List.getElem?_cons_zero, List.getElem?_cons_succ, List.set_cons_zero, List.set_cons_succ, List.length_cons, List.length_nil, tgN, tgNil, tgCons, tgTup, wipeE, isT, String.reduceBEq, Bool.and_false, Bool.false_and, Bool.true_and, Bool.and_true, Bool.or_false, Bool.false_or, Bool.true_or, Bool.or_true, Bool.not_true, Bool.not_false, if_true, if_false, true_and, and_true, Bool.false_eq_true, Bool.true_eq_false, reduceIte]
  rw [wpS_dSeq]
  simp only [wpS_dSet, wp_dLst, wp_aNil, List.map_cons, List.map_nil, List.replicate_succ, List.replicate_zero, List.cons_append, List.nil_append, Nat.reduceSub, Nat.reduceAdd, List.getElem?_cons_zero, List.getElem?_cons_succ, List.set_cons_zero, List.set_cons_succ, List.length_cons, List.length_nil, tgN, tgNil, tgCons, tgTup, wipeE, isT, String.reduceBEq, Bool.and_false, Bool.false_and, Bool.true_and, Bool.and_true, Bool.or_false, Bool.false_or, Bool.true_or, Bool.or_true, Bool.not_true, Bool.not_false, if_true, if_false, true_and, and_true, Bool.false_eq_true, Bool.true_eq_false, reduceIte, lenOk_of (show 0 ≤ 1000000 by decide)]
  have g1 : (S ++ [O.lst []])[q]? = some (.lst (nms.map W.str)) := Fr.app.g0 g
  rw [wpS_dSeq, wpS_dFor]
  simp only [wp_dSrc, wp_dVar, List.map_cons, List.map_nil, List.replicate_succ, List.replicate_zero, List.cons_append, List.nil_append, Nat.reduceSub, Nat.reduceAdd, List.getElem?_cons_zero, List.getElem?_cons_succ, List.set_cons_zero, List.set_cons_succ, List.length_cons, List.length_nil, tgN, tgNil, tgCons, tgTup, wipeE, isT, String.reduceBEq, Bool.and_false, Bool.false_and, Bool.true_and, Bool.and_true, Bool.or_false, Bool.false_or, Bool.true_or, Bool.or_true, Bool.not_true, Bool.not_false, if_true, if_false, true_and, and_true, Bool.false_eq_true, Bool.true_eq_false, reduceIte, wO_some, srcW_ref g1]
  refine wpS_forL (fun i ε S' => ∃ (es : List Ent) (x4 x5 x6 x7 x8 : Option W), ε = [some (.ref d), some (.ref q), some (.int most), some (.ref S.length), x4, x5, x6, x7, x8] ∧ Gro B (n + 1300 * i) d S.length nms S (400 * i) es S' ∧ (∀ e ∈ es, e.1 ∈ nms.take i) ∧ i ≤ nms.length) ?_ ?_ ?_ ?_
  · exact ⟨[], _, _, _, _, _, rfl, ⟨get_new, Nat.le_refl _, fun e h => (by simp at h), fun a h => (by simp at h), D.mono (Nat.le_refl _) Fr.app, Fr.app⟩, fun e h => (by simp at h), Nat.zero_le _⟩
  · rintro i ε S' _ ⟨es, _, _, _, _, _, _, ⟨_, _, _, _, _, f⟩, _⟩
    exact f.get _ _ hq g
  · rintro i w ε S' e ⟨es, x4, x5, x6, x7, x8, rfl, ⟨gf, le, hok, hnc, D1, f1⟩, hnm, hi⟩
    rw [List.getElem?_map, Option.map_eq_some_iff] at e
    obtain ⟨x, e, rfl⟩ := e
    have hi : i < nms.length := (List.getElem?_eq_some_iff.mp e).1
    have gq := f1.get _ _ hq g
    have hfresh : ∀ e ∈ es, e.1 ≠ x := fun e' he' hx => by
      have := hnm e' he'
      rw [hx] at this
      obtain ⟨j, hj⟩ := List.mem_iff_getElem?.mp this
      have hj1 : j < i := by
        have := (List.getElem?_eq_some_iff.mp hj).1
        rw [List.length_take] at this; omega
      rw [List.getElem?_take_of_lt hj1] at hj
      have := ((List.getElem?_inj (by omega) hnd).mp (hj.trans e.symm))
      omega
    simp only [List.map_cons, List.map_nil, List.replicate_succ, List.replicate_zero, List.cons_append, List.nil_append, Nat.reduceSub, Nat.reduceAdd, List.getElem?_cons_zero, List.getElem?_cons_succ, List.set_cons_zero, List.set_cons_succ, List.length_cons, List.length_nil, tgN, tgNil, tgCons, tgTup, wipeE, isT, String.reduceBEq, Bool.and_false, Bool.false_and, Bool.true_and, Bool.and_true, Bool.or_false, Bool.false_or, Bool.true_or, Bool.or_true, Bool.not_true, Bool.not_false, if_true, if_false, true_and, and_true, Bool.false_eq_true, Bool.true_eq_false, reduceIte, wO_some]
    rw [wpS_dSeq]
    have z30 : powOk 10 30 = true := by decide +kernel
    have z6 : powOk 10 6 = true := by decide +kernel
    refine wpS_join' (fun ε' S2 => ∃ a : Int, ε' = [some (.ref d), some (.ref q), some (.int most), some (.ref S.length), some (.str x), some (.int a), x6, x7, x8] ∧ -(10 ^ 30) ≤ a ∧ a ≤ 10 ^ 6 ∧ S2[S.length]? = some (.lst (es.map eW)) ∧ Deck B (n + 1300 * i + 2) d S2 ∧ Fr B S S2) ?_ ?_
    · simp only [wp_ok, wp_exc, wp_ret, wp_badM, wp_lift, wp_chk, wp_alloc, wp_grd, wp_tgt, wp_noXe, wp_dVar, wp_dC, wp_aNil, wp_aCons, wp_dTup, wp_dLst, wp_dOp, wp_dUn, wp_dFn, wB_bl, wp_dChain, wp_dTru, wp_dBool, wp_dNot, wp_dAnd, wp_dOr, wp_dAndV, wp_dOrV, wp_dNotV, wp_dIfE, wp_dYes, wp_dCall, wp_dCallK, wp_dIsi, wp_dIsi2, wp_dMt, wp_oN, wI_int, wp_oS, wp_dSl, wp_dSrc, wp_dZip, wp_dRng1, wp_dRng2, wp_dEnum, wp_dLc, wpS_nx, wpS_rt, wpS_bk, wpS_ct, wpS_exc, wpS_bad, wpS_ite, wpS_dSeq, wpS_dNx, wpS_dBk, wpS_dCt, wpS_dDrop, wpS_dRet, wpS_dRetN, wpS_dIf, wpS_dSet, wpS_dAsg, wpS_dPar, wpS_dPar3, wpS_dSet2, wpS_dPut, wpS_dRaise, wpS_dFor, wp_dfn, wO_some, wO_none, wO_map, wO_bind, wO_ite, List.map_cons, List.map_nil, List.replicate_succ, List.replicate_zero, List.cons_append, List.nil_append, Nat.reduceSub, Nat.reduceAdd, List.getElem?_cons_zero, List.getElem?_cons_succ, List.set_cons_zero, List.set_cons_succ, List.length_cons, List.length_nil, tgN, tgNil, tgCons, tgTup, wipeE, isT, String.reduceBEq, Bool.and_false, Bool.false_and, Bool.true_and, Bool.and_true, Bool.or_false, Bool.false_or, Bool.true_or, Bool.or_true, Bool.not_true, Bool.not_false, if_true, if_false, true_and, and_true, Bool.false_eq_true, Bool.true_eq_false, reduceIte, opEq_int, opNe_int, opEq_str, opNe_str, opAdd_int, opSub_int, opMod_pos, opLt_int, opLe_int, opGt_int, opGe_int, opLt_str, opLe_str, opIsN_ref, opIsN_non, opIsN_int, opIsN_tup, opIsN_str, opIsN_bl, opEq_bl, opNe_bl, opFdiv_int, opMul_int, opPow_int, atI_0, atI_1, atI_2, opIx_ref, opIx_tup, opIx_rl, opLen_tup, opLen_str, opLen_rl, opMax2_int, opMin2_int, opInt_int, opInt_bl, tyN_non, tyN_bl, tyN_int, tyN_str, tyN_tup, tyN_rl, truthW_bl, srcW_tup, srcW_rl, z30, z6, opNeg_int]
      refine wp_mono (draw_spec D1 (by omega) (by decide) (by decide)) ?_ (fun _ _ q => q)
      rintro r S2 ⟨k, rfl, k0, k1, D2, f2, l2⟩
      simp only [wp_ok, wp_exc, wp_ret, wp_badM, wp_lift, wp_chk, wp_alloc, wp_grd, wp_tgt, wp_noXe, wp_dVar, wp_dC, wp_aNil, wp_aCons, wp_dTup, wp_dLst, wp_dOp, wp_dUn, wp_dFn, wB_bl, wp_dChain, wp_dTru, wp_dBool, wp_dNot, wp_dAnd, wp_dOr, wp_dAndV, wp_dOrV, wp_dNotV, wp_dIfE, wp_dYes, wp_dCall, wp_dCallK, wp_dIsi, wp_dIsi2, wp_dMt, wp_oN, wI_int, wp_oS, wp_dSl, wp_dSrc, wp_dZip, wp_dRng1, wp_dRng2, wp_dEnum, wp_dLc, wpS_nx, wpS_rt, wpS_bk, wpS_ct, wpS_exc, wpS_bad, wpS_ite, wpS_dSeq, wpS_dNx, wpS_dBk, wpS_dCt, wpS_dDrop, wpS_dRet, wpS_dRetN, wpS_dIf, wpS_dSet, wpS_dAsg, wpS_dPar, wpS_dPar3, wpS_dSet2, wpS_dPut, wpS_dRaise, wpS_dFor, wp_dfn, wO_some, wO_none, wO_map, wO_bind, wO_ite, List.map_cons, List.map_nil, List.replicate_succ, List.replicate_zero, List.cons_append, List.nil_append, Nat.reduceSub, Nat.reduceAdd, List.getElem?_cons_zero, List.getElem?_cons_succ, List.set_cons_zero, List.set_cons_succ, List.length_cons, List.length_nil, tgN, tgNil, tgCons, tgTup, wipeE, isT, String.reduceBEq, Bool.and_false, Bool.false_and, Bool.true_and, Bool.and_true, Bool.or_false, Bool.false_or, Bool.true_or, Bool.or_true, Bool.not_true, Bool.not_false, if_true, if_false, true_and, and_true, Bool.false_eq_true, Bool.true_eq_false, reduceIte, opEq_int, opNe_int, opEq_str, opNe_str, opAdd_int, opSub_int, opMod_pos, opLt_int, opLe_int, opGt_int, opGe_int, opLt_str, opLe_str, opIsN_ref, opIsN_non, opIsN_int, opIsN_tup, opIsN_str, opIsN_bl, opEq_bl, opNe_bl, opFdiv_int, opMul_int, opPow_int, atI_0, atI_1, atI_2, opIx_ref, opIx_tup, opIx_rl, opLen_tup, opLen_str, opLen_rl, opMax2_int, opMin2_int, opInt_int, opInt_bl, tyN_non, tyN_bl, tyN_int, tyN_str, tyN_tup, tyN_rl, truthW_bl, srcW_tup, srcW_rl, lenOk_of (show 3 ≤ 1000000 by decide)]
      refine wp_mono (draw_spec (D2.mono (Nat.le_refl _) Fr.app) (by omega) (by decide) (by decide)) ?_ (fun _ _ q => q)
      rintro r S3 ⟨c, rfl, c0, c1, D3, f3, l3⟩
      have b2 := D2.bl
      obtain ⟨v, hv, hv2⟩ := pick3 (a := 0) (b := -(10 ^ Int.toNat 30)) (c := k) c0 c1
      have gl := f3.get _ _ b2 (get_new (S := S2) (o := O.lst [W.int 0, W.int (-(10 ^ Int.toNat 30)), W.int k]) (T := []))
      simp only [wp_ok, wp_exc, wp_ret, wp_badM, wp_lift, wp_chk, wp_alloc, wp_grd, wp_tgt, wp_noXe, wp_dVar, wp_dC, wp_aNil, wp_aCons, wp_dTup, wp_dLst, wp_dOp, wp_dUn, wp_dFn, wB_bl, wp_dChain, wp_dTru, wp_dBool, wp_dNot, wp_dAnd, wp_dOr, wp_dAndV, wp_dOrV, wp_dNotV, wp_dIfE, wp_dYes, wp_dCall, wp_dCallK, wp_dIsi, wp_dIsi2, wp_dMt, wp_oN, wI_int, wp_oS, wp_dSl, wp_dSrc, wp_dZip, wp_dRng1, wp_dRng2, wp_dEnum, wp_dLc, wpS_nx, wpS_rt, wpS_bk, wpS_ct, wpS_exc, wpS_bad, wpS_ite, wpS_dSeq, wpS_dNx, wpS_dBk, wpS_dCt, wpS_dDrop, wpS_dRet, wpS_dRetN, wpS_dIf, wpS_dSet, wpS_dAsg, wpS_dPar, wpS_dPar3, wpS_dSet2, wpS_dPut, wpS_dRaise, wpS_dFor, wp_dfn, wO_some, wO_none, wO_map, wO_bind, wO_ite, List.map_cons, List.map_nil, List.replicate_succ, List.replicate_zero, List.cons_append, List.nil_append, Nat.reduceSub, Nat.reduceAdd, List.getElem?_cons_zero, List.getElem?_cons_succ, List.set_cons_zero, List.set_cons_succ, List.length_cons, List.length_nil, tgN, tgNil, tgCons, tgTup, wipeE, isT, String.reduceBEq, Bool.and_false, Bool.false_and, Bool.true_and, Bool.and_true, Bool.or_false, Bool.false_or, Bool.true_or, Bool.or_true, Bool.not_true, Bool.not_false, if_true, if_false, true_and, and_true, Bool.false_eq_true, Bool.true_eq_false, reduceIte, opEq_int, opNe_int, opEq_str, opNe_str, opAdd_int, opSub_int, opMod_pos, opLt_int, opLe_int, opGt_int, opGe_int, opLt_str, opLe_str, opIsN_ref, opIsN_non, opIsN_int, opIsN_tup, opIsN_str, opIsN_bl, opEq_bl, opNe_bl, opFdiv_int, opMul_int, opPow_int, atI_0, atI_1, atI_2, opIx_ref, opIx_tup, opIx_rl, opLen_tup, opLen_str, opLen_rl, opMax2_int, opMin2_int, opInt_int, opInt_bl, tyN_non, tyN_bl, tyN_int, tyN_str, tyN_tup, tyN_rl, truthW_bl, srcW_tup, srcW_rl, lstAt_of gl, atI_nn c0, hv]
      have p30 : (10 : Int) ^ Int.toNat 30 = 10 ^ 30 := rfl
      have p6 : (10 : Int) ^ Int.toNat 6 = 1000000 := by decide
      rw [p6] at k1
      refine ⟨v, rfl, ?_, ?_, f3.get _ _ hb (Fr.app.g0 (f2.get _ _ hb gf)), D3, f1.trans (f2.trans (Fr.app.trans f3))⟩
      · rcases hv2 with rfl | rfl | rfl
        · decide
        · rw [p30]; exact Int.le_refl _
        · omega
      · rcases hv2 with rfl | rfl | rfl
        · decide
        · decide
        · omega
    rintro ε' S2 ⟨a, rfl, a0, a1, gf2, D2, f2⟩
    dsimp only
    have b2 := D2.bl
    have gq2 := f2.get _ _ hq g
    have dv : divOk (most : Int) (nms.length : Int) = true := divOk_of (by omega) (Nat.lt_of_le_of_lt (by omega : _ ≤ 6) (by decide))
    rw [wpS_dFor]
    simp only [wp_ok, wp_exc, wp_ret, wp_badM, wp_lift, wp_chk, wp_alloc, wp_grd, wp_tgt, wp_noXe, wp_dVar, wp_dC, wp_aNil, wp_aCons, wp_dTup, wp_dLst, wp_dOp, wp_dUn, wp_dFn, wB_bl, wp_dChain, wp_dTru, wp_dBool, wp_dNot, wp_dAnd, wp_dOr, wp_dAndV, wp_dOrV, wp_dNotV, wp_dIfE, wp_dYes, wp_dCall, wp_dCallK, wp_dIsi, wp_dIsi2, wp_dMt, wp_oN, wI_int, wp_oS, wp_dSl, wp_dSrc, wp_dZip, wp_dRng1, wp_dRng2, wp_dEnum, wp_dLc, wpS_nx, wpS_rt, wpS_bk, wpS_ct, wpS_exc, wpS_bad, wpS_ite, wpS_dSeq, wpS_dNx, wpS_dBk, wpS_dCt, wpS_dDrop, wpS_dRet, wpS_dRetN, wpS_dIf, wpS_dSet, wpS_dAsg, wpS_dPar, wpS_dPar3, wpS_dSet2, wpS_dPut, wpS_dRaise, wpS_dFor, wp_dfn, wO_some, wO_none, wO_map, wO_bind, wO_ite, List.map_cons, List.map_nil, List.replicate_succ, List.replicate_zero, List.cons_append, List.nil_append, Nat.reduceSub, Nat.reduceAdd, List.getElem?_cons_zero, List.getElem?_cons_succ, List.set_cons_zero, List.set_cons_succ, List.length_cons, List.length_nil, tgN, tgNil, tgCons, tgTup, wipeE, isT, String.reduceBEq, Bool.and_false, Bool.false_and, Bool.true_and, Bool.and_true, Bool.or_false, Bool.false_or, Bool.true_or, Bool.or_true, Bool.not_true, Bool.not_false, if_true, if_false, true_and, and_true, Bool.false_eq_true, Bool.true_eq_false, reduceIte, opEq_int, opNe_int, opEq_str, opNe_str, opAdd_int, opSub_int, opMod_pos, opLt_int, opLe_int, opGt_int, opGe_int, opLt_str, opLe_str, opIsN_ref, opIsN_non, opIsN_int, opIsN_tup, opIsN_str, opIsN_bl, opEq_bl, opNe_bl, opFdiv_int, opMul_int, opPow_int, atI_0, atI_1, atI_2, opIx_ref, opIx_tup, opIx_rl, opLen_tup, opLen_str, opLen_rl, opMax2_int, opMin2_int, opInt_int, opInt_bl, tyN_non, tyN_bl, tyN_int, tyN_str, tyN_tup, tyN_rl, truthW_bl, srcW_tup, srcW_rl, opLen_ref gq2, List.length_map, dv]
    refine wp_mono (draw_spec D2 (by omega) (by decide) (by decide)) ?_ (fun _ _ q => q)
    rintro r S3 ⟨c, rfl, c0, c1, D3, f3, l3⟩
    have gq3 := f3.get _ _ hq gq2
    have b3 := D3.bl
    simp only [wp_ok, wp_exc, wp_ret, wp_badM, wp_lift, wp_chk, wp_alloc, wp_grd, wp_tgt, wp_noXe, wp_dVar, wp_dC, wp_aNil, wp_aCons, wp_dTup, wp_dLst, wp_dOp, wp_dUn, wp_dFn, wB_bl, wp_dChain, wp_dTru, wp_dBool, wp_dNot, wp_dAnd, wp_dOr, wp_dAndV, wp_dOrV, wp_dNotV, wp_dIfE, wp_dYes, wp_dCall, wp_dCallK, wp_dIsi, wp_dIsi2, wp_dMt, wp_oN, wI_int, wp_oS, wp_dSl, wp_dSrc, wp_dZip, wp_dRng1, wp_dRng2, wp_dEnum, wp_dLc, wpS_nx, wpS_rt, wpS_bk, wpS_ct, wpS_exc, wpS_bad, wpS_ite, wpS_dSeq, wpS_dNx, wpS_dBk, wpS_dCt, wpS_dDrop, wpS_dRet, wpS_dRetN, wpS_dIf, wpS_dSet, wpS_dAsg, wpS_dPar, wpS_dPar3, wpS_dSet2, wpS_dPut, wpS_dRaise, wpS_dFor, wp_dfn, wO_some, wO_none, wO_map, wO_bind, wO_ite, List.map_cons, List.map_nil, List.replicate_succ, List.replicate_zero, List.cons_append, List.nil_append, Nat.reduceSub, Nat.reduceAdd, List.getElem?_cons_zero, List.getElem?_cons_succ, List.set_cons_zero, List.set_cons_succ, List.length_cons, List.length_nil, tgN, tgNil, tgCons, tgTup, wipeE, isT, String.reduceBEq, Bool.and_false, Bool.false_and, Bool.true_and, Bool.and_true, Bool.or_false, Bool.false_or, Bool.true_or, Bool.or_true, Bool.not_true, Bool.not_false, if_true, if_false, true_and, and_true, Bool.false_eq_true, Bool.true_eq_false, reduceIte, opEq_int, opNe_int, opEq_str, opNe_str, opAdd_int, opSub_int, opMod_pos, opLt_int, opLe_int, opGt_int, opGe_int, opLt_str, opLe_str, opIsN_ref, opIsN_non, opIsN_int, opIsN_tup, opIsN_str, opIsN_bl, opEq_bl, opNe_bl, opFdiv_int, opMul_int, opPow_int, atI_0, atI_1, atI_2, opIx_ref, opIx_tup, opIx_rl, opLen_tup, opLen_str, opLen_rl, opMax2_int, opMin2_int, opInt_int, opInt_bl, tyN_non, tyN_bl, tyN_int, tyN_str, tyN_tup, tyN_rl, truthW_bl, srcW_tup, srcW_rl, opLen_ref gq3, List.length_map, dv, lenOk_of (show 2 ≤ 1000000 by decide)]
    refine wp_mono (draw_spec (D3.mono (Nat.le_refl _) Fr.app) (by omega) (by decide) (by decide)) ?_ (fun _ _ q => q)
    rintro r S4 ⟨c2, rfl, c20, c21, D4, f4, l4⟩
    have gl := f4.get _ _ b3 (get_new (S := S3) (o := O.lst [W.int c, W.int ((most : Int) / (nms.length : Int))]) (T := []))
    obtain ⟨v, hv, hv2⟩ := pick2 (a := c) (b := (most : Int) / (nms.length : Int)) c20 c21
    have hdiv : 0 ≤ (most : Int) / (nms.length : Int) ∧ (most : Int) / (nms.length : Int) ≤ 200 := by
      have h1 := Int.ediv_nonneg (show (0 : Int) ≤ most by omega) (show (0 : Int) ≤ (nms.length : Int) by omega)
      have h2 := Int.ediv_le_self (a := (most : Int)) (nms.length : Int) (by omega)
      omega
    obtain ⟨tn, htn, htn2⟩ : ∃ tn : Nat, v = (tn : Int) ∧ tn ≤ 200 := ⟨v.toNat, by omega, by omega⟩
    subst htn
    simp only [wp_ok, wp_exc, wp_ret, wp_badM, wp_lift, wp_chk, wp_alloc, wp_grd, wp_tgt, wp_noXe, wp_dVar, wp_dC, wp_aNil, wp_aCons, wp_dTup, wp_dLst, wp_dOp, wp_dUn, wp_dFn, wB_bl, wp_dChain, wp_dTru, wp_dBool, wp_dNot, wp_dAnd, wp_dOr, wp_dAndV, wp_dOrV, wp_dNotV, wp_dIfE, wp_dYes, wp_dCall, wp_dCallK, wp_dIsi, wp_dIsi2, wp_dMt, wp_oN, wI_int, wp_oS, wp_dSl, wp_dSrc, wp_dZip, wp_dRng1, wp_dRng2, wp_dEnum, wp_dLc, wpS_nx, wpS_rt, wpS_bk, wpS_ct, wpS_exc, wpS_bad, wpS_ite, wpS_dSeq, wpS_dNx, wpS_dBk, wpS_dCt, wpS_dDrop, wpS_dRet, wpS_dRetN, wpS_dIf, wpS_dSet, wpS_dAsg, wpS_dPar, wpS_dPar3, wpS_dSet2, wpS_dPut, wpS_dRaise, wpS_dFor, wp_dfn, wO_some, wO_none, wO_map, wO_bind, wO_ite, List.map_cons, List.map_nil, List.replicate_succ, List.replicate_zero, List.cons_append, List.nil_append, Nat.reduceSub, Nat.reduceAdd, List.getElem?_cons_zero, List.getElem?_cons_succ, List.set_cons_zero, List.set_cons_succ, List.length_cons, List.length_nil, tgN, tgNil, tgCons, tgTup, wipeE, isT, String.reduceBEq, Bool.and_false, Bool.false_and, Bool.true_and, Bool.and_true, Bool.or_false, Bool.false_or, Bool.true_or, Bool.or_true, Bool.not_true, Bool.not_false, if_true, if_false, true_and, and_true, Bool.false_eq_true, Bool.true_eq_false, reduceIte, opEq_int, opNe_int, opEq_str, opNe_str, opAdd_int, opSub_int, opMod_pos, opLt_int, opLe_int, opGt_int, opGe_int, opLt_str, opLe_str, opIsN_ref, opIsN_non, opIsN_int, opIsN_tup, opIsN_str, opIsN_bl, opEq_bl, opNe_bl, opFdiv_int, opMul_int, opPow_int, atI_0, atI_1, atI_2, opIx_ref, opIx_tup, opIx_rl, opLen_tup, opLen_str, opLen_rl, opMax2_int, opMin2_int, opInt_int, opInt_bl, tyN_non, tyN_bl, tyN_int, tyN_str, tyN_tup, tyN_rl, truthW_bl, srcW_tup, srcW_rl, lstAt_of gl, atI_nn c20, hv]
    refine ⟨bnd_of (by omega) (by omega), ?_⟩
    have f24 : Fr B S2 S4 := f3.trans (Fr.app.trans f4)
    have f04 := f2.trans f24
    have hxm : x ∈ nms := List.mem_of_getElem? e
    have tk : nms.take (i + 1) = nms.take i ++ [x] := by rw [List.take_succ, e]; rfl
    have hxt : x ∈ nms.take (i + 1) := by rw [tk]; simp
    refine wpS_forL (fun j ε S' => ∃ (es' : List Ent) (a' : Int) (x6 x7 x8 : Option W), ε = [some (.ref d), some (.ref q), some (.int most), some (.ref S.length), some (.str x), some (.int a'), x6, x7, x8] ∧ Gro B (n + 1300 * i + 4 + 6 * j) d S.length nms S (400 * i + 2 * j) es' S' ∧ (∀ e ∈ es', e.1 ∈ nms.take (i + 1)) ∧
      (∀ e ∈ es', e.1 = x → e.2.2 < a') ∧ -(10 ^ 30) ≤ a' ∧ a' ≤ 10 ^ 6 + j * (10 ^ 27 + 10) ∧ j ≤ 200) ?_ ?_ ?_ ?_
    · exact ⟨es, a, _, _, _, rfl, ⟨f24.get _ _ hb gf2, le, hok, hnc, D4, f04⟩, fun e' he' => by rw [tk]; exact List.mem_append_left _ (hnm e' he'), fun e' he' hx => absurd hx (hfresh e' he'), a0, by omega, Nat.zero_le _⟩
    · intros; trivial
    · rintro j w ε S5 ej ⟨es', a', y6, y7, y8, rfl, ⟨gf5, le5, hok5, hnc5, D5, f5⟩, hnm5, hlt5, a0', a1', hj⟩
      obtain ⟨hj, rfl⟩ := rngW_get ej
      have hj : j < tn := by simpa using hj
      have z4 : powOk 10 4 = true := by decide +kernel
      have z27 : powOk 10 27 = true := by decide +kernel
      have p4 : (10 : Int) ^ Int.toNat 4 = 10000 := by decide
      have p27 : (10 : Int) ^ Int.toNat 27 = 1000000000000000000000000000 := by decide +kernel
      have b5 := D5.bl
      simp only [wp_ok, wp_exc, wp_ret, wp_badM, wp_lift, wp_chk, wp_alloc, wp_grd, wp_tgt, wp_noXe, wp_dVar, wp_dC, wp_aNil, wp_aCons, wp_dTup, wp_dLst, wp_dOp, wp_dUn, wp_dFn, wB_bl, wp_dChain, wp_dTru, wp_dBool, wp_dNot, wp_dAnd, wp_dOr, wp_dAndV, wp_dOrV, wp_dNotV, wp_dIfE, wp_dYes, wp_dCall, wp_dCallK, wp_dIsi, wp_dIsi2, wp_dMt, wp_oN, wI_int, wp_oS, wp_dSl, wp_dSrc, wp_dZip, wp_dRng1, wp_dRng2, wp_dEnum, wp_dLc, wpS_nx, wpS_rt, wpS_bk, wpS_ct, wpS_exc, wpS_bad, wpS_ite, wpS_dSeq, wpS_dNx, wpS_dBk, wpS_dCt, wpS_dDrop, wpS_dRet, wpS_dRetN, wpS_dIf, wpS_dSet, wpS_dAsg, wpS_dPar, wpS_dPar3, wpS_dSet2, wpS_dPut, wpS_dRaise, wpS_dFor, wp_dfn, wO_some, wO_none, wO_map, wO_bind, wO_ite, List.map_cons, List.map_nil, List.replicate_succ, List.replicate_zero, List.cons_append, List.nil_append, Nat.reduceSub, Nat.reduceAdd, List.getElem?_cons_zero, List.getElem?_cons_succ, List.set_cons_zero, List.set_cons_succ, List.length_cons, List.length_nil, tgN, tgNil, tgCons, tgTup, wipeE, isT, String.reduceBEq, Bool.and_false, Bool.false_and, Bool.true_and, Bool.and_true, Bool.or_false, Bool.false_or, Bool.true_or, Bool.or_true, Bool.not_true, Bool.not_false, if_true, if_false, true_and, and_true, Bool.false_eq_true, Bool.true_eq_false, reduceIte, opEq_int, opNe_int, opEq_str, opNe_str, opAdd_int, opSub_int, opMod_pos, opLt_int, opLe_int, opGt_int, opGe_int, opLt_str, opLe_str, opIsN_ref, opIsN_non, opIsN_int, opIsN_tup, opIsN_str, opIsN_bl, opEq_bl, opNe_bl, opFdiv_int, opMul_int, opPow_int, atI_0, atI_1, atI_2, opIx_ref, opIx_tup, opIx_rl, opLen_tup, opLen_str, opLen_rl, opMax2_int, opMin2_int, opInt_int, opInt_bl, tyN_non, tyN_bl, tyN_int, tyN_str, tyN_tup, tyN_rl, truthW_bl, srcW_tup, srcW_rl, z4, z27, p4, p27, lenOk_of (show 4 ≤ 1000000 by decide)]
      refine wp_mono (draw_spec (D5.mono (Nat.le_refl _) Fr.app) (by omega) (by decide) (by decide)) ?_ (fun _ _ q => q)
      rintro r S6 ⟨c4, rfl, c40, c41, D6, f6, l6⟩
      have gl6 := f6.get _ _ b5 (get_new (S := S5) (o := O.lst [W.int 1, W.int 6, W.int 10000, W.int 1000000000000000000000000000]) (T := []))
      obtain ⟨wd, hwd, hwd2⟩ := pick4 (a := 1) (b := 6) (c := 10000) (e := 1000000000000000000000000000) c40 c41
      have wd1 : 1 ≤ wd ∧ wd ≤ 1000000000000000000000000000 := by omega
      simp only [wp_ok, wp_exc, wp_ret, wp_badM, wp_lift, wp_chk, wp_alloc, wp_grd, wp_tgt, wp_noXe, wp_dVar, wp_dC, wp_aNil, wp_aCons, wp_dTup, wp_dLst, wp_dOp, wp_dUn, wp_dFn, wB_bl, wp_dChain, wp_dTru, wp_dBool, wp_dNot, wp_dAnd, wp_dOr, wp_dAndV, wp_dOrV, wp_dNotV, wp_dIfE, wp_dYes, wp_dCall, wp_dCallK, wp_dIsi, wp_dIsi2, wp_dMt, wp_oN, wI_int, wp_oS, wp_dSl, wp_dSrc, wp_dZip, wp_dRng1, wp_dRng2, wp_dEnum, wp_dLc, wpS_nx, wpS_rt, wpS_bk, wpS_ct, wpS_exc, wpS_bad, wpS_ite, wpS_dSeq, wpS_dNx, wpS_dBk, wpS_dCt, wpS_dDrop, wpS_dRet, wpS_dRetN, wpS_dIf, wpS_dSet, wpS_dAsg, wpS_dPar, wpS_dPar3, wpS_dSet2, wpS_dPut, wpS_dRaise, wpS_dFor, wp_dfn, wO_some, wO_none, wO_map, wO_bind, wO_ite, List.map_cons, List.map_nil, List.replicate_succ, List.replicate_zero, List.cons_append, List.nil_append, Nat.reduceSub, Nat.reduceAdd, List.getElem?_cons_zero, List.getElem?_cons_succ, List.set_cons_zero, List.set_cons_succ, List.length_cons, List.length_nil, tgN, tgNil, tgCons, tgTup, wipeE, isT, String.reduceBEq, Bool.and_false, Bool.false_and, Bool.true_and, Bool.and_true, Bool.or_false, Bool.false_or, Bool.true_or, Bool.or_true, Bool.not_true, Bool.not_false, if_true, if_false, true_and, and_true, Bool.false_eq_true, Bool.true_eq_false, reduceIte, opEq_int, opNe_int, opEq_str, opNe_str, opAdd_int, opSub_int, opMod_pos, opLt_int, opLe_int, opGt_int, opGe_int, opLt_str, opLe_str, opIsN_ref, opIsN_non, opIsN_int, opIsN_tup, opIsN_str, opIsN_bl, opEq_bl, opNe_bl, opFdiv_int, opMul_int, opPow_int, atI_0, atI_1, atI_2, opIx_ref, opIx_tup, opIx_rl, opLen_tup, opLen_str, opLen_rl, opMax2_int, opMin2_int, opInt_int, opInt_bl, tyN_non, tyN_bl, tyN_int, tyN_str, tyN_tup, tyN_rl, truthW_bl, srcW_tup, srcW_rl, lstAt_of gl6, atI_nn c40, hwd]
      refine wp_mono (draw_spec D6 (by omega) (by omega) (by omega)) ?_ (fun _ _ q => q)
      rintro r S7 ⟨k7, rfl, k70, k71, D7, f7, l7⟩
      have gf7 := (f6.trans f7).get _ _ hb (Fr.app.g0 gf5)
      have f57 : Fr B S5 S7 := Fr.app.trans (f6.trans f7)
      simp only [wp_ok, wp_exc, wp_ret, wp_badM, wp_lift, wp_chk, wp_alloc, wp_grd, wp_tgt, wp_noXe, wp_dVar, wp_dC, wp_aNil, wp_aCons, wp_dTup, wp_dLst, wp_dOp, wp_dUn, wp_dFn, wB_bl, wp_dChain, wp_dTru, wp_dBool, wp_dNot, wp_dAnd, wp_dOr, wp_dAndV, wp_dOrV, wp_dNotV, wp_dIfE, wp_dYes, wp_dCall, wp_dCallK, wp_dIsi, wp_dIsi2, wp_dMt, wp_oN, wI_int, wp_oS, wp_dSl, wp_dSrc, wp_dZip, wp_dRng1, wp_dRng2, wp_dEnum, wp_dLc, wpS_nx, wpS_rt, wpS_bk, wpS_ct, wpS_exc, wpS_bad, wpS_ite, wpS_dSeq, wpS_dNx, wpS_dBk, wpS_dCt, wpS_dDrop, wpS_dRet, wpS_dRetN, wpS_dIf, wpS_dSet, wpS_dAsg, wpS_dPar, wpS_dPar3, wpS_dSet2, wpS_dPut, wpS_dRaise, wpS_dFor, wp_dfn, wO_some, wO_none, wO_map, wO_bind, wO_ite, List.map_cons, List.map_nil, List.replicate_succ, List.replicate_zero, List.cons_append, List.nil_append, Nat.reduceSub, Nat.reduceAdd, List.getElem?_cons_zero, List.getElem?_cons_succ, List.set_cons_zero, List.set_cons_succ, List.length_cons, List.length_nil, tgN, tgNil, tgCons, tgTup, wipeE, isT, String.reduceBEq, Bool.and_false, Bool.false_and, Bool.true_and, Bool.and_true, Bool.or_false, Bool.false_or, Bool.true_or, Bool.or_true, Bool.not_true, Bool.not_false, if_true, if_false, true_and, and_true, Bool.false_eq_true, Bool.true_eq_false, reduceIte, opEq_int, opNe_int, opEq_str, opNe_str, opAdd_int, opSub_int, opMod_pos, opLt_int, opLe_int, opGt_int, opGe_int, opLt_str, opLe_str, opIsN_ref, opIsN_non, opIsN_int, opIsN_tup, opIsN_str, opIsN_bl, opEq_bl, opNe_bl, opFdiv_int, opMul_int, opPow_int, atI_0, atI_1, atI_2, opIx_ref, opIx_tup, opIx_rl, opLen_tup, opLen_str, opLen_rl, opMax2_int, opMin2_int, opInt_int, opInt_bl, tyN_non, tyN_bl, tyN_int, tyN_str, tyN_tup, tyN_rl, truthW_bl, srcW_tup, srcW_rl, tyM_ref gf7]
      refine wp_mono (draw_spec D7 (by omega) (by omega) (by omega)) ?_ (fun _ _ q => q)
      rintro r S8 ⟨k8, rfl, k80, k81, D8, f8, l8⟩
      have gf8 := f8.get _ _ hb gf7
      have lz : (es'.map eW).length < sizeLine := by rw [List.length_map, sizeLine_eq]; omega
      simp only [wp_ok, wp_exc, wp_ret, wp_badM, wp_lift, wp_chk, wp_alloc, wp_grd, wp_tgt, wp_noXe, wp_dVar, wp_dC, wp_aNil, wp_aCons, wp_dTup, wp_dLst, wp_dOp, wp_dUn, wp_dFn, wB_bl, wp_dChain, wp_dTru, wp_dBool, wp_dNot, wp_dAnd, wp_dOr, wp_dAndV, wp_dOrV, wp_dNotV, wp_dIfE, wp_dYes, wp_dCall, wp_dCallK, wp_dIsi, wp_dIsi2, wp_dMt, wp_oN, wI_int, wp_oS, wp_dSl, wp_dSrc, wp_dZip, wp_dRng1, wp_dRng2, wp_dEnum, wp_dLc, wpS_nx, wpS_rt, wpS_bk, wpS_ct, wpS_exc, wpS_bad, wpS_ite, wpS_dSeq, wpS_dNx, wpS_dBk, wpS_dCt, wpS_dDrop, wpS_dRet, wpS_dRetN, wpS_dIf, wpS_dSet, wpS_dAsg, wpS_dPar, wpS_dPar3, wpS_dSet2, wpS_dPut, wpS_dRaise, wpS_dFor, wp_dfn, wO_some, wO_none, wO_map, wO_bind, wO_ite, List.map_cons, List.map_nil, List.replicate_succ, List.replicate_zero, List.cons_append, List.nil_append, Nat.reduceSub, Nat.reduceAdd, List.getElem?_cons_zero, List.getElem?_cons_succ, List.set_cons_zero, List.set_cons_succ, List.length_cons, List.length_nil, tgN, tgNil, tgCons, tgTup, wipeE, isT, String.reduceBEq, Bool.and_false, Bool.false_and, Bool.true_and, Bool.and_true, Bool.or_false, Bool.false_or, Bool.true_or, Bool.or_true, Bool.not_true, Bool.not_false, if_true, if_false, true_and, and_true, Bool.false_eq_true, Bool.true_eq_false, reduceIte, opEq_int, opNe_int, opEq_str, opNe_str, opAdd_int, opSub_int, opMod_pos, opLt_int, opLe_int, opGt_int, opGe_int, opLt_str, opLe_str, opIsN_ref, opIsN_non, opIsN_int, opIsN_tup, opIsN_str, opIsN_bl, opEq_bl, opNe_bl, opFdiv_int, opMul_int, opPow_int, atI_0, atI_1, atI_2, opIx_ref, opIx_tup, opIx_rl, opLen_tup, opLen_str, opLen_rl, opMax2_int, opMin2_int, opInt_int, opInt_bl, tyN_non, tyN_bl, tyN_int, tyN_str, tyN_tup, tyN_rl, truthW_bl, srcW_tup, srcW_rl, lenOk_of (show 3 ≤ 1000000 by decide), mAppend_ref gf8, lz]
      have pt : (10 : Int) ^ 27 = 1000000000000000000000000000 := by decide +kernel
      have pt30 : (10 : Int) ^ 30 = 1000000000000000000000000000000 := by decide +kernel
      have pt31 : (10 : Int) ^ 31 = 10000000000000000000000000000000 := by decide +kernel
      have hj2 : (j : Int) * (10 ^ 27 + 10) ≤ 200 * (10 ^ 27 + 10) := Int.mul_le_mul_of_nonneg_right (by omega) (by decide)
      rw [pt] at a1' hj2
      have ent : ∀ k : Int, 0 ≤ k → k ≤ k7 → LongE nms (x, a' + k, a' + k7) := fun k h0 h1 => ⟨hxm, by show a' + k ≤ a' + k7; omega, by show -(10 ^ 30) ≤ a' + k; omega, by show a' + k7 ≤ 10 ^ 31; rw [pt31]; omega⟩
      have k8b : k8 ≤ k7 := by omega
      have g9 : (S8.set S.length (O.lst (es'.map eW ++ [W.tup [W.str x, W.int (a' + k8), W.int (a' + k7)]])))[S.length]? = some (.lst ((es' ++ [(x, a' + k8, a' + k7)]).map eW)) := by
        rw [List.map_append]; exact get_set gf8
      have D9 := D8.setB (k := S.length) (o := O.lst (es'.map eW ++ [W.tup [W.str x, W.int (a' + k8), W.int (a' + k7)]])) (Nat.le_refl _) hb
      have f9 : Fr B S (S8.set S.length (O.lst (es'.map eW ++ [W.tup [W.str x, W.int (a' + k8), W.int (a' + k7)]]))) := (f5.trans (f57.trans f8)).setN (Nat.le_refl _)
      have ok9 : ∀ e ∈ es' ++ [(x, a' + k8, a' + k7)], LongE nms e := fun e' he' => by
        rcases List.mem_append.mp he' with h | h
        · exact hok5 e' h
        · rw [List.mem_singleton.mp h]; exact ent k8 k80 k8b
      have nc9 : NC (es' ++ [(x, a' + k8, a' + k7)]) := nc_add hnc5 (fun e' he' hx => .inl (by have := hlt5 e' he' hx; show e'.2.2 < a' + k8; omega)) (by show a' + k8 ≤ a' + k7; omega)
      have up9 : ∀ e ∈ es' ++ [(x, a' + k8, a' + k7)], e.1 = x → e.2.2 < a' ∨ e.2.2 = a' + k7 := fun e' he' hx => by
        rcases List.mem_append.mp he' with h | h
        · exact .inl (hlt5 e' h hx)
        · rw [List.mem_singleton.mp h]; exact .inr rfl
      have nm9 : ∀ e ∈ es' ++ [(x, a' + k8, a' + k7)], e.1 ∈ nms.take (i + 1) := fun e' he' => by
        rcases List.mem_append.mp he' with h | h
        · exact hnm5 e' h
        · rw [List.mem_singleton.mp h]; exact hxt
      generalize S8.set S.length (O.lst (es'.map eW ++ [W.tup [W.str x, W.int (a' + k8), W.int (a' + k7)]])) = S9 at g9 D9 f9 ⊢
      have l9 : (es' ++ [(x, a' + k8, a' + k7)]).length = es'.length + 1 := by simp
      generalize hes9 : es' ++ [(x, a' + k8, a' + k7)] = es9 at g9 ok9 nc9 up9 nm9 l9
      have fin : ∀ (es2 : List Ent) (S10 : Store) (z6 z8 : Option W), S10[S.length]? = some (.lst (es2.map eW)) → es2.length ≤ es'.length + 2 → (∀ e ∈ es2, LongE nms e) → NC es2 → (∀ e ∈ es2, e.1 = x → e.2.2 < a' ∨ e.2.2 = a' + k7) → (∀ e ∈ es2, e.1 ∈ nms.take (i + 1)) → Deck B (n + 1300 * i + 4 + 6 * j + 5) d S10 → Fr B S S10 →
          wp (n_law_draw [W.ref d, W.int 4] S10) (fun b S2 => wO (opAdd (.int (a' + k7 + 1)) b S2) fun p => ∃ (es' : List Ent) (a' : Int) (x6 x7 x8 : Option W), [some (.ref d), some (.ref q), some (.int most), some (.ref S.length), some (.str x), some p.1, z6, some (.int wd), z8] = [some (.ref d), some (.ref q), some (.int most), some (.ref S.length), some (.str x), some (.int a'), x6, x7, x8] ∧ Gro B (n + 1300 * i + 4 + 6 * (j + 1)) d S.length nms S (400 * i + 2 * (j + 1)) es' p.2 ∧ (∀ e ∈ es', e.1 ∈ nms.take (i + 1)) ∧
      (∀ e ∈ es', e.1 = x → e.2.2 < a') ∧ -(10 ^ 30) ≤ a' ∧ a' ≤ 10 ^ 6 + ((j + 1 : Nat) : Int) * (10 ^ 27 + 10) ∧ j + 1 ≤ 200) (fun x S1 => E x S1) := fun es2 S10 z6 z8 h1 h2 h3 h4 h5 h6 h7 h8 => by
        refine wp_mono (draw_spec h7 (by omega) (by decide) (by decide)) ?_ (fun _ _ q => q)
        rintro r S11 ⟨c11, rfl, c110, c111, D11, f11, l11⟩
        rw [opAdd_int, wO_some]
        refine ⟨es2, _, _, _, _, rfl, ⟨f11.get _ _ hb h1, by omega, h3, h4, D11.mono (by omega) Fr.refl, h8.trans f11⟩, h6, fun e' he' hx => ?_, by omega, ?_, by omega⟩
        · rcases h5 e' he' hx with h | h <;> omega
        · have e1 : (((j + 1 : Nat) : Int)) * (10 ^ 27 + 10) = (j : Int) * (10 ^ 27 + 10) + (10 ^ 27 + 10) := by rw [show ((j + 1 : Nat) : Int) = (j : Int) + 1 by omega, Int.add_mul, Int.one_mul]
          rw [e1, pt]
          omega
      refine wp_mono (draw_spec D9 (by omega) (by decide) (by decide)) ?_ (fun _ _ q => q)
      rintro r S10 ⟨c10, rfl, c100, c101, D10, f10, l10⟩
      have g10 := f10.get _ _ hb g9
      simp only [wp_ok, wp_exc, wp_ret, wp_badM, wp_lift, wp_chk, wp_alloc, wp_grd, wp_tgt, wp_noXe, wp_dVar, wp_dC, wp_aNil, wp_aCons, wp_dTup, wp_dLst, wp_dOp, wp_dUn, wp_dFn, wB_bl, wp_dChain, wp_dTru, wp_dBool, wp_dNot, wp_dAnd, wp_dOr, wp_dAndV, wp_dOrV, wp_dNotV, wp_dIfE, wp_dYes, wp_dCall, wp_dCallK, wp_dIsi, wp_dIsi2, wp_dMt, wp_oN, wI_int, wp_oS, wp_dSl, wp_dSrc, wp_dZip, wp_dRng1, wp_dRng2, wp_dEnum, wp_dLc, wpS_nx, wpS_rt, wpS_bk, wpS_ct, wpS_exc, wpS_bad, wpS_ite, wpS_dSeq, wpS_dNx, wpS_dBk, wpS_dCt, wpS_dDrop, wpS_dRet, wpS_dRetN, wpS_dIf, wpS_dSet, wpS_dAsg, wpS_dPar, wpS_dPar3, wpS_dSet2, wpS_dPut, wpS_dRaise, wpS_dFor, wp_dfn, wO_some, wO_none, wO_map, wO_bind, wO_ite, List.map_cons, List.map_nil, List.replicate_succ, List.replicate_zero, List.cons_append, List.nil_append, Nat.reduceSub, Nat.reduceAdd, List.getElem?_cons_zero, List.getElem?_cons_succ, List.set_cons_zero, List.set_cons_succ, List.length_cons, List.length_nil, tgN, tgNil, tgCons, tgTup, wipeE, isT, String.reduceBEq, Bool.and_false, Bool.false_and, Bool.true_and, Bool.and_true, Bool.or_false, Bool.false_or, Bool.true_or, Bool.or_true, Bool.not_true, Bool.not_false, if_true, if_false, true_and, and_true, Bool.false_eq_true, Bool.true_eq_false, reduceIte, opEq_int, opNe_int, opEq_str, opNe_str, opAdd_int, opSub_int, opMod_pos, opLt_int, opLe_int, opGt_int, opGe_int, opLt_str, opLe_str, opIsN_ref, opIsN_non, opIsN_int, opIsN_tup, opIsN_str, opIsN_bl, opEq_bl, opNe_bl, opFdiv_int, opMul_int, opPow_int, atI_0, atI_1, atI_2, opIx_ref, opIx_tup, opIx_rl, opLen_tup, opLen_str, opLen_rl, opMax2_int, opMin2_int, opInt_int, opInt_bl, tyN_non, tyN_bl, tyN_int, tyN_str, tyN_tup, tyN_rl, truthW_bl, srcW_tup, srcW_rl]
      split
      · simp only [wp_ok, wp_exc, wp_ret, wp_badM, wp_lift, wp_chk, wp_alloc, wp_grd, wp_tgt, wp_noXe, wp_dVar, wp_dC, wp_aNil, wp_aCons, wp_dTup, wp_dLst, wp_dOp, wp_dUn, wp_dFn, wB_bl, wp_dChain, wp_dTru, wp_dBool, wp_dNot, wp_dAnd, wp_dOr, wp_dAndV, wp_dOrV, wp_dNotV, wp_dIfE, wp_dYes, wp_dCall, wp_dCallK, wp_dIsi, wp_dIsi2, wp_dMt, wp_oN, wI_int, wp_oS, wp_dSl, wp_dSrc, wp_dZip, wp_dRng1, wp_dRng2, wp_dEnum, wp_dLc, wpS_nx, wpS_rt, wpS_bk, wpS_ct, wpS_exc, wpS_bad, wpS_ite, wpS_dSeq, wpS_dNx, wpS_dBk, wpS_dCt, wpS_dDrop, wpS_dRet, wpS_dRetN, wpS_dIf, wpS_dSet, wpS_dAsg, wpS_dPar, wpS_dPar3, wpS_dSet2, wpS_dPut, wpS_dRaise, wpS_dFor, wp_dfn, wO_some, wO_none, wO_map, wO_bind, wO_ite, List.map_cons, List.map_nil, List.replicate_succ, List.replicate_zero, List.cons_append, List.nil_append, Nat.reduceSub, Nat.reduceAdd, List.getElem?_cons_zero, List.getElem?_cons_succ, List.set_cons_zero, List.set_cons_succ, List.length_cons, List.length_nil, tgN, tgNil, tgCons, tgTup, wipeE, isT, String.reduceBEq, Bool.and_false, Bool.false_and, Bool.true_and, Bool.and_true, Bool.or_false, Bool.false_or, Bool.true_or, Bool.or_true, Bool.not_true, Bool.not_false, if_true, if_false, true_and, and_true, Bool.false_eq_true, Bool.true_eq_false, reduceIte, opEq_int, opNe_int, opEq_str, opNe_str, opAdd_int, opSub_int, opMod_pos, opLt_int, opLe_int, opGt_int, opGe_int, opLt_str, opLe_str, opIsN_ref, opIsN_non, opIsN_int, opIsN_tup, opIsN_str, opIsN_bl, opEq_bl, opNe_bl, opFdiv_int, opMul_int, opPow_int, atI_0, atI_1, atI_2, opIx_ref, opIx_tup, opIx_rl, opLen_tup, opLen_str, opLen_rl, opMax2_int, opMin2_int, opInt_int, opInt_bl, tyN_non, tyN_bl, tyN_int, tyN_str, tyN_tup, tyN_rl, truthW_bl, srcW_tup, srcW_rl, tyM_ref g10]
        refine wp_mono (draw_spec D10 (by omega) (by omega) (by omega)) ?_ (fun _ _ q => q)
        rintro r S11 ⟨k11, rfl, k110, k111, D11, f11, l11⟩
        have g11 := f11.get _ _ hb g10
        have lz2 : (es9.map eW).length < sizeLine := by rw [List.length_map, sizeLine_eq]; omega
        simp only [wp_ok, wp_exc, wp_ret, wp_badM, wp_lift, wp_chk, wp_alloc, wp_grd, wp_tgt, wp_noXe, wp_dVar, wp_dC, wp_aNil, wp_aCons, wp_dTup, wp_dLst, wp_dOp, wp_dUn, wp_dFn, wB_bl, wp_dChain, wp_dTru, wp_dBool, wp_dNot, wp_dAnd, wp_dOr, wp_dAndV, wp_dOrV, wp_dNotV, wp_dIfE, wp_dYes, wp_dCall, wp_dCallK, wp_dIsi, wp_dIsi2, wp_dMt, wp_oN, wI_int, wp_oS, wp_dSl, wp_dSrc, wp_dZip, wp_dRng1, wp_dRng2, wp_dEnum, wp_dLc, wpS_nx, wpS_rt, wpS_bk, wpS_ct, wpS_exc, wpS_bad, wpS_ite, wpS_dSeq, wpS_dNx, wpS_dBk, wpS_dCt, wpS_dDrop, wpS_dRet, wpS_dRetN, wpS_dIf, wpS_dSet, wpS_dAsg, wpS_dPar, wpS_dPar3, wpS_dSet2, wpS_dPut, wpS_dRaise, wpS_dFor, wp_dfn, wO_some, wO_none, wO_map, wO_bind, wO_ite, List.map_cons, List.map_nil, List.replicate_succ, List.replicate_zero, List.cons_append, List.nil_append, Nat.reduceSub, Nat.reduceAdd, List.getElem?_cons_zero, List.getElem?_cons_succ, List.set_cons_zero, List.set_cons_succ, List.length_cons, List.length_nil, tgN, tgNil, tgCons, tgTup, wipeE, isT, String.reduceBEq, Bool.and_false, Bool.false_and, Bool.true_and, Bool.and_true, Bool.or_false, Bool.false_or, Bool.true_or, Bool.or_true, Bool.not_true, Bool.not_false, if_true, if_false, true_and, and_true, Bool.false_eq_true, Bool.true_eq_false, reduceIte, opEq_int, opNe_int, opEq_str, opNe_str, opAdd_int, opSub_int, opMod_pos, opLt_int, opLe_int, opGt_int, opGe_int, opLt_str, opLe_str, opIsN_ref, opIsN_non, opIsN_int, opIsN_tup, opIsN_str, opIsN_bl, opEq_bl, opNe_bl, opFdiv_int, opMul_int, opPow_int, atI_0, atI_1, atI_2, opIx_ref, opIx_tup, opIx_rl, opLen_tup, opLen_str, opLen_rl, opMax2_int, opMin2_int, opInt_int, opInt_bl, tyN_non, tyN_bl, tyN_int, tyN_str, tyN_tup, tyN_rl, truthW_bl, srcW_tup, srcW_rl, lenOk_of (show 3 ≤ 1000000 by decide), mAppend_ref g11, lz2]
        have k11b : k11 ≤ k7 := by omega
        refine fin (es9 ++ [(x, a' + k11, a' + k7)]) _ _ _ ?_ (by simp; omega) ?_ ?_ ?_ ?_ (D11.setB (by omega) hb) ((f9.trans (f10.trans f11)).setN (Nat.le_refl _))
        · rw [List.map_append]; exact get_set g11
        · intro e' he'
          rcases List.mem_append.mp he' with h | h
          · exact ok9 e' h
          · rw [List.mem_singleton.mp h]; exact ent k11 k110 k11b
        · refine nc_add nc9 (fun e' he' hx => ?_) (by show a' + k11 ≤ a' + k7; omega)
          rcases up9 e' he' hx with h | h
          · exact .inl (by show e'.2.2 < a' + k11; omega)
          · exact .inr h
        · intro e' he' hx
          rcases List.mem_append.mp he' with h | h
          · exact up9 e' h hx
          · rw [List.mem_singleton.mp h]; exact .inr rfl
        · intro e' he'
          rcases List.mem_append.mp he' with h | h
          · exact nm9 e' h
          · rw [List.mem_singleton.mp h]; exact hxt
      · exact fin es9 _ _ _ g10 (by omega) ok9 nc9 up9 nm9 (D10.mono (by omega) Fr.refl) (f9.trans f10)
    · rintro ε S5 ⟨es', a', y6, y7, y8, rfl, ⟨gf5, le5, hok5, hnc5, D5, f5⟩, hnm5, hlt5, a0', a1', hj⟩
      rw [rngW_len] at D5 le5
      have ht : (tn : Int).toNat = tn := by omega
      rw [ht] at D5 le5
      exact ⟨es', _, _, _, _, _, rfl, ⟨gf5, by omega, hok5, hnc5, D5.mono (by omega) Fr.refl, f5⟩, hnm5, hi⟩
  · rintro ε S' ⟨es, x4, x5, x6, x7, x8, rfl, ⟨gf, le, hok, hnc, D1, f1⟩, hnm, hi⟩
    rw [List.length_map] at D1 le
    simp only [wp_ok, wp_exc, wp_ret, wp_badM, wp_lift, wp_chk, wp_alloc, wp_grd, wp_tgt, wp_noXe, wp_dVar, wp_dC, wp_aNil, wp_aCons, wp_dTup, wp_dLst, wp_dOp, wp_dUn, wp_dFn, wB_bl, wp_dChain, wp_dTru, wp_dBool, wp_dNot, wp_dAnd, wp_dOr, wp_dAndV, wp_dOrV, wp_dNotV, wp_dIfE, wp_dYes, wp_dCall, wp_dCallK, wp_dIsi, wp_dIsi2, wp_dMt, wp_oN, wI_int, wp_oS, wp_dSl, wp_dSrc, wp_dZip, wp_dRng1, wp_dRng2, wp_dEnum, wp_dLc, wpS_nx, wpS_rt, wpS_bk, wpS_ct, wpS_exc, wpS_bad, wpS_ite, wpS_dSeq, wpS_dNx, wpS_dBk, wpS_dCt, wpS_dDrop, wpS_dRet, wpS_dRetN, wpS_dIf, wpS_dSet, wpS_dAsg, wpS_dPar, wpS_dPar3, wpS_dSet2, wpS_dPut, wpS_dRaise, wpS_dFor, wp_dfn, wO_some, wO_none, wO_map, wO_bind, wO_ite, List.map_cons, List.map_nil, List.replicate_succ, List.replicate_zero, List.cons_append, List.nil_append, Nat.reduceSub, Nat.reduceAdd, List.getElem?_cons_zero, List.getElem?_cons_succ, List.set_cons_zero, List.set_cons_succ, List.length_cons, List.length_nil, tgN, tgNil, tgCons, tgTup, wipeE, isT, String.reduceBEq, Bool.and_false, Bool.false_and, Bool.true_and, Bool.and_true, Bool.or_false, Bool.false_or, Bool.true_or, Bool.or_true, Bool.not_true, Bool.not_false, if_true, if_false, true_and, and_true, Bool.false_eq_true, Bool.true_eq_false, reduceIte, opEq_int, opNe_int, opEq_str, opNe_str, opAdd_int, opSub_int, opMod_pos, opLt_int, opLe_int, opGt_int, opGe_int, opLt_str, opLe_str, opIsN_ref, opIsN_non, opIsN_int, opIsN_tup, opIsN_str, opIsN_bl, opEq_bl, opNe_bl, opFdiv_int, opMul_int, opPow_int, atI_0, atI_1, atI_2, opIx_ref, opIx_tup, opIx_rl, opLen_tup, opLen_str, opLen_rl, opMax2_int, opMin2_int, opInt_int, opInt_bl, tyN_non, tyN_bl, tyN_int, tyN_str, tyN_tup, tyN_rl, truthW_bl, srcW_tup, srcW_rl, opLen_ref gf, List.length_map, rngW_len]
    have le2 : es.length ≤ 2400 := by omega
    refine ⟨bnd_of (by omega) (by omega), lenOk_of (by omega), ?_⟩
    have hil : (es.length : Int).toNat = es.length := by omega
    rw [hil]
    refine wp_mono (wp_lcL (acc := []) (fun i acc S2 => ∃ got left : List Ent, acc = got.map eW ∧ left.length = es.length - i ∧ got.length = i ∧ (∀ e ∈ got, e ∈ es) ∧ (∀ e ∈ left, e ∈ es) ∧ S2[S.length]? = some (.lst (left.map eW)) ∧ Deck B (n + 1300 * nms.length + i) d S2 ∧ Fr B S S2 ∧ i ≤ es.length) ⟨[], es, rfl, by omega, rfl, fun e h => (by simp at h), fun e h => h, gf, D1, f1, Nat.zero_le _⟩ (fun _ _ _ _ _ => trivial) ?_) ?_ (fun _ _ q => q)
    · rintro i w acc S2 ei ⟨got, left, rfl, hl, hg, hm1, hm2, g2, D2, f2, hi2⟩
      obtain ⟨hi3, rfl⟩ := rngW_get ei
      simp only [wp_ok, wp_exc, wp_ret, wp_badM, wp_lift, wp_chk, wp_alloc, wp_grd, wp_tgt, wp_noXe, wp_dVar, wp_dC, wp_aNil, wp_aCons, wp_dTup, wp_dLst, wp_dOp, wp_dUn, wp_dFn, wB_bl, wp_dChain, wp_dTru, wp_dBool, wp_dNot, wp_dAnd, wp_dOr, wp_dAndV, wp_dOrV, wp_dNotV, wp_dIfE, wp_dYes, wp_dCall, wp_dCallK, wp_dIsi, wp_dIsi2, wp_dMt, wp_oN, wI_int, wp_oS, wp_dSl, wp_dSrc, wp_dZip, wp_dRng1, wp_dRng2, wp_dEnum, wp_dLc, wpS_nx, wpS_rt, wpS_bk, wpS_ct, wpS_exc, wpS_bad, wpS_ite, wpS_dSeq, wpS_dNx, wpS_dBk, wpS_dCt, wpS_dDrop, wpS_dRet, wpS_dRetN, wpS_dIf, wpS_dSet, wpS_dAsg, wpS_dPar, wpS_dPar3, wpS_dSet2, wpS_dPut, wpS_dRaise, wpS_dFor, wp_dfn, wO_some, wO_none, wO_map, wO_bind, wO_ite, List.map_cons, List.map_nil, List.replicate_succ, List.replicate_zero, List.cons_append, List.nil_append, Nat.reduceSub, Nat.reduceAdd, List.getElem?_cons_zero, List.getElem?_cons_succ, List.set_cons_zero, List.set_cons_succ, List.length_cons, List.length_nil, tgN, tgNil, tgCons, tgTup, wipeE, isT, String.reduceBEq, Bool.and_false, Bool.false_and, Bool.true_and, Bool.and_true, Bool.or_false, Bool.false_or, Bool.true_or, Bool.or_true, Bool.not_true, Bool.not_false, if_true, if_false, true_and, and_true, Bool.false_eq_true, Bool.true_eq_false, reduceIte, opEq_int, opNe_int, opEq_str, opNe_str, opAdd_int, opSub_int, opMod_pos, opLt_int, opLe_int, opGt_int, opGe_int, opLt_str, opLe_str, opIsN_ref, opIsN_non, opIsN_int, opIsN_tup, opIsN_str, opIsN_bl, opEq_bl, opNe_bl, opFdiv_int, opMul_int, opPow_int, atI_0, atI_1, atI_2, opIx_ref, opIx_tup, opIx_rl, opLen_tup, opLen_str, opLen_rl, opMax2_int, opMin2_int, opInt_int, opInt_bl, tyN_non, tyN_bl, tyN_int, tyN_str, tyN_tup, tyN_rl, truthW_bl, srcW_tup, srcW_rl, tyM_ref g2, opLen_ref g2, List.length_map]
      refine wp_mono (draw_spec D2 (by omega) (by omega) (by omega)) ?_ (fun _ _ q => q)
      rintro r S3 ⟨k, rfl, k0, k1, D3, f3, l3⟩
      have g3 := f3.get _ _ hb g2
      have hk : k.toNat < left.length := by omega
      have ep : mPop (.ref S.length) [.int k] S3 = some (eW left[k.toNat], S3.set S.length (.lst ((left.eraseIdx k.toNat).map eW))) := by
        rw [mPop_at (j := k.toNat) (w := eW left[k.toNat]) g3 (by omega) (by rw [List.getElem?_map, List.getElem?_eq_getElem hk]; rfl) (by rw [List.length_map]; omega), eraseIdx_mapW]
      simp only [wp_ok, wp_exc, wp_ret, wp_badM, wp_lift, wp_chk, wp_alloc, wp_grd, wp_tgt, wp_noXe, wp_dVar, wp_dC, wp_aNil, wp_aCons, wp_dTup, wp_dLst, wp_dOp, wp_dUn, wp_dFn, wB_bl, wp_dChain, wp_dTru, wp_dBool, wp_dNot, wp_dAnd, wp_dOr, wp_dAndV, wp_dOrV, wp_dNotV, wp_dIfE, wp_dYes, wp_dCall, wp_dCallK, wp_dIsi, wp_dIsi2, wp_dMt, wp_oN, wI_int, wp_oS, wp_dSl, wp_dSrc, wp_dZip, wp_dRng1, wp_dRng2, wp_dEnum, wp_dLc, wpS_nx, wpS_rt, wpS_bk, wpS_ct, wpS_exc, wpS_bad, wpS_ite, wpS_dSeq, wpS_dNx, wpS_dBk, wpS_dCt, wpS_dDrop, wpS_dRet, wpS_dRetN, wpS_dIf, wpS_dSet, wpS_dAsg, wpS_dPar, wpS_dPar3, wpS_dSet2, wpS_dPut, wpS_dRaise, wpS_dFor, wp_dfn, wO_some, wO_none, wO_map, wO_bind, wO_ite, List.map_cons, List.map_nil, List.replicate_succ, List.replicate_zero, List.cons_append, List.nil_append, Nat.reduceSub, Nat.reduceAdd, List.getElem?_cons_zero, List.getElem?_cons_succ, List.set_cons_zero, List.set_cons_succ, List.length_cons, List.length_nil, tgN, tgNil, tgCons, tgTup, wipeE, isT, String.reduceBEq, Bool.and_false, Bool.false_and, Bool.true_and, Bool.and_true, Bool.or_false, Bool.false_or, Bool.true_or, Bool.or_true, Bool.not_true, Bool.not_false, if_true, if_false, true_and, and_true, Bool.false_eq_true, Bool.true_eq_false, reduceIte, opEq_int, opNe_int, opEq_str, opNe_str, opAdd_int, opSub_int, opMod_pos, opLt_int, opLe_int, opGt_int, opGe_int, opLt_str, opLe_str, opIsN_ref, opIsN_non, opIsN_int, opIsN_tup, opIsN_str, opIsN_bl, opEq_bl, opNe_bl, opFdiv_int, opMul_int, opPow_int, atI_0, atI_1, atI_2, opIx_ref, opIx_tup, opIx_rl, opLen_tup, opLen_str, opLen_rl, opMax2_int, opMin2_int, opInt_int, opInt_bl, tyN_non, tyN_bl, tyN_int, tyN_str, tyN_tup, tyN_rl, truthW_bl, srcW_tup, srcW_rl, ep]
      refine ⟨got ++ [left[k.toNat]], left.eraseIdx k.toNat, by simp, ?_, by simp [hg], fun e he => ?_, fun e he => hm2 e (List.mem_of_mem_eraseIdx he), get_set g3, D3.setB (by omega) hb, (f2.trans f3).setN (Nat.le_refl _), by omega⟩
      · rw [List.length_eraseIdx_of_lt hk, hl]; omega
      · rcases List.mem_append.mp he with h | h
        · exact hm1 e h
        · rw [List.mem_singleton.mp h]; exact hm2 _ (List.getElem_mem hk)
    · rintro ws S2 ⟨got, left, e0, hl, hg, hm1, hm2, g2, D2, f2, hi2⟩
      simp only [List.nil_append] at e0
      subst e0
      rw [rngW_len] at D2 hg
      have gg : (S2 ++ [O.lst (got.map eW)])[S2.length]? = some (.lst (got.map eW)) := get_new
      have ct : cutL (got.map eW) none (some (most : Int)) = (got.take most).map eW := by
        unfold cutL
        rw [HT.sIx_none, HT.sIx_nat, List.drop_zero, Nat.sub_zero, ← List.take_eq_take_min, List.map_take]
      simp only [wp_ok, wp_exc, wp_ret, wp_badM, wp_lift, wp_chk, wp_alloc, wp_grd, wp_tgt, wp_noXe, wp_dVar, wp_dC, wp_aNil, wp_aCons, wp_dTup, wp_dLst, wp_dOp, wp_dUn, wp_dFn, wB_bl, wp_dChain, wp_dTru, wp_dBool, wp_dNot, wp_dAnd, wp_dOr, wp_dAndV, wp_dOrV, wp_dNotV, wp_dIfE, wp_dYes, wp_dCall, wp_dCallK, wp_dIsi, wp_dIsi2, wp_dMt, wp_oN, wI_int, wp_oS, wp_dSl, wp_dSrc, wp_dZip, wp_dRng1, wp_dRng2, wp_dEnum, wp_dLc, wpS_nx, wpS_rt, wpS_bk, wpS_ct, wpS_exc, wpS_bad, wpS_ite, wpS_dSeq, wpS_dNx, wpS_dBk, wpS_dCt, wpS_dDrop, wpS_dRet, wpS_dRetN, wpS_dIf, wpS_dSet, wpS_dAsg, wpS_dPar, wpS_dPar3, wpS_dSet2, wpS_dPut, wpS_dRaise, wpS_dFor, wp_dfn, wO_some, wO_none, wO_map, wO_bind, wO_ite, List.map_cons, List.map_nil, List.replicate_succ, List.replicate_zero, List.cons_append, List.nil_append, Nat.reduceSub, Nat.reduceAdd, List.getElem?_cons_zero, List.getElem?_cons_succ, List.set_cons_zero, List.set_cons_succ, List.length_cons, List.length_nil, tgN, tgNil, tgCons, tgTup, wipeE, isT, String.reduceBEq, Bool.and_false, Bool.false_and, Bool.true_and, Bool.and_true, Bool.or_false, Bool.false_or, Bool.true_or, Bool.or_true, Bool.not_true, Bool.not_false, if_true, if_false, true_and, and_true, Bool.false_eq_true, Bool.true_eq_false, reduceIte, opEq_int, opNe_int, opEq_str, opNe_str, opAdd_int, opSub_int, opMod_pos, opLt_int, opLe_int, opGt_int, opGe_int, opLt_str, opLe_str, opIsN_ref, opIsN_non, opIsN_int, opIsN_tup, opIsN_str, opIsN_bl, opEq_bl, opNe_bl, opFdiv_int, opMul_int, opPow_int, atI_0, atI_1, atI_2, opIx_ref, opIx_tup, opIx_rl, opLen_tup, opLen_str, opLen_rl, opMax2_int, opMin2_int, opInt_int, opInt_bl, tyN_non, tyN_bl, tyN_int, tyN_str, tyN_tup, tyN_rl, truthW_bl, srcW_tup, srcW_rl, opSl_ref gg, ct]
      have sub : ∀ e ∈ got.take most, e ∈ es := fun e he => hm1 e (List.mem_of_mem_take he)
      refine ⟨_, got.take most, rfl, ?_, get_new, by rw [List.length_take]; omega, fun e he => hok e (sub e he), fun a ha b hb => hnc a (sub a ha) b (sub b hb), (D2.mono (by omega) Fr.app.snoc), f2.trans Fr.app.snoc⟩
      have := D2.bl
      simp; omega
theorem law_letters_spec {m2 : Nat} {P : Str → Prop} (D : Deck B n d S) (hn : n < 2 ^ 90) (g : S[q]? = some (.lst (nms.map W.str))) (hq : B ≤ q) (hlen : nms.length ≤ 6) (hm : m2 ≤ 200) (hP : ∀ x ∈ nms, P x) (hp : P "+") :
    wp (n_law_letters [.ref d, .ref q, .int m2] S) (fun r S' => ∃ (r0 : Nat) (xs : List Str), r = .ref r0 ∧ B ≤ r0 ∧ S'[r0]? = some (.lst (xs.map W.str)) ∧ xs.length ≤ m2 ∧ (∀ x ∈ xs, P x) ∧ Deck B (n + 300) d S' ∧ Fr B S S') E := by
  have hb := D.bl
  unfold n_law_letters d_law_letters
  have ga := opAdd_ref (S := S ++ [O.lst [W.str "+", W.str "+"]]) (n := q) (m := S.length) (a := nms.map W.str) (b := [W.str "+", W.str "+"]) (Fr.app.g0 g) get_new (by simp; omega)
  simp only [wp_ok, wp_exc, wp_ret, wp_badM, wp_lift, wp_chk, wp_alloc, wp_grd, wp_tgt, wp_noXe, wp_dVar, wp_dC, wp_aNil, wp_aCons, wp_dTup, wp_dLst, wp_dOp, wp_dUn, wp_dFn, wB_bl, wp_dChain, wp_dTru, wp_dBool, wp_dNot, wp_dAnd, wp_dOr, wp_dAndV, wp_dOrV, wp_dNotV, wp_dIfE, wp_dYes, wp_dCall, wp_dCallK, wp_dIsi, wp_dIsi2, wp_dMt, wp_oN, wI_int, wp_oS, wp_dSl, wp_dSrc, wp_dZip, wp_dRng1, wp_dRng2, wp_dEnum, wp_dLc, wpS_nx, wpS_rt, wpS_bk, wpS_ct, wpS_exc, wpS_bad, wpS_ite, wpS_dSeq, wpS_dNx, wpS_dBk, wpS_dCt, wpS_dDrop, wpS_dRet, wpS_dRetN, wpS_dIf, wpS_dSet, wpS_dAsg, wpS_dPar, wpS_dPar3, wpS_dSet2, wpS_dPut, wpS_dRaise, wpS_dFor, wp_dfn, wO_some, wO_none, wO_map, wO_bind, wO_ite, List.map_cons, List.map_nil, List.replicate_succ, List.replicate_zero, List.cons_append, List.nil_append, Nat.reduceSub, Nat.reduceAdd, List.getElem?_cons_zero, List.getElem?_cons_succ, List.set_cons_zero, List.set_cons_succ, List.length_cons, List.length_nil, tgN, tgNil, tgCons, tgTup, wipeE, isT, String.reduceBEq, Bool.and_false, Bool.false_and, Bool.true_and, Bool.and_true, Bool.or_false, Bool.false_or, Bool.true_or, Bool.or_true, Bool.not_true, Bool.not_false, if_true, if_false, true_and, and_true, Bool.false_eq_true, Bool.true_eq_false, reduceIte, opEq_int, opNe_int, opEq_str, opNe_str, opAdd_int, opSub_int, opMod_pos, opLt_int, opLe_int, opGt_int, opGe_int, opLt_str, opLe_str, opIsN_ref, opIsN_non, opIsN_int, opIsN_tup, opIsN_str, opIsN_bl, opEq_bl, opNe_bl, opFdiv_int, opMul_int, opPow_int, atI_0, atI_1, atI_2, opIx_ref, opIx_tup, opIx_rl, opLen_tup, opLen_str, opLen_rl, opMax2_int, opMin2_int, opInt_int, opInt_bl, tyN_non, tyN_bl, tyN_int, tyN_str, tyN_tup, tyN_rl, truthW_bl, srcW_tup, srcW_rl, lenOk_of (show 2 ≤ 1000000 by decide), ga]
  have gm : (S ++ [O.lst [W.str "+", W.str "+"]] ++ [O.lst (nms.map W.str ++ [W.str "+", W.str "+"])])[(S ++ [O.lst [W.str "+", W.str "+"]]).length]? = some (.lst (nms.map W.str ++ [W.str "+", W.str "+"])) := get_new
  have bm : B ≤ (S ++ [O.lst [W.str "+", W.str "+"]]).length := by simp; omega
  have f0 : Fr B S (S ++ [O.lst [W.str "+", W.str "+"]] ++ [O.lst (nms.map W.str ++ [W.str "+", W.str "+"])]) := Fr.app.snoc
  have D0 := D.mono (Nat.le_refl _) ((Fr.app (B := 0) (S := S) (T := [O.lst [W.str "+", W.str "+"]])).snoc (T := [O.lst (nms.map W.str ++ [W.str "+", W.str "+"])]))
  generalize (S ++ [O.lst [W.str "+", W.str "+"]]).length = mq at gm bm ⊢
  generalize S ++ [O.lst [W.str "+", W.str "+"]] ++ [O.lst (nms.map W.str ++ [W.str "+", W.str "+"])] = T at gm f0 D0 ⊢
  refine wp_mono (draw_spec D0 (by omega) (by omega) (by omega)) ?_ (fun _ _ q => q)
  rintro r S1 ⟨k, rfl, k0, k1, D1, f1, l1⟩
  simp only [wp_ok, wp_exc, wp_ret, wp_badM, wp_lift, wp_chk, wp_alloc, wp_grd, wp_tgt, wp_noXe, wp_dVar, wp_dC, wp_aNil, wp_aCons, wp_dTup, wp_dLst, wp_dOp, wp_dUn, wp_dFn, wB_bl, wp_dChain, wp_dTru, wp_dBool, wp_dNot, wp_dAnd, wp_dOr, wp_dAndV, wp_dOrV, wp_dNotV, wp_dIfE, wp_dYes, wp_dCall, wp_dCallK, wp_dIsi, wp_dIsi2, wp_dMt, wp_oN, wI_int, wp_oS, wp_dSl, wp_dSrc, wp_dZip, wp_dRng1, wp_dRng2, wp_dEnum, wp_dLc, wpS_nx, wpS_rt, wpS_bk, wpS_ct, wpS_exc, wpS_bad, wpS_ite, wpS_dSeq, wpS_dNx, wpS_dBk, wpS_dCt, wpS_dDrop, wpS_dRet, wpS_dRetN, wpS_dIf, wpS_dSet, wpS_dAsg, wpS_dPar, wpS_dPar3, wpS_dSet2, wpS_dPut, wpS_dRaise, wpS_dFor, wp_dfn, wO_some, wO_none, wO_map, wO_bind, wO_ite, List.map_cons, List.map_nil, List.replicate_succ, List.replicate_zero, List.cons_append, List.nil_append, Nat.reduceSub, Nat.reduceAdd, List.getElem?_cons_zero, List.getElem?_cons_succ, List.set_cons_zero, List.set_cons_succ, List.length_cons, List.length_nil, tgN, tgNil, tgCons, tgTup, wipeE, isT, String.reduceBEq, Bool.and_false, Bool.false_and, Bool.true_and, Bool.and_true, Bool.or_false, Bool.false_or, Bool.true_or, Bool.or_true, Bool.not_true, Bool.not_false, if_true, if_false, true_and, and_true, Bool.false_eq_true, Bool.true_eq_false, reduceIte, opEq_int, opNe_int, opEq_str, opNe_str, opAdd_int, opSub_int, opMod_pos, opLt_int, opLe_int, opGt_int, opGe_int, opLt_str, opLe_str, opIsN_ref, opIsN_non, opIsN_int, opIsN_tup, opIsN_str, opIsN_bl, opEq_bl, opNe_bl, opFdiv_int, opMul_int, opPow_int, atI_0, atI_1, atI_2, opIx_ref, opIx_tup, opIx_rl, opLen_tup, opLen_str, opLen_rl, opMax2_int, opMin2_int, opInt_int, opInt_bl, tyN_non, tyN_bl, tyN_int, tyN_str, tyN_tup, tyN_rl, truthW_bl, srcW_tup, srcW_rl, rngW_len]
  refine ⟨bnd_of (by omega) (by omega), lenOk_of (by omega), ?_⟩
  refine wp_mono (wp_lcL (acc := []) (fun i acc S2 => ∃ xs : List Str, acc = xs.map W.str ∧ xs.length = i ∧ (∀ x ∈ xs, P x) ∧ Deck B (n + 1 + i) d S2 ∧ Fr B T S2) ⟨[], rfl, rfl, fun x h => (by simp at h), D1, f1⟩ (fun _ _ _ _ _ => trivial) ?_) ?_ (fun _ _ q => q)
  · rintro i w acc S2 ei ⟨xs, rfl, hl, hx, D2, f2⟩
    obtain ⟨hi, rfl⟩ := rngW_get ei
    have g2 := f2.get _ _ bm gm
    have ln : (nms.map W.str ++ [W.str "+", W.str "+"]).length = nms.length + 2 := by simp
    simp only [wp_ok, wp_exc, wp_ret, wp_badM, wp_lift, wp_chk, wp_alloc, wp_grd, wp_tgt, wp_noXe, wp_dVar, wp_dC, wp_aNil, wp_aCons, wp_dTup, wp_dLst, wp_dOp, wp_dUn, wp_dFn, wB_bl, wp_dChain, wp_dTru, wp_dBool, wp_dNot, wp_dAnd, wp_dOr, wp_dAndV, wp_dOrV, wp_dNotV, wp_dIfE, wp_dYes, wp_dCall, wp_dCallK, wp_dIsi, wp_dIsi2, wp_dMt, wp_oN, wI_int, wp_oS, wp_dSl, wp_dSrc, wp_dZip, wp_dRng1, wp_dRng2, wp_dEnum, wp_dLc, wpS_nx, wpS_rt, wpS_bk, wpS_ct, wpS_exc, wpS_bad, wpS_ite, wpS_dSeq, wpS_dNx, wpS_dBk, wpS_dCt, wpS_dDrop, wpS_dRet, wpS_dRetN, wpS_dIf, wpS_dSet, wpS_dAsg, wpS_dPar, wpS_dPar3, wpS_dSet2, wpS_dPut, wpS_dRaise, wpS_dFor, wp_dfn, wO_some, wO_none, wO_map, wO_bind, wO_ite, List.map_cons, List.map_nil, List.replicate_succ, List.replicate_zero, List.cons_append, List.nil_append, Nat.reduceSub, Nat.reduceAdd, List.getElem?_cons_zero, List.getElem?_cons_succ, List.set_cons_zero, List.set_cons_succ, List.length_cons, List.length_nil, tgN, tgNil, tgCons, tgTup, wipeE, isT, String.reduceBEq, Bool.and_false, Bool.false_and, Bool.true_and, Bool.and_true, Bool.or_false, Bool.false_or, Bool.true_or, Bool.or_true, Bool.not_true, Bool.not_false, if_true, if_false, true_and, and_true, Bool.false_eq_true, Bool.true_eq_false, reduceIte, opEq_int, opNe_int, opEq_str, opNe_str, opAdd_int, opSub_int, opMod_pos, opLt_int, opLe_int, opGt_int, opGe_int, opLt_str, opLe_str, opIsN_ref, opIsN_non, opIsN_int, opIsN_tup, opIsN_str, opIsN_bl, opEq_bl, opNe_bl, opFdiv_int, opMul_int, opPow_int, atI_0, atI_1, atI_2, opIx_ref, opIx_tup, opIx_rl, opLen_tup, opLen_str, opLen_rl, opMax2_int, opMin2_int, opInt_int, opInt_bl, tyN_non, tyN_bl, tyN_int, tyN_str, tyN_tup, tyN_rl, truthW_bl, srcW_tup, srcW_rl, opLen_ref g2, ln]
    refine wp_mono (draw_spec D2 (by omega) (by omega) (by omega)) ?_ (fun _ _ q => q)
    rintro r S3 ⟨c, rfl, c0, c1, D3, f3, l3⟩
    have pk : ∃ x, (nms.map W.str ++ [W.str "+", W.str "+"])[c.toNat]? = some (.str x) ∧ P x := by
      by_cases h : c.toNat < nms.length
      · exact ⟨nms[c.toNat], by rw [List.getElem?_append_left (by simpa using h), List.getElem?_map, List.getElem?_eq_getElem h]; rfl, hP _ (List.getElem_mem h)⟩
      · refine ⟨"+", ?_, hp⟩
        rw [List.getElem?_append_right (by simp; omega), List.length_map]
        rcases (show c.toNat - nms.length = 0 ∨ c.toNat - nms.length = 1 by omega) with z | z <;> rw [z] <;> rfl
    obtain ⟨x, hx2, px⟩ := pk
    simp only [wp_ok, wp_exc, wp_ret, wp_badM, wp_lift, wp_chk, wp_alloc, wp_grd, wp_tgt, wp_noXe, wp_dVar, wp_dC, wp_aNil, wp_aCons, wp_dTup, wp_dLst, wp_dOp, wp_dUn, wp_dFn, wB_bl, wp_dChain, wp_dTru, wp_dBool, wp_dNot, wp_dAnd, wp_dOr, wp_dAndV, wp_dOrV, wp_dNotV, wp_dIfE, wp_dYes, wp_dCall, wp_dCallK, wp_dIsi, wp_dIsi2, wp_dMt, wp_oN, wI_int, wp_oS, wp_dSl, wp_dSrc, wp_dZip, wp_dRng1, wp_dRng2, wp_dEnum, wp_dLc, wpS_nx, wpS_rt, wpS_bk, wpS_ct, wpS_exc, wpS_bad, wpS_ite, wpS_dSeq, wpS_dNx, wpS_dBk, wpS_dCt, wpS_dDrop, wpS_dRet, wpS_dRetN, wpS_dIf, wpS_dSet, wpS_dAsg, wpS_dPar, wpS_dPar3, wpS_dSet2, wpS_dPut, wpS_dRaise, wpS_dFor, wp_dfn, wO_some, wO_none, wO_map, wO_bind, wO_ite, List.map_cons, List.map_nil, List.replicate_succ, List.replicate_zero, List.cons_append, List.nil_append, Nat.reduceSub, Nat.reduceAdd, List.getElem?_cons_zero, List.getElem?_cons_succ, List.set_cons_zero, List.set_cons_succ, List.length_cons, List.length_nil, tgN, tgNil, tgCons, tgTup, wipeE, isT, String.reduceBEq, Bool.and_false, Bool.false_and, Bool.true_and, Bool.and_true, Bool.or_false, Bool.false_or, Bool.true_or, Bool.or_true, Bool.not_true, Bool.not_false, if_true, if_false, true_and, and_true, Bool.false_eq_true, Bool.true_eq_false, reduceIte, opEq_int, opNe_int, opEq_str, opNe_str, opAdd_int, opSub_int, opMod_pos, opLt_int, opLe_int, opGt_int, opGe_int, opLt_str, opLe_str, opIsN_ref, opIsN_non, opIsN_int, opIsN_tup, opIsN_str, opIsN_bl, opEq_bl, opNe_bl, opFdiv_int, opMul_int, opPow_int, atI_0, atI_1, atI_2, opIx_ref, opIx_tup, opIx_rl, opLen_tup, opLen_str, opLen_rl, opMax2_int, opMin2_int, opInt_int, opInt_bl, tyN_non, tyN_bl, tyN_int, tyN_str, tyN_tup, tyN_rl, truthW_bl, srcW_tup, srcW_rl, lstAt_of (f3.get _ _ bm g2), atI_nn c0, hx2]
    refine ⟨xs ++ [x], by simp, by simp [hl], fun y hy => ?_, D3, f2.trans f3⟩
    rcases List.mem_append.mp hy with h | h
    · exact hx y h
    · rw [List.mem_singleton.mp h]; exact px
  · rintro ws S2 ⟨xs, e, hl, hx, D2, f2⟩
    simp only [List.nil_append] at e
    subst e
    rw [rngW_len] at hl D2
    exact ⟨S2.length, xs, rfl, D2.bl, get_new, by omega, hx, D2.mono (by omega) Fr.app, f0.trans f2.snoc⟩
end
def six : List Str := ["ny", "a", "ldn", "b", "tokyo", "zzzzzzzz"]
theorem six_ok : ∀ x ∈ six, Let x ∧ Name x := by
  intro x hx
  simp only [six, List.mem_cons, List.mem_nil_iff, or_false] at hx
  have key : ∀ x, Name x → okS x = true → x.cps.size ≤ 8 → Let x ∧ Name x := fun x a b c => ⟨⟨.inl a, b, c⟩, a⟩
  rcases hx with rfl | rfl | rfl | rfl | rfl | rfl <;> exact key _ ⟨by decide, by decide⟩ (by decide) (by decide)
def entD (e : Ent) : PyData := .tuple [.str e.1, .int e.2.1, .int e.2.2]
theorem toD_ents {S : Store} {q : Nat} {es : List Ent} (g : S[q]? = some (.lst (es.map eW))) : toD S deep (.ref q) = some (.list (es.map entD)) := by
  rw [toD_lst g, mapO_map (g := entD) fun e _ => ?_]
  · rfl
  · rfl
theorem repr_spec {q : Nat} {es : List Ent} {S : Store} (g : S[q]? = some (.lst (es.map eW))) (hl : es.length ≤ 200) (hok : ∀ e ∈ es, LongE six e) : opRepr [.ref q] S = some (.str (PyData.list (es.map entD)).shown, S) := by
  refine opRepr_tiny (toD_ents g) ?_ ?_
  · simp only [tiny]
    refine tinyAll_map fun e he => ?_
    have ok := hok e he
    have pt30 : (10 : Int) ^ 30 = 1000000000000000000000000000000 := by decide +kernel
    have pt31 : (10 : Int) ^ 31 = 10000000000000000000000000000000 := by decide +kernel
    have b1 := ok.le
    have b2 := ok.lo
    have b3 := ok.hi
    rw [pt30] at b2
    rw [pt31] at b3
    have big : 10000000000000000000000000000000 < 10 ^ 60 := by decide +kernel
    simp only [entD, tiny, tinyAll, Bool.and_true]
    have h1 := str_tiny (six_ok _ ok.nm).1.ok
    have h2 := int_tiny (i := e.2.1) (Nat.lt_of_le_of_lt (by omega) big)
    have h3 := int_tiny (i := e.2.2) (Nat.lt_of_le_of_lt (by omega) big)
    simp only [tiny] at h1 h2 h3
    rw [h1, h2, h3]
    rfl
  · simp only [PyData.bulk]
    refine Nat.le_trans (bulkAll_map (c := 12) fun e he => ?_) (by omega)
    have ok := (six_ok _ (hok e he).nm).1.sz
    simp only [entD, PyData.bulk, PyData.bulkAll]
    omega
theorem twin_found {S : Store} {es : List Ent} : Twin S 6 (found es) (found es) := by
  have key : ∀ w : W, (w = .non ∨ ∃ i j : Nat, w = .tup [.int i, .int j]) → Twin S 6 w w := by
    rintro w (rfl | ⟨i, j, rfl⟩)
    · exact .inl ⟨rfl, rfl⟩
    · refine .inr (.inr (.inr (.inr (.inl ⟨_, _, rfl, rfl, rfl, by simp, fun k x y e1 e2 => ?_⟩))))
      rw [e1] at e2
      cases e2
      match k, e1 with
      | 0, e1 => cases e1; exact .inr (.inr (.inl ⟨_, rfl, rfl⟩))
      | 1, e1 => cases e1; exact .inr (.inr (.inl ⟨_, rfl, rfl⟩))
  refine key _ ?_
  unfold found
  cases z : fstN (fun two => fstN (pair es two) two) es.length with
  | none => exact .inl rfl
  | some v =>
    obtain ⟨i, _, e⟩ := fstN_mem z
    obtain ⟨j, _, e⟩ := fstN_mem e
    unfold pair at e
    split at e
    · split at e
      · cases e; exact .inr ⟨_, _, rfl⟩
      · cases e
    · cases e
theorem twin_range {S : Store} {l : Int} {g : Option Int} : Twin S 8 (.tup [.int l, optW g]) (.tup [.int l, optW g]) := by
  refine .inr (.inr (.inr (.inr (.inl ⟨_, _, rfl, rfl, rfl, by simp, fun k x y e1 e2 => ?_⟩))))
  rw [e1] at e2
  cases e2
  match k, e1 with
  | 0, e1 => cases e1; exact .inr (.inr (.inl ⟨_, rfl, rfl⟩))
  | 1, e1 =>
    cases e1
    cases g with
    | none => exact .inl ⟨rfl, rfl⟩
    | some i => exact .inr (.inr (.inl ⟨_, rfl, rfl⟩))
theorem opNe_entsNil {q m : Nat} {es : List Ent} {S : Store} (h1 : S[q]? = some (.lst (es.map eW))) (h2 : S[m]? = some (.lst [])) : opNe (.ref q) (.ref m) S = some (.bl (!es.isEmpty), S) := by
  unfold opNe
  rw [toD_ents h1, toD_lst h2]
  show some (W.bl (!PyData.eqv _ _), S) = _
  rw [eqv_nil]
theorem LongE.good {nms : List Str} {e : Ent} (h : LongE nms e) : (∀ x ∈ nms, x ∈ six) → GoodE e := fun s => ⟨(six_ok _ (s _ h.nm)).2, h.le⟩
def LInv (B d : Nat) (s : W) (i : Nat) (ε : Ev) (S' : Store) : Prop := ∃ x2 x3 x4 x5 x6 x7 x8 x9 x10 x11 x12 x13 : Option W, ε = [some s, some (.ref d), x2, x3, x4, x5, x6, x7, x8, x9, x10, x11, x12, x13] ∧ Deck B (2000 + 30000 * i) d S'
theorem law_true (ns : List Int) (h : ns.length ≤ 63) (h2 : ∀ n ∈ ns, Builtin.Int.intBits n ≤ 1048576) : wp (n_law [.rl (ns.map W.int)] []) (fun r _ => r = .bl true) (fun _ _ => False) := by
  unfold n_law d_law
  simp only [wp_dfn, List.map_cons, List.map_nil, List.replicate_succ, List.replicate_zero, List.cons_append, List.nil_append, Nat.reduceSub, Nat.reduceAdd, List.getElem?_cons_zero, List.getElem?_cons_succ, List.set_cons_zero, List.set_cons_succ, List.length_cons, List.length_nil, tgN, tgNil, tgCons, tgTup, wipeE, isT, String.reduceBEq, Bool.and_false, Bool.false_and, Bool.true_and, Bool.and_true, Bool.or_false, Bool.false_or, Bool.true_or, Bool.or_true, Bool.not_true, Bool.not_false, if_true, if_false, true_and, and_true, Bool.false_eq_true, Bool.true_eq_false, reduceIte]
  rw [wpS_dSeq, wpS_dSet]
  simp only [wp_dCall, wp_aCons, wp_aNil, wp_dVar, List.map_cons, List.map_nil, List.replicate_succ, List.replicate_zero, List.cons_append, List.nil_append, Nat.reduceSub, Nat.reduceAdd, List.getElem?_cons_zero, List.getElem?_cons_succ, List.set_cons_zero, List.set_cons_succ, List.length_cons, List.length_nil, tgN, tgNil, tgCons, tgTup, wipeE, isT, String.reduceBEq, Bool.and_false, Bool.false_and, Bool.true_and, Bool.and_true, Bool.or_false, Bool.false_or, Bool.true_or, Bool.or_true, Bool.not_true, Bool.not_false, if_true, if_false, true_and, and_true, Bool.false_eq_true, Bool.true_eq_false, reduceIte, wO_some]
  refine wp_mono (deck_spec h) ?_ (fun _ _ q => q)
  rintro r S1 ⟨d, rfl, D1, _⟩
  have hB := D1.bl
  generalize S1.length = B at D1
  rw [wpS_dSeq, wpS_dFor]
  simp only [wp_ok, wp_exc, wp_ret, wp_badM, wp_lift, wp_chk, wp_alloc, wp_grd, wp_tgt, wp_noXe, wp_dVar, wp_dC, wp_aNil, wp_aCons, wp_dTup, wp_dLst, wp_dOp, wp_dUn, wp_dFn, wB_bl, wp_dChain, wp_dTru, wp_dBool, wp_dNot, wp_dAnd, wp_dOr, wp_dAndV, wp_dOrV, wp_dNotV, wp_dIfE, wp_dYes, wp_dCall, wp_dCallK, wp_dIsi, wp_dIsi2, wp_dMt, wp_oN, wI_int, wp_oS, wp_dSl, wp_dSrc, wp_dZip, wp_dRng1, wp_dRng2, wp_dEnum, wp_dLc, wpS_nx, wpS_rt, wpS_bk, wpS_ct, wpS_exc, wpS_bad, wpS_ite, wpS_dSeq, wpS_dNx, wpS_dBk, wpS_dCt, wpS_dDrop, wpS_dRet, wpS_dRetN, wpS_dIf, wpS_dSet, wpS_dAsg, wpS_dPar, wpS_dPar3, wpS_dSet2, wpS_dPut, wpS_dRaise, wpS_dFor, wp_dfn, wO_some, wO_none, wO_map, wO_bind, wO_ite, List.map_cons, List.map_nil, List.replicate_succ, List.replicate_zero, List.cons_append, List.nil_append, Nat.reduceSub, Nat.reduceAdd, List.getElem?_cons_zero, List.getElem?_cons_succ, List.set_cons_zero, List.set_cons_succ, List.length_cons, List.length_nil, tgN, tgNil, tgCons, tgTup, wipeE, isT, String.reduceBEq, Bool.and_false, Bool.false_and, Bool.true_and, Bool.and_true, Bool.or_false, Bool.false_or, Bool.true_or, Bool.or_true, Bool.not_true, Bool.not_false, if_true, if_false, true_and, and_true, Bool.false_eq_true, Bool.true_eq_false, reduceIte, opEq_int, opNe_int, opEq_str, opNe_str, opAdd_int, opSub_int, opMod_pos, opLt_int, opLe_int, opGt_int, opGe_int, opLt_str, opLe_str, opIsN_ref, opIsN_non, opIsN_int, opIsN_tup, opIsN_str, opIsN_bl, opEq_bl, opNe_bl, opFdiv_int, opMul_int, opPow_int, atI_0, atI_1, atI_2, opIx_ref, opIx_tup, opIx_rl, opLen_tup, opLen_str, opLen_rl, opMax2_int, opMin2_int, opInt_int, opInt_bl, tyN_non, tyN_bl, tyN_int, tyN_str, tyN_tup, tyN_rl, truthW_bl, srcW_tup, srcW_rl, List.length_map]
  obtain ⟨m, hm, hm0, hm1⟩ : ∃ m : Nat, (if (if (ns.length : Int) < 8 then (ns.length : Int) else 8) > 1 then (if (ns.length : Int) < 8 then (ns.length : Int) else 8) else 1) = (m : Int) ∧ 0 < m ∧ m ≤ 8 := by
    refine ⟨if ns.length ≤ 1 then 1 else if ns.length < 8 then ns.length else 8, ?_, ?_, ?_⟩
    · split <;> split <;> (try split) <;> (try split) <;> omega
    · split <;> (try split) <;> omega
    · split <;> (try split) <;> omega
  rw [hm]
  refine ⟨bnd_of (by omega) (by omega), ?_⟩
  refine wpS_forL (LInv B d (.rl (ns.map W.int))) ⟨_, _, _, _, _, _, _, _, _, _, _, _, rfl, D1⟩ (fun _ _ _ _ _ => trivial) ?_ ?_
  · rintro i x ε S e ⟨x2, x3, x4, x5, x6, x7, x8, x9, x10, x11, x12, x13, rfl, D⟩
    obtain ⟨hi, rfl⟩ := rngW_get e
    have hi : i < m := by simpa using hi
    simp only [List.map_cons, List.map_nil, List.replicate_succ, List.replicate_zero, List.cons_append, List.nil_append, Nat.reduceSub, Nat.reduceAdd, List.getElem?_cons_zero, List.getElem?_cons_succ, List.set_cons_zero, List.set_cons_succ, List.length_cons, List.length_nil, tgN, tgNil, tgCons, tgTup, wipeE, isT, String.reduceBEq, Bool.and_false, Bool.false_and, Bool.true_and, Bool.and_true, Bool.or_false, Bool.false_or, Bool.true_or, Bool.or_true, Bool.not_true, Bool.not_false, if_true, if_false, true_and, and_true, Bool.false_eq_true, Bool.true_eq_false, reduceIte, wO_some]
    have b0 := D.bl
    rw [wpS_dSeq]
    refine wpS_join' (fun ε' S' => ∃ (qn mn : Nat), ε' = [some (.rl (ns.map W.int)), some (.ref d), some (.int (0 + i)), some (.ref qn), x4, x5, x6, x7, x8, x9, x10, x11, x12, x13] ∧ B ≤ qn ∧ 1 ≤ mn ∧ mn ≤ 6 ∧ S'[qn]? = some (.lst ((six.take mn).map W.str)) ∧ Deck B (2000 + 30000 * i + 1) d S') ?_ ?_
    · simp only [wp_ok, wp_exc, wp_ret, wp_badM, wp_lift, wp_chk, wp_alloc, wp_grd, wp_tgt, wp_noXe, wp_dVar, wp_dC, wp_aNil, wp_aCons, wp_dTup, wp_dLst, wp_dOp, wp_dUn, wp_dFn, wB_bl, wp_dChain, wp_dTru, wp_dBool, wp_dNot, wp_dAnd, wp_dOr, wp_dAndV, wp_dOrV, wp_dNotV, wp_dIfE, wp_dYes, wp_dCall, wp_dCallK, wp_dIsi, wp_dIsi2, wp_dMt, wp_oN, wI_int, wp_oS, wp_dSl, wp_dSrc, wp_dZip, wp_dRng1, wp_dRng2, wp_dEnum, wp_dLc, wpS_nx, wpS_rt, wpS_bk, wpS_ct, wpS_exc, wpS_bad, wpS_ite, wpS_dSeq, wpS_dNx, wpS_dBk, wpS_dCt, wpS_dDrop, wpS_dRet, wpS_dRetN, wpS_dIf, wpS_dSet, wpS_dAsg, wpS_dPar, wpS_dPar3, wpS_dSet2, wpS_dPut, wpS_dRaise, wpS_dFor, wp_dfn, wO_some, wO_none, wO_map, wO_bind, wO_ite, List.map_cons, List.map_nil, List.replicate_succ, List.replicate_zero, List.cons_append, List.nil_append, Nat.reduceSub, Nat.reduceAdd, List.getElem?_cons_zero, List.getElem?_cons_succ, List.set_cons_zero, List.set_cons_succ, List.length_cons, List.length_nil, tgN, tgNil, tgCons, tgTup, wipeE, isT, String.reduceBEq, Bool.and_false, Bool.false_and, Bool.true_and, Bool.and_true, Bool.or_false, Bool.false_or, Bool.true_or, Bool.or_true, Bool.not_true, Bool.not_false, if_true, if_false, true_and, and_true, Bool.false_eq_true, Bool.true_eq_false, reduceIte, opEq_int, opNe_int, opEq_str, opNe_str, opAdd_int, opSub_int, opMod_pos, opLt_int, opLe_int, opGt_int, opGe_int, opLt_str, opLe_str, opIsN_ref, opIsN_non, opIsN_int, opIsN_tup, opIsN_str, opIsN_bl, opEq_bl, opNe_bl, opFdiv_int, opMul_int, opPow_int, atI_0, atI_1, atI_2, opIx_ref, opIx_tup, opIx_rl, opLen_tup, opLen_str, opLen_rl, opMax2_int, opMin2_int, opInt_int, opInt_bl, tyN_non, tyN_bl, tyN_int, tyN_str, tyN_tup, tyN_rl, truthW_bl, srcW_tup, srcW_rl, lenOk_of (show 6 ≤ 1000000 by decide)]
      refine wp_mono (draw_spec (D.mono (Nat.le_refl _) Fr.app) (by omega) (by decide) (by decide)) ?_ (fun _ _ q => q)
      rintro r S2 ⟨k, rfl, k0, k1, D2, f2, l2⟩
      have g6 := f2.get _ _ b0 (get_new (S := S) (o := O.lst (six.map W.str)) (T := []))
      obtain ⟨mn, hmn, hmn1, hmn6⟩ : ∃ mn : Nat, 1 + k = (mn : Int) ∧ 1 ≤ mn ∧ mn ≤ 6 := ⟨(1 + k).toNat, by omega, by omega, by omega⟩
      have g6' : S2[S.length]? = some (.lst [W.str "ny", W.str "a", W.str "ldn", W.str "b", W.str "tokyo", W.str "zzzzzzzz"]) := g6
      have cn : cutL [W.str "ny", W.str "a", W.str "ldn", W.str "b", W.str "tokyo", W.str "zzzzzzzz"] none (some (mn : Int)) = (six.take mn).map W.str := by
        unfold cutL
        rw [HT.sIx_none, HT.sIx_nat, List.drop_zero, Nat.sub_zero]
        show List.take (min mn 6) (six.map W.str) = _
        rw [Nat.min_eq_left hmn6, List.map_take]
      have os : opSl (.ref S.length) none (some (1 + k)) S2 = some (.ref S2.length, S2 ++ [O.lst ((six.take mn).map W.str)]) := by
        rw [opSl_ref g6', hmn, cn]
      simp only [wp_ok, wp_exc, wp_ret, wp_badM, wp_lift, wp_chk, wp_alloc, wp_grd, wp_tgt, wp_noXe, wp_dVar, wp_dC, wp_aNil, wp_aCons, wp_dTup, wp_dLst, wp_dOp, wp_dUn, wp_dFn, wB_bl, wp_dChain, wp_dTru, wp_dBool, wp_dNot, wp_dAnd, wp_dOr, wp_dAndV, wp_dOrV, wp_dNotV, wp_dIfE, wp_dYes, wp_dCall, wp_dCallK, wp_dIsi, wp_dIsi2, wp_dMt, wp_oN, wI_int, wp_oS, wp_dSl, wp_dSrc, wp_dZip, wp_dRng1, wp_dRng2, wp_dEnum, wp_dLc, wpS_nx, wpS_rt, wpS_bk, wpS_ct, wpS_exc, wpS_bad, wpS_ite, wpS_dSeq, wpS_dNx, wpS_dBk, wpS_dCt, wpS_dDrop, wpS_dRet, wpS_dRetN, wpS_dIf, wpS_dSet, wpS_dAsg, wpS_dPar, wpS_dPar3, wpS_dSet2, wpS_dPut, wpS_dRaise, wpS_dFor, wp_dfn, wO_some, wO_none, wO_map, wO_bind, wO_ite, List.map_cons, List.map_nil, List.replicate_succ, List.replicate_zero, List.cons_append, List.nil_append, Nat.reduceSub, Nat.reduceAdd, List.getElem?_cons_zero, List.getElem?_cons_succ, List.set_cons_zero, List.set_cons_succ, List.length_cons, List.length_nil, tgN, tgNil, tgCons, tgTup, wipeE, isT, String.reduceBEq, Bool.and_false, Bool.false_and, Bool.true_and, Bool.and_true, Bool.or_false, Bool.false_or, Bool.true_or, Bool.or_true, Bool.not_true, Bool.not_false, if_true, if_false, true_and, and_true, Bool.false_eq_true, Bool.true_eq_false, reduceIte, opEq_int, opNe_int, opEq_str, opNe_str, opAdd_int, opSub_int, opMod_pos, opLt_int, opLe_int, opGt_int, opGe_int, opLt_str, opLe_str, opIsN_ref, opIsN_non, opIsN_int, opIsN_tup, opIsN_str, opIsN_bl, opEq_bl, opNe_bl, opFdiv_int, opMul_int, opPow_int, atI_0, atI_1, atI_2, opIx_ref, opIx_tup, opIx_rl, opLen_tup, opLen_str, opLen_rl, opMax2_int, opMin2_int, opInt_int, opInt_bl, tyN_non, tyN_bl, tyN_int, tyN_str, tyN_tup, tyN_rl, truthW_bl, srcW_tup, srcW_rl, os]
      exact ⟨S2.length, mn, rfl, D2.bl, hmn1, hmn6, get_new, D2.mono (Nat.le_refl _) Fr.app⟩
    rintro ε' S2 ⟨qn, mn, rfl, bq, hmn1, hmn6, gn, D2⟩
    dsimp only
    have sub : ∀ x ∈ six.take mn, x ∈ six := fun x hx => List.mem_of_mem_take hx
    have ln : (six.take mn).length = mn := by rw [List.length_take]; show min mn 6 = mn; omega
    have ne : six.take mn ≠ [] := fun e => by rw [e] at ln; simp at ln; omega
    have nd : (six.take mn).Nodup := (by decide : six.Nodup).sublist (List.take_sublist _ _)
    rw [wpS_dSeq]
    refine wpS_join' (fun ε' S' => ∃ (qe : Nat) (es : List Ent), ε' = [some (.rl (ns.map W.int)), some (.ref d), some (.int (0 + i)), some (.ref qn), some (.ref qe), x5, x6, x7, x8, x9, x10, x11, x12, x13] ∧ B ≤ qe ∧ S'[qe]? = some (.lst (es.map eW)) ∧ es.length ≤ 200 ∧ (∀ e ∈ es, LongE (six.take mn) e) ∧ NC es ∧ Deck B (2000 + 30000 * i + 20001) d S' ∧ S'[qn]? = some (.lst ((six.take mn).map W.str))) ?_ ?_
    · simp only [wp_ok, wp_exc, wp_ret, wp_badM, wp_lift, wp_chk, wp_alloc, wp_grd, wp_tgt, wp_noXe, wp_dVar, wp_dC, wp_aNil, wp_aCons, wp_dTup, wp_dLst, wp_dOp, wp_dUn, wp_dFn, wB_bl, wp_dChain, wp_dTru, wp_dBool, wp_dNot, wp_dAnd, wp_dOr, wp_dAndV, wp_dOrV, wp_dNotV, wp_dIfE, wp_dYes, wp_dCall, wp_dCallK, wp_dIsi, wp_dIsi2, wp_dMt, wp_oN, wI_int, wp_oS, wp_dSl, wp_dSrc, wp_dZip, wp_dRng1, wp_dRng2, wp_dEnum, wp_dLc, wpS_nx, wpS_rt, wpS_bk, wpS_ct, wpS_exc, wpS_bad, wpS_ite, wpS_dSeq, wpS_dNx, wpS_dBk, wpS_dCt, wpS_dDrop, wpS_dRet, wpS_dRetN, wpS_dIf, wpS_dSet, wpS_dAsg, wpS_dPar, wpS_dPar3, wpS_dSet2, wpS_dPut, wpS_dRaise, wpS_dFor, wp_dfn, wO_some, wO_none, wO_map, wO_bind, wO_ite, List.map_cons, List.map_nil, List.replicate_succ, List.replicate_zero, List.cons_append, List.nil_append, Nat.reduceSub, Nat.reduceAdd, List.getElem?_cons_zero, List.getElem?_cons_succ, List.set_cons_zero, List.set_cons_succ, List.length_cons, List.length_nil, tgN, tgNil, tgCons, tgTup, wipeE, isT, String.reduceBEq, Bool.and_false, Bool.false_and, Bool.true_and, Bool.and_true, Bool.or_false, Bool.false_or, Bool.true_or, Bool.or_true, Bool.not_true, Bool.not_false, if_true, if_false, true_and, and_true, Bool.false_eq_true, Bool.true_eq_false, reduceIte, opEq_int, opNe_int, opEq_str, opNe_str, opAdd_int, opSub_int, opMod_pos, opLt_int, opLe_int, opGt_int, opGe_int, opLt_str, opLe_str, opIsN_ref, opIsN_non, opIsN_int, opIsN_tup, opIsN_str, opIsN_bl, opEq_bl, opNe_bl, opFdiv_int, opMul_int, opPow_int, atI_0, atI_1, atI_2, opIx_ref, opIx_tup, opIx_rl, opLen_tup, opLen_str, opLen_rl, opMax2_int, opMin2_int, opInt_int, opInt_bl, tyN_non, tyN_bl, tyN_int, tyN_str, tyN_tup, tyN_rl, truthW_bl, srcW_tup, srcW_rl]
      have fin : ∀ mo : Nat, 1 ≤ mo → mo ≤ 200 → wp (n_law_long [.ref d, .ref qn, .int mo] S2) (fun r S' => ∃ (qe : Nat) (es : List Ent), [some (.rl (ns.map W.int)), some (.ref d), some (.int (0 + i)), some (.ref qn), some r, x5, x6, x7, x8, x9, x10, x11, x12, x13] = [some (.rl (ns.map W.int)), some (.ref d), some (.int (0 + i)), some (.ref qn), some (.ref qe), x5, x6, x7, x8, x9, x10, x11, x12, x13] ∧ B ≤ qe ∧ S'[qe]? = some (.lst (es.map eW)) ∧ es.length ≤ 200 ∧ (∀ e ∈ es, LongE (six.take mn) e) ∧ NC es ∧ Deck B (2000 + 30000 * i + 20001) d S' ∧ S'[qn]? = some (.lst ((six.take mn).map W.str))) (fun _ _ => False) := fun mo h1 h2 => by
        refine wp_mono (law_long_spec D2 (by omega) gn bq ne nd (by omega) h1 h2) ?_ (fun _ _ q => q)
        rintro r S3 ⟨qe, es, rfl, be, ge, le, ok, nc, D3, f3⟩
        exact ⟨qe, es, rfl, be, ge, by omega, ok, nc, D3.mono (by omega) Fr.refl, f3.get _ _ bq gn⟩
      split
      · exact fin 200 (by decide) (by decide)
      · exact fin 40 (by decide) (by decide)
    rintro ε' S3 ⟨qe, es, rfl, be, ge, le, okT, nc, D3, gn3⟩
    dsimp only
    have ok6 : ∀ e ∈ es, LongE six e := fun e he => ⟨sub _ (okT e he).nm, (okT e he).le, (okT e he).lo, (okT e he).hi⟩
    have good : ∀ e ∈ es, GoodE e := fun e he => (okT e he).good sub
    have hf := nc_found nc
    rw [wpS_dSeq]
    refine wpS_join' (fun ε' S' => S' = S3 ∧ ε' = [some (.rl (ns.map W.int)), some (.ref d), some (.int (0 + i)), some (.ref qn), some (.ref qe), some (.str (PyData.list (es.map entD)).shown), x6, x7, x8, x9, x10, x11, x12, x13]) ?_ ?_
    · simp only [wp_ok, wp_exc, wp_ret, wp_badM, wp_lift, wp_chk, wp_alloc, wp_grd, wp_tgt, wp_noXe, wp_dVar, wp_dC, wp_aNil, wp_aCons, wp_dTup, wp_dLst, wp_dOp, wp_dUn, wp_dFn, wB_bl, wp_dChain, wp_dTru, wp_dBool, wp_dNot, wp_dAnd, wp_dOr, wp_dAndV, wp_dOrV, wp_dNotV, wp_dIfE, wp_dYes, wp_dCall, wp_dCallK, wp_dIsi, wp_dIsi2, wp_dMt, wp_oN, wI_int, wp_oS, wp_dSl, wp_dSrc, wp_dZip, wp_dRng1, wp_dRng2, wp_dEnum, wp_dLc, wpS_nx, wpS_rt, wpS_bk, wpS_ct, wpS_exc, wpS_bad, wpS_ite, wpS_dSeq, wpS_dNx, wpS_dBk, wpS_dCt, wpS_dDrop, wpS_dRet, wpS_dRetN, wpS_dIf, wpS_dSet, wpS_dAsg, wpS_dPar, wpS_dPar3, wpS_dSet2, wpS_dPut, wpS_dRaise, wpS_dFor, wp_dfn, wO_some, wO_none, wO_map, wO_bind, wO_ite, List.map_cons, List.map_nil, List.replicate_succ, List.replicate_zero, List.cons_append, List.nil_append, Nat.reduceSub, Nat.reduceAdd, List.getElem?_cons_zero, List.getElem?_cons_succ, List.set_cons_zero, List.set_cons_succ, List.length_cons, List.length_nil, tgN, tgNil, tgCons, tgTup, wipeE, isT, String.reduceBEq, Bool.and_false, Bool.false_and, Bool.true_and, Bool.and_true, Bool.or_false, Bool.false_or, Bool.true_or, Bool.or_true, Bool.not_true, Bool.not_false, if_true, if_false, true_and, and_true, Bool.false_eq_true, Bool.true_eq_false, reduceIte, opEq_int, opNe_int, opEq_str, opNe_str, opAdd_int, opSub_int, opMod_pos, opLt_int, opLe_int, opGt_int, opGe_int, opLt_str, opLe_str, opIsN_ref, opIsN_non, opIsN_int, opIsN_tup, opIsN_str, opIsN_bl, opEq_bl, opNe_bl, opFdiv_int, opMul_int, opPow_int, atI_0, atI_1, atI_2, opIx_ref, opIx_tup, opIx_rl, opLen_tup, opLen_str, opLen_rl, opMax2_int, opMin2_int, opInt_int, opInt_bl, tyN_non, tyN_bl, tyN_int, tyN_str, tyN_tup, tyN_rl, truthW_bl, srcW_tup, srcW_rl, repr_spec ge le ok6]
    rintro ε' S3' ⟨rfl, rfl⟩
    dsimp only
    rw [wpS_dSeq]
    refine wpS_join' (fun ε' S' => ε' = [some (.rl (ns.map W.int)), some (.ref d), some (.int (0 + i)), some (.ref qn), some (.ref qe), some (.str (PyData.list (es.map entD)).shown), x6, x7, x8, x9, x10, x11, x12, x13] ∧ Fr 0 S3' S') ?_ ?_
    · simp only [wp_ok, wp_exc, wp_ret, wp_badM, wp_lift, wp_chk, wp_alloc, wp_grd, wp_tgt, wp_noXe, wp_dVar, wp_dC, wp_aNil, wp_aCons, wp_dTup, wp_dLst, wp_dOp, wp_dUn, wp_dFn, wB_bl, wp_dChain, wp_dTru, wp_dBool, wp_dNot, wp_dAnd, wp_dOr, wp_dAndV, wp_dOrV, wp_dNotV, wp_dIfE, wp_dYes, wp_dCall, wp_dCallK, wp_dIsi, wp_dIsi2, wp_dMt, wp_oN, wI_int, wp_oS, wp_dSl, wp_dSrc, wp_dZip, wp_dRng1, wp_dRng2, wp_dEnum, wp_dLc, wpS_nx, wpS_rt, wpS_bk, wpS_ct, wpS_exc, wpS_bad, wpS_ite, wpS_dSeq, wpS_dNx, wpS_dBk, wpS_dCt, wpS_dDrop, wpS_dRet, wpS_dRetN, wpS_dIf, wpS_dSet, wpS_dAsg, wpS_dPar, wpS_dPar3, wpS_dSet2, wpS_dPut, wpS_dRaise, wpS_dFor, wp_dfn, wO_some, wO_none, wO_map, wO_bind, wO_ite, List.map_cons, List.map_nil, List.replicate_succ, List.replicate_zero, List.cons_append, List.nil_append, Nat.reduceSub, Nat.reduceAdd, List.getElem?_cons_zero, List.getElem?_cons_succ, List.set_cons_zero, List.set_cons_succ, List.length_cons, List.length_nil, tgN, tgNil, tgCons, tgTup, wipeE, isT, String.reduceBEq, Bool.and_false, Bool.false_and, Bool.true_and, Bool.and_true, Bool.or_false, Bool.false_or, Bool.true_or, Bool.or_true, Bool.not_true, Bool.not_false, if_true, if_false, true_and, and_true, Bool.false_eq_true, Bool.true_eq_false, reduceIte, opEq_int, opNe_int, opEq_str, opNe_str, opAdd_int, opSub_int, opMod_pos, opLt_int, opLe_int, opGt_int, opGe_int, opLt_str, opLe_str, opIsN_ref, opIsN_non, opIsN_int, opIsN_tup, opIsN_str, opIsN_bl, opEq_bl, opNe_bl, opFdiv_int, opMul_int, opPow_int, atI_0, atI_1, atI_2, opIx_ref, opIx_tup, opIx_rl, opLen_tup, opLen_str, opLen_rl, opMax2_int, opMin2_int, opInt_int, opInt_bl, tyN_non, tyN_bl, tyN_int, tyN_str, tyN_tup, tyN_rl, truthW_bl, srcW_tup, srcW_rl]
      refine wp_mono (find_clash_spec ge (by omega) good) ?_ (fun _ _ q => q)
      rintro r S4 ⟨rfl, f4⟩
      rw [hf]
      simp only [wp_ok, wp_exc, wp_ret, wp_badM, wp_lift, wp_chk, wp_alloc, wp_grd, wp_tgt, wp_noXe, wp_dVar, wp_dC, wp_aNil, wp_aCons, wp_dTup, wp_dLst, wp_dOp, wp_dUn, wp_dFn, wB_bl, wp_dChain, wp_dTru, wp_dBool, wp_dNot, wp_dAnd, wp_dOr, wp_dAndV, wp_dOrV, wp_dNotV, wp_dIfE, wp_dYes, wp_dCall, wp_dCallK, wp_dIsi, wp_dIsi2, wp_dMt, wp_oN, wI_int, wp_oS, wp_dSl, wp_dSrc, wp_dZip, wp_dRng1, wp_dRng2, wp_dEnum, wp_dLc, wpS_nx, wpS_rt, wpS_bk, wpS_ct, wpS_exc, wpS_bad, wpS_ite, wpS_dSeq, wpS_dNx, wpS_dBk, wpS_dCt, wpS_dDrop, wpS_dRet, wpS_dRetN, wpS_dIf, wpS_dSet, wpS_dAsg, wpS_dPar, wpS_dPar3, wpS_dSet2, wpS_dPut, wpS_dRaise, wpS_dFor, wp_dfn, wO_some, wO_none, wO_map, wO_bind, wO_ite, List.map_cons, List.map_nil, List.replicate_succ, List.replicate_zero, List.cons_append, List.nil_append, Nat.reduceSub, Nat.reduceAdd, List.getElem?_cons_zero, List.getElem?_cons_succ, List.set_cons_zero, List.set_cons_succ, List.length_cons, List.length_nil, tgN, tgNil, tgCons, tgTup, wipeE, isT, String.reduceBEq, Bool.and_false, Bool.false_and, Bool.true_and, Bool.and_true, Bool.or_false, Bool.false_or, Bool.true_or, Bool.or_true, Bool.not_true, Bool.not_false, if_true, if_false, true_and, and_true, Bool.false_eq_true, Bool.true_eq_false, reduceIte, opEq_int, opNe_int, opEq_str, opNe_str, opAdd_int, opSub_int, opMod_pos, opLt_int, opLe_int, opGt_int, opGe_int, opLt_str, opLe_str, opIsN_ref, opIsN_non, opIsN_int, opIsN_tup, opIsN_str, opIsN_bl, opEq_bl, opNe_bl, opFdiv_int, opMul_int, opPow_int, atI_0, atI_1, atI_2, opIx_ref, opIx_tup, opIx_rl, opLen_tup, opLen_str, opLen_rl, opMax2_int, opMin2_int, opInt_int, opInt_bl, tyN_non, tyN_bl, tyN_int, tyN_str, tyN_tup, tyN_rl, truthW_bl, srcW_tup, srcW_rl, opNotN_any, N.isNon]
      exact f4
    rintro ε' S4 ⟨rfl, f4⟩
    dsimp only
    have D4 := D3.mono (Nat.le_refl _) f4
    have ge4 := f4.g0 ge
    have gn4 := f4.g0 gn3
    rw [wpS_dSeq]
    refine wpS_join' (fun ε' S' => ∃ (ql : Nat) (xs : List Str), ε' = [some (.rl (ns.map W.int)), some (.ref d), some (.int (0 + i)), some (.ref qn), some (.ref qe), some (.str (PyData.list (es.map entD)).shown), some (.ref ql), x7, x8, x9, x10, x11, x12, x13] ∧ B ≤ ql ∧ S'[ql]? = some (.lst (xs.map W.str)) ∧ xs.length ≤ 200 ∧ (∀ x ∈ xs, Letter x) ∧ Deck B (2000 + 30000 * i + 20400) d S' ∧ Fr B S4 S') ?_ ?_
    · simp only [wp_ok, wp_exc, wp_ret, wp_badM, wp_lift, wp_chk, wp_alloc, wp_grd, wp_tgt, wp_noXe, wp_dVar, wp_dC, wp_aNil, wp_aCons, wp_dTup, wp_dLst, wp_dOp, wp_dUn, wp_dFn, wB_bl, wp_dChain, wp_dTru, wp_dBool, wp_dNot, wp_dAnd, wp_dOr, wp_dAndV, wp_dOrV, wp_dNotV, wp_dIfE, wp_dYes, wp_dCall, wp_dCallK, wp_dIsi, wp_dIsi2, wp_dMt, wp_oN, wI_int, wp_oS, wp_dSl, wp_dSrc, wp_dZip, wp_dRng1, wp_dRng2, wp_dEnum, wp_dLc, wpS_nx, wpS_rt, wpS_bk, wpS_ct, wpS_exc, wpS_bad, wpS_ite, wpS_dSeq, wpS_dNx, wpS_dBk, wpS_dCt, wpS_dDrop, wpS_dRet, wpS_dRetN, wpS_dIf, wpS_dSet, wpS_dAsg, wpS_dPar, wpS_dPar3, wpS_dSet2, wpS_dPut, wpS_dRaise, wpS_dFor, wp_dfn, wO_some, wO_none, wO_map, wO_bind, wO_ite, List.map_cons, List.map_nil, List.replicate_succ, List.replicate_zero, List.cons_append, List.nil_append, Nat.reduceSub, Nat.reduceAdd, List.getElem?_cons_zero, List.getElem?_cons_succ, List.set_cons_zero, List.set_cons_succ, List.length_cons, List.length_nil, tgN, tgNil, tgCons, tgTup, wipeE, isT, String.reduceBEq, Bool.and_false, Bool.false_and, Bool.true_and, Bool.and_true, Bool.or_false, Bool.false_or, Bool.true_or, Bool.or_true, Bool.not_true, Bool.not_false, if_true, if_false, true_and, and_true, Bool.false_eq_true, Bool.true_eq_false, reduceIte, opEq_int, opNe_int, opEq_str, opNe_str, opAdd_int, opSub_int, opMod_pos, opLt_int, opLe_int, opGt_int, opGe_int, opLt_str, opLe_str, opIsN_ref, opIsN_non, opIsN_int, opIsN_tup, opIsN_str, opIsN_bl, opEq_bl, opNe_bl, opFdiv_int, opMul_int, opPow_int, atI_0, atI_1, atI_2, opIx_ref, opIx_tup, opIx_rl, opLen_tup, opLen_str, opLen_rl, opMax2_int, opMin2_int, opInt_int, opInt_bl, tyN_non, tyN_bl, tyN_int, tyN_str, tyN_tup, tyN_rl, truthW_bl, srcW_tup, srcW_rl, lenOk_of (show 3 ≤ 1000000 by decide)]
      refine wp_mono (draw_spec (D4.mono (Nat.le_refl _) Fr.app) (by omega) (by decide) (by decide)) ?_ (fun _ _ q => q)
      rintro r S5 ⟨c, rfl, c0, c1, D5, f5, l5⟩
      have g5 := f5.get _ _ D4.bl (get_new (S := S4) (o := O.lst [W.int 8, W.int 40, W.int 200]) (T := []))
      obtain ⟨v, hv, hv2⟩ := pick3 (a := 8) (b := 40) (c := 200) c0 c1
      obtain ⟨m2, rfl, hm2⟩ : ∃ m2 : Nat, v = (m2 : Int) ∧ m2 ≤ 200 := ⟨v.toNat, by omega, by omega⟩
      have f45 : Fr B S4 S5 := Fr.app.trans f5
      simp only [wp_ok, wp_exc, wp_ret, wp_badM, wp_lift, wp_chk, wp_alloc, wp_grd, wp_tgt, wp_noXe, wp_dVar, wp_dC, wp_aNil, wp_aCons, wp_dTup, wp_dLst, wp_dOp, wp_dUn, wp_dFn, wB_bl, wp_dChain, wp_dTru, wp_dBool, wp_dNot, wp_dAnd, wp_dOr, wp_dAndV, wp_dOrV, wp_dNotV, wp_dIfE, wp_dYes, wp_dCall, wp_dCallK, wp_dIsi, wp_dIsi2, wp_dMt, wp_oN, wI_int, wp_oS, wp_dSl, wp_dSrc, wp_dZip, wp_dRng1, wp_dRng2, wp_dEnum, wp_dLc, wpS_nx, wpS_rt, wpS_bk, wpS_ct, wpS_exc, wpS_bad, wpS_ite, wpS_dSeq, wpS_dNx, wpS_dBk, wpS_dCt, wpS_dDrop, wpS_dRet, wpS_dRetN, wpS_dIf, wpS_dSet, wpS_dAsg, wpS_dPar, wpS_dPar3, wpS_dSet2, wpS_dPut, wpS_dRaise, wpS_dFor, wp_dfn, wO_some, wO_none, wO_map, wO_bind, wO_ite, List.map_cons, List.map_nil, List.replicate_succ, List.replicate_zero, List.cons_append, List.nil_append, Nat.reduceSub, Nat.reduceAdd, List.getElem?_cons_zero, List.getElem?_cons_succ, List.set_cons_zero, List.set_cons_succ, List.length_cons, List.length_nil, tgN, tgNil, tgCons, tgTup, wipeE, isT, String.reduceBEq, Bool.and_false, Bool.false_and, Bool.true_and, Bool.and_true, Bool.or_false, Bool.false_or, Bool.true_or, Bool.or_true, Bool.not_true, Bool.not_false, if_true, if_false, true_and, and_true, Bool.false_eq_true, Bool.true_eq_false, reduceIte, opEq_int, opNe_int, opEq_str, opNe_str, opAdd_int, opSub_int, opMod_pos, opLt_int, opLe_int, opGt_int, opGe_int, opLt_str, opLe_str, opIsN_ref, opIsN_non, opIsN_int, opIsN_tup, opIsN_str, opIsN_bl, opEq_bl, opNe_bl, opFdiv_int, opMul_int, opPow_int, atI_0, atI_1, atI_2, opIx_ref, opIx_tup, opIx_rl, opLen_tup, opLen_str, opLen_rl, opMax2_int, opMin2_int, opInt_int, opInt_bl, tyN_non, tyN_bl, tyN_int, tyN_str, tyN_tup, tyN_rl, truthW_bl, srcW_tup, srcW_rl, lstAt_of g5, atI_nn c0, hv]
      refine wp_mono (law_letters_spec (P := Letter) D5 (by omega) (f45.get _ _ bq gn4) bq (by omega) hm2 (fun x hx => .inl (six_ok _ (sub x hx)).2) (.inr rfl)) ?_ (fun _ _ q => q)
      rintro r S6 ⟨ql, xs, rfl, bl, gl, ll, hl, D6, f6⟩
      exact ⟨ql, xs, rfl, bl, gl, by omega, hl, D6.mono (by omega) Fr.refl, f45.trans f6⟩
    rintro ε' S6 ⟨ql, xs, rfl, bl, gl, ll, hxs, D6, f6⟩
    dsimp only
    have ge6 := f6.get _ _ be ge4
    have gn6 := f6.get _ _ bq gn4
    rw [wpS_dSeq]
    refine wpS_join' (fun ε' S' => ∃ x7 x8 x9 x12 x13 : Option W, ε' = [some (.rl (ns.map W.int)), some (.ref d), some (.int (0 + i)), some (.ref qn), some (.ref qe), some (.str (PyData.list (es.map entD)).shown), some (.ref ql), x7, x8, x9, x10, x11, x12, x13] ∧ Deck B (2000 + 30000 * i + 20500) d S' ∧ Fr B S6 S') ?_ ?_
    · rw [wpS_dFor]
      simp only [wp_dRng1, wp_aCons, wp_dC, wp_aNil]
      refine ⟨by decide, ?_⟩
      refine wpS_forL (fun t ε' S' => ∃ x7 x8 x9 x12 x13 : Option W, ε' = [some (.rl (ns.map W.int)), some (.ref d), some (.int (0 + i)), some (.ref qn), some (.ref qe), some (.str (PyData.list (es.map entD)).shown), some (.ref ql), x7, x8, x9, x10, x11, x12, x13] ∧ Deck B (2000 + 30000 * i + 20400 + 10 * t) d S' ∧ Fr B S6 S') ⟨_, _, _, _, _, rfl, D6, Fr.refl⟩ (fun _ _ _ _ _ => trivial) ?_ ?_
      · rintro t w ε' S7 et ⟨y7, y8, y9, y12, y13, rfl, D7, f7⟩
        obtain ⟨ht, rfl⟩ := rngW_get et
        have ht : t < 2 := by simpa using ht
        have ge7 := f7.get _ _ be ge6
        have gn7 := f7.get _ _ bq gn6
        have gl7 := f7.get _ _ bl gl
        have b7 := D7.bl
        simp only [List.map_cons, List.map_nil, List.replicate_succ, List.replicate_zero, List.cons_append, List.nil_append, Nat.reduceSub, Nat.reduceAdd, List.getElem?_cons_zero, List.getElem?_cons_succ, List.set_cons_zero, List.set_cons_succ, List.length_cons, List.length_nil, tgN, tgNil, tgCons, tgTup, wipeE, isT, String.reduceBEq, Bool.and_false, Bool.false_and, Bool.true_and, Bool.and_true, Bool.or_false, Bool.false_or, Bool.true_or, Bool.or_true, Bool.not_true, Bool.not_false, if_true, if_false, true_and, and_true, Bool.false_eq_true, Bool.true_eq_false, reduceIte, wO_some]
        rw [wpS_dSeq]
        refine wpS_join' (fun ε' S' => ∃ e0 : Ent, ε' = [some (.rl (ns.map W.int)), some (.ref d), some (.int (0 + i)), some (.ref qn), some (.ref qe), some (.str (PyData.list (es.map entD)).shown), some (.ref ql), some (.int (0 + t)), some (eW e0), y9, x10, x11, y12, y13] ∧ Name e0.1 ∧ Deck B (2000 + 30000 * i + 20400 + 10 * t + 1) d S' ∧ Fr B S7 S') ?_ ?_
        · have ga := opAdd_ref (S := S7 ++ [O.lst [W.tup [W.str "ny", W.int 0, W.int 0]]]) (n := qe) (m := S7.length) (a := es.map eW) (b := [W.tup [W.str "ny", W.int 0, W.int 0]]) (Fr.app.g0 ge7) get_new (by simp; omega)
          have f7a : Fr B S7 (S7 ++ [O.lst [W.tup [W.str "ny", W.int 0, W.int 0]]] ++ [O.lst (es.map eW ++ [W.tup [W.str "ny", W.int 0, W.int 0]])]) := Fr.app.snoc
          have D7a := D7.mono (Nat.le_refl _) ((Fr.app (B := 0) (S := S7) (T := [O.lst [W.tup [W.str "ny", W.int 0, W.int 0]]])).snoc (T := [O.lst (es.map eW ++ [W.tup [W.str "ny", W.int 0, W.int 0]])]))
          have gA : (S7 ++ [O.lst [W.tup [W.str "ny", W.int 0, W.int 0]]] ++ [O.lst (es.map eW ++ [W.tup [W.str "ny", W.int 0, W.int 0]])])[(S7 ++ [O.lst [W.tup [W.str "ny", W.int 0, W.int 0]]]).length]? = some (.lst (es.map eW ++ [W.tup [W.str "ny", W.int 0, W.int 0]])) := get_new
          have bA : B ≤ (S7 ++ [O.lst [W.tup [W.str "ny", W.int 0, W.int 0]]]).length := by simp; omega
          have geA := f7a.get _ _ be ge7
          simp only [wp_ok, wp_exc, wp_ret, wp_badM, wp_lift, wp_chk, wp_alloc, wp_grd, wp_tgt, wp_noXe, wp_dVar, wp_dC, wp_aNil, wp_aCons, wp_dTup, wp_dLst, wp_dOp, wp_dUn, wp_dFn, wB_bl, wp_dChain, wp_dTru, wp_dBool, wp_dNot, wp_dAnd, wp_dOr, wp_dAndV, wp_dOrV, wp_dNotV, wp_dIfE, wp_dYes, wp_dCall, wp_dCallK, wp_dIsi, wp_dIsi2, wp_dMt, wp_oN, wI_int, wp_oS, wp_dSl, wp_dSrc, wp_dZip, wp_dRng1, wp_dRng2, wp_dEnum, wp_dLc, wpS_nx, wpS_rt, wpS_bk, wpS_ct, wpS_exc, wpS_bad, wpS_ite, wpS_dSeq, wpS_dNx, wpS_dBk, wpS_dCt, wpS_dDrop, wpS_dRet, wpS_dRetN, wpS_dIf, wpS_dSet, wpS_dAsg, wpS_dPar, wpS_dPar3, wpS_dSet2, wpS_dPut, wpS_dRaise, wpS_dFor, wp_dfn, wO_some, wO_none, wO_map, wO_bind, wO_ite, List.map_cons, List.map_nil, List.replicate_succ, List.replicate_zero, List.cons_append, List.nil_append, Nat.reduceSub, Nat.reduceAdd, List.getElem?_cons_zero, List.getElem?_cons_succ, List.set_cons_zero, List.set_cons_succ, List.length_cons, List.length_nil, tgN, tgNil, tgCons, tgTup, wipeE, isT, String.reduceBEq, Bool.and_false, Bool.false_and, Bool.true_and, Bool.and_true, Bool.or_false, Bool.false_or, Bool.true_or, Bool.or_true, Bool.not_true, Bool.not_false, if_true, if_false, true_and, and_true, Bool.false_eq_true, Bool.true_eq_false, reduceIte, opEq_int, opNe_int, opEq_str, opNe_str, opAdd_int, opSub_int, opMod_pos, opLt_int, opLe_int, opGt_int, opGe_int, opLt_str, opLe_str, opIsN_ref, opIsN_non, opIsN_int, opIsN_tup, opIsN_str, opIsN_bl, opEq_bl, opNe_bl, opFdiv_int, opMul_int, opPow_int, atI_0, atI_1, atI_2, opIx_ref, opIx_tup, opIx_rl, opLen_tup, opLen_str, opLen_rl, opMax2_int, opMin2_int, opInt_int, opInt_bl, tyN_non, tyN_bl, tyN_int, tyN_str, tyN_tup, tyN_rl, truthW_bl, srcW_tup, srcW_rl, lenOk_of (show 3 ≤ 1000000 by decide), lenOk_of (show 1 ≤ 1000000 by decide), ga, opLen_ref geA, List.length_map]
          refine wp_mono (draw_spec D7a (by omega) (by omega) (by omega)) ?_ (fun _ _ q => q)
          rintro r U ⟨c, rfl, c0, c1, DU, fU, lU⟩
          have pk : ∃ e0 : Ent, (es.map eW ++ [W.tup [W.str "ny", W.int 0, W.int 0]])[c.toNat]? = some (eW e0) ∧ Name e0.1 := by
            by_cases h : c.toNat < es.length
            · exact ⟨es[c.toNat], by rw [List.getElem?_append_left (by simpa using h), List.getElem?_map, List.getElem?_eq_getElem h]; rfl, (good _ (List.getElem_mem h)).name⟩
            · have : c.toNat = (es.map eW).length := by rw [List.length_map]; omega
              exact ⟨("ny", 0, 0), by rw [this]; simp, (six_ok _ (by decide)).2⟩
          obtain ⟨e0, he0, hn0⟩ := pk
          simp only [wp_ok, wp_exc, wp_ret, wp_badM, wp_lift, wp_chk, wp_alloc, wp_grd, wp_tgt, wp_noXe, wp_dVar, wp_dC, wp_aNil, wp_aCons, wp_dTup, wp_dLst, wp_dOp, wp_dUn, wp_dFn, wB_bl, wp_dChain, wp_dTru, wp_dBool, wp_dNot, wp_dAnd, wp_dOr, wp_dAndV, wp_dOrV, wp_dNotV, wp_dIfE, wp_dYes, wp_dCall, wp_dCallK, wp_dIsi, wp_dIsi2, wp_dMt, wp_oN, wI_int, wp_oS, wp_dSl, wp_dSrc, wp_dZip, wp_dRng1, wp_dRng2, wp_dEnum, wp_dLc, wpS_nx, wpS_rt, wpS_bk, wpS_ct, wpS_exc, wpS_bad, wpS_ite, wpS_dSeq, wpS_dNx, wpS_dBk, wpS_dCt, wpS_dDrop, wpS_dRet, wpS_dRetN, wpS_dIf, wpS_dSet, wpS_dAsg, wpS_dPar, wpS_dPar3, wpS_dSet2, wpS_dPut, wpS_dRaise, wpS_dFor, wp_dfn, wO_some, wO_none, wO_map, wO_bind, wO_ite, List.map_cons, List.map_nil, List.replicate_succ, List.replicate_zero, List.cons_append, List.nil_append, Nat.reduceSub, Nat.reduceAdd, List.getElem?_cons_zero, List.getElem?_cons_succ, List.set_cons_zero, List.set_cons_succ, List.length_cons, List.length_nil, tgN, tgNil, tgCons, tgTup, wipeE, isT, String.reduceBEq, Bool.and_false, Bool.false_and, Bool.true_and, Bool.and_true, Bool.or_false, Bool.false_or, Bool.true_or, Bool.or_true, Bool.not_true, Bool.not_false, if_true, if_false, true_and, and_true, Bool.false_eq_true, Bool.true_eq_false, reduceIte, opEq_int, opNe_int, opEq_str, opNe_str, opAdd_int, opSub_int, opMod_pos, opLt_int, opLe_int, opGt_int, opGe_int, opLt_str, opLe_str, opIsN_ref, opIsN_non, opIsN_int, opIsN_tup, opIsN_str, opIsN_bl, opEq_bl, opNe_bl, opFdiv_int, opMul_int, opPow_int, atI_0, atI_1, atI_2, opIx_ref, opIx_tup, opIx_rl, opLen_tup, opLen_str, opLen_rl, opMax2_int, opMin2_int, opInt_int, opInt_bl, tyN_non, tyN_bl, tyN_int, tyN_str, tyN_tup, tyN_rl, truthW_bl, srcW_tup, srcW_rl, lstAt_of (fU.get _ _ bA gA), atI_nn c0, he0]
          exact ⟨e0, rfl, hn0, DU, f7a.trans fU⟩
        rintro ε' U1 ⟨e0, rfl, hn0, DU1, fU1⟩
        dsimp only
        have gnU := fU1.get _ _ bq gn7
        rw [wpS_dSeq]
        refine wpS_join' (fun ε' S' => ∃ (nm : Str) (wh : Int), ε' = [some (.rl (ns.map W.int)), some (.ref d), some (.int (0 + i)), some (.ref qn), some (.ref qe), some (.str (PyData.list (es.map entD)).shown), some (.ref ql), some (.int (0 + t)), some (eW e0), y9, x10, x11, some (.str nm), some (.int wh)] ∧ Name nm ∧ Deck B (2000 + 30000 * i + 20400 + 10 * t + 4) d S' ∧ Fr B S7 S') ?_ ?_
        · simp only [wp_ok, wp_exc, wp_ret, wp_badM, wp_lift, wp_chk, wp_alloc, wp_grd, wp_tgt, wp_noXe, wp_dVar, wp_dC, wp_aNil, wp_aCons, wp_dTup, wp_dLst, wp_dOp, wp_dUn, wp_dFn, wB_bl, wp_dChain, wp_dTru, wp_dBool, wp_dNot, wp_dAnd, wp_dOr, wp_dAndV, wp_dOrV, wp_dNotV, wp_dIfE, wp_dYes, wp_dCall, wp_dCallK, wp_dIsi, wp_dIsi2, wp_dMt, wp_oN, wI_int, wp_oS, wp_dSl, wp_dSrc, wp_dZip, wp_dRng1, wp_dRng2, wp_dEnum, wp_dLc, wpS_nx, wpS_rt, wpS_bk, wpS_ct, wpS_exc, wpS_bad, wpS_ite, wpS_dSeq, wpS_dNx, wpS_dBk, wpS_dCt, wpS_dDrop, wpS_dRet, wpS_dRetN, wpS_dIf, wpS_dSet, wpS_dAsg, wpS_dPar, wpS_dPar3, wpS_dSet2, wpS_dPut, wpS_dRaise, wpS_dFor, wp_dfn, wO_some, wO_none, wO_map, wO_bind, wO_ite, List.map_cons, List.map_nil, List.replicate_succ, List.replicate_zero, List.cons_append, List.nil_append, Nat.reduceSub, Nat.reduceAdd, List.getElem?_cons_zero, List.getElem?_cons_succ, List.set_cons_zero, List.set_cons_succ, List.length_cons, List.length_nil, tgN, tgNil, tgCons, tgTup, wipeE, isT, String.reduceBEq, Bool.and_false, Bool.false_and, Bool.true_and, Bool.and_true, Bool.or_false, Bool.false_or, Bool.true_or, Bool.or_true, Bool.not_true, Bool.not_false, if_true, if_false, true_and, and_true, Bool.false_eq_true, Bool.true_eq_false, reduceIte, opEq_int, opNe_int, opEq_str, opNe_str, opAdd_int, opSub_int, opMod_pos, opLt_int, opLe_int, opGt_int, opGe_int, opLt_str, opLe_str, opIsN_ref, opIsN_non, opIsN_int, opIsN_tup, opIsN_str, opIsN_bl, opEq_bl, opNe_bl, opFdiv_int, opMul_int, opPow_int, atI_0, atI_1, atI_2, opIx_ref, opIx_tup, opIx_rl, opLen_tup, opLen_str, opLen_rl, opMax2_int, opMin2_int, opInt_int, opInt_bl, tyN_non, tyN_bl, tyN_int, tyN_str, tyN_tup, tyN_rl, truthW_bl, srcW_tup, srcW_rl, opLen_ref gnU, List.length_map, ln]
          refine wp_mono (draw_spec DU1 (by omega) (by omega) (by omega)) ?_ (fun _ _ q => q)
          rintro r U2 ⟨c, rfl, c0, c1, DU2, fU2, _⟩
          obtain ⟨nm, hnm, hnm2⟩ : ∃ nm, (six.take mn)[c.toNat]? = some nm ∧ nm ∈ six.take mn := by
            have : c.toNat < (six.take mn).length := by omega
            exact ⟨_, List.getElem?_eq_getElem this, List.getElem_mem this⟩
          simp only [wp_ok, wp_exc, wp_ret, wp_badM, wp_lift, wp_chk, wp_alloc, wp_grd, wp_tgt, wp_noXe, wp_dVar, wp_dC, wp_aNil, wp_aCons, wp_dTup, wp_dLst, wp_dOp, wp_dUn, wp_dFn, wB_bl, wp_dChain, wp_dTru, wp_dBool, wp_dNot, wp_dAnd, wp_dOr, wp_dAndV, wp_dOrV, wp_dNotV, wp_dIfE, wp_dYes, wp_dCall, wp_dCallK, wp_dIsi, wp_dIsi2, wp_dMt, wp_oN, wI_int, wp_oS, wp_dSl, wp_dSrc, wp_dZip, wp_dRng1, wp_dRng2, wp_dEnum, wp_dLc, wpS_nx, wpS_rt, wpS_bk, wpS_ct, wpS_exc, wpS_bad, wpS_ite, wpS_dSeq, wpS_dNx, wpS_dBk, wpS_dCt, wpS_dDrop, wpS_dRet, wpS_dRetN, wpS_dIf, wpS_dSet, wpS_dAsg, wpS_dPar, wpS_dPar3, wpS_dSet2, wpS_dPut, wpS_dRaise, wpS_dFor, wp_dfn, wO_some, wO_none, wO_map, wO_bind, wO_ite, List.map_cons, List.map_nil, List.replicate_succ, List.replicate_zero, List.cons_append, List.nil_append, Nat.reduceSub, Nat.reduceAdd, List.getElem?_cons_zero, List.getElem?_cons_succ, List.set_cons_zero, List.set_cons_succ, List.length_cons, List.length_nil, tgN, tgNil, tgCons, tgTup, wipeE, isT, String.reduceBEq, Bool.and_false, Bool.false_and, Bool.true_and, Bool.and_true, Bool.or_false, Bool.false_or, Bool.true_or, Bool.or_true, Bool.not_true, Bool.not_false, if_true, if_false, true_and, and_true, Bool.false_eq_true, Bool.true_eq_false, reduceIte, opEq_int, opNe_int, opEq_str, opNe_str, opAdd_int, opSub_int, opMod_pos, opLt_int, opLe_int, opGt_int, opGe_int, opLt_str, opLe_str, opIsN_ref, opIsN_non, opIsN_int, opIsN_tup, opIsN_str, opIsN_bl, opEq_bl, opNe_bl, opFdiv_int, opMul_int, opPow_int, atI_0, atI_1, atI_2, opIx_ref, opIx_tup, opIx_rl, opLen_tup, opLen_str, opLen_rl, opMax2_int, opMin2_int, opInt_int, opInt_bl, tyN_non, tyN_bl, tyN_int, tyN_str, tyN_tup, tyN_rl, truthW_bl, srcW_tup, srcW_rl, lstAt_of (fU2.get _ _ bq gnU), atI_nn c0, List.getElem?_map, hnm, Option.map_some]
          refine wp_mono (draw_spec DU2 (by omega) (by decide) (by decide)) ?_ (fun _ _ q => q)
          rintro r U3 ⟨c2, rfl, c20, c21, DU3, fU3, _⟩
          have pk : ∃ v : Int, atI [W.str e0.1, W.int e0.2.1, W.int e0.2.2] (1 + c2) = some (.int v) := by
            rcases (show c2 = 0 ∨ c2 = 1 by omega) with rfl | rfl
            · exact ⟨e0.2.1, rfl⟩
            · exact ⟨e0.2.2, rfl⟩
          obtain ⟨v, hv⟩ := pk
          simp only [wp_ok, wp_exc, wp_ret, wp_badM, wp_lift, wp_chk, wp_alloc, wp_grd, wp_tgt, wp_noXe, wp_dVar, wp_dC, wp_aNil, wp_aCons, wp_dTup, wp_dLst, wp_dOp, wp_dUn, wp_dFn, wB_bl, wp_dChain, wp_dTru, wp_dBool, wp_dNot, wp_dAnd, wp_dOr, wp_dAndV, wp_dOrV, wp_dNotV, wp_dIfE, wp_dYes, wp_dCall, wp_dCallK, wp_dIsi, wp_dIsi2, wp_dMt, wp_oN, wI_int, wp_oS, wp_dSl, wp_dSrc, wp_dZip, wp_dRng1, wp_dRng2, wp_dEnum, wp_dLc, wpS_nx, wpS_rt, wpS_bk, wpS_ct, wpS_exc, wpS_bad, wpS_ite, wpS_dSeq, wpS_dNx, wpS_dBk, wpS_dCt, wpS_dDrop, wpS_dRet, wpS_dRetN, wpS_dIf, wpS_dSet, wpS_dAsg, wpS_dPar, wpS_dPar3, wpS_dSet2, wpS_dPut, wpS_dRaise, wpS_dFor, wp_dfn, wO_some, wO_none, wO_map, wO_bind, wO_ite, List.map_cons, List.map_nil, List.replicate_succ, List.replicate_zero, List.cons_append, List.nil_append, Nat.reduceSub, Nat.reduceAdd, List.getElem?_cons_zero, List.getElem?_cons_succ, List.set_cons_zero, List.set_cons_succ, List.length_cons, List.length_nil, tgN, tgNil, tgCons, tgTup, wipeE, isT, String.reduceBEq, Bool.and_false, Bool.false_and, Bool.true_and, Bool.and_true, Bool.or_false, Bool.false_or, Bool.true_or, Bool.or_true, Bool.not_true, Bool.not_false, if_true, if_false, true_and, and_true, Bool.false_eq_true, Bool.true_eq_false, reduceIte, opEq_int, opNe_int, opEq_str, opNe_str, opAdd_int, opSub_int, opMod_pos, opLt_int, opLe_int, opGt_int, opGe_int, opLt_str, opLe_str, opIsN_ref, opIsN_non, opIsN_int, opIsN_tup, opIsN_str, opIsN_bl, opEq_bl, opNe_bl, opFdiv_int, opMul_int, opPow_int, atI_0, atI_1, atI_2, opIx_ref, opIx_tup, opIx_rl, opLen_tup, opLen_str, opLen_rl, opMax2_int, opMin2_int, opInt_int, opInt_bl, tyN_non, tyN_bl, tyN_int, tyN_str, tyN_tup, tyN_rl, truthW_bl, srcW_tup, srcW_rl, hv]
          refine wp_mono (draw_spec DU3 (by omega) (by decide) (by decide)) ?_ (fun _ _ q => q)
          rintro r U4 ⟨c3, rfl, c30, c31, DU4, fU4, _⟩
          simp only [wp_ok, wp_exc, wp_ret, wp_badM, wp_lift, wp_chk, wp_alloc, wp_grd, wp_tgt, wp_noXe, wp_dVar, wp_dC, wp_aNil, wp_aCons, wp_dTup, wp_dLst, wp_dOp, wp_dUn, wp_dFn, wB_bl, wp_dChain, wp_dTru, wp_dBool, wp_dNot, wp_dAnd, wp_dOr, wp_dAndV, wp_dOrV, wp_dNotV, wp_dIfE, wp_dYes, wp_dCall, wp_dCallK, wp_dIsi, wp_dIsi2, wp_dMt, wp_oN, wI_int, wp_oS, wp_dSl, wp_dSrc, wp_dZip, wp_dRng1, wp_dRng2, wp_dEnum, wp_dLc, wpS_nx, wpS_rt, wpS_bk, wpS_ct, wpS_exc, wpS_bad, wpS_ite, wpS_dSeq, wpS_dNx, wpS_dBk, wpS_dCt, wpS_dDrop, wpS_dRet, wpS_dRetN, wpS_dIf, wpS_dSet, wpS_dAsg, wpS_dPar, wpS_dPar3, wpS_dSet2, wpS_dPut, wpS_dRaise, wpS_dFor, wp_dfn, wO_some, wO_none, wO_map, wO_bind, wO_ite, List.map_cons, List.map_nil, List.replicate_succ, List.replicate_zero, List.cons_append, List.nil_append, Nat.reduceSub, Nat.reduceAdd, List.getElem?_cons_zero, List.getElem?_cons_succ, List.set_cons_zero, List.set_cons_succ, List.length_cons, List.length_nil, tgN, tgNil, tgCons, tgTup, wipeE, isT, String.reduceBEq, Bool.and_false, Bool.false_and, Bool.true_and, Bool.and_true, Bool.or_false, Bool.false_or, Bool.true_or, Bool.or_true, Bool.not_true, Bool.not_false, if_true, if_false, true_and, and_true, Bool.false_eq_true, Bool.true_eq_false, reduceIte, opEq_int, opNe_int, opEq_str, opNe_str, opAdd_int, opSub_int, opMod_pos, opLt_int, opLe_int, opGt_int, opGe_int, opLt_str, opLe_str, opIsN_ref, opIsN_non, opIsN_int, opIsN_tup, opIsN_str, opIsN_bl, opEq_bl, opNe_bl, opFdiv_int, opMul_int, opPow_int, atI_0, atI_1, atI_2, opIx_ref, opIx_tup, opIx_rl, opLen_tup, opLen_str, opLen_rl, opMax2_int, opMin2_int, opInt_int, opInt_bl, tyN_non, tyN_bl, tyN_int, tyN_str, tyN_tup, tyN_rl, truthW_bl, srcW_tup, srcW_rl]
          exact ⟨nm, _, rfl, (six_ok _ (sub _ hnm2)).2, DU4, fU1.trans (fU2.trans (fU3.trans fU4))⟩
        rintro ε' U4 ⟨nm, wh, rfl, hnmN, DU4, fU4⟩
        dsimp only
        have geU := fU4.get _ _ be ge7
        have glU := fU4.get _ _ bl gl7
        rw [wpS_dSeq]
        refine wpS_join' (fun ε' S' => ε' = [some (.rl (ns.map W.int)), some (.ref d), some (.int (0 + i)), some (.ref qn), some (.ref qe), some (.str (PyData.list (es.map entD)).shown), some (.ref ql), some (.int (0 + t)), some (eW e0), y9, x10, x11, some (.str nm), some (.int wh)] ∧ Fr 0 U4 S') ?_ ?_
        · simp only [wp_ok, wp_exc, wp_ret, wp_badM, wp_lift, wp_chk, wp_alloc, wp_grd, wp_tgt, wp_noXe, wp_dVar, wp_dC, wp_aNil, wp_aCons, wp_dTup, wp_dLst, wp_dOp, wp_dUn, wp_dFn, wB_bl, wp_dChain, wp_dTru, wp_dBool, wp_dNot, wp_dAnd, wp_dOr, wp_dAndV, wp_dOrV, wp_dNotV, wp_dIfE, wp_dYes, wp_dCall, wp_dCallK, wp_dIsi, wp_dIsi2, wp_dMt, wp_oN, wI_int, wp_oS, wp_dSl, wp_dSrc, wp_dZip, wp_dRng1, wp_dRng2, wp_dEnum, wp_dLc, wpS_nx, wpS_rt, wpS_bk, wpS_ct, wpS_exc, wpS_bad, wpS_ite, wpS_dSeq, wpS_dNx, wpS_dBk, wpS_dCt, wpS_dDrop, wpS_dRet, wpS_dRetN, wpS_dIf, wpS_dSet, wpS_dAsg, wpS_dPar, wpS_dPar3, wpS_dSet2, wpS_dPut, wpS_dRaise, wpS_dFor, wp_dfn, wO_some, wO_none, wO_map, wO_bind, wO_ite, List.map_cons, List.map_nil, List.replicate_succ, List.replicate_zero, List.cons_append, List.nil_append, Nat.reduceSub, Nat.reduceAdd, List.getElem?_cons_zero, List.getElem?_cons_succ, List.set_cons_zero, List.set_cons_succ, List.length_cons, List.length_nil, tgN, tgNil, tgCons, tgTup, wipeE, isT, String.reduceBEq, Bool.and_false, Bool.false_and, Bool.true_and, Bool.and_true, Bool.or_false, Bool.false_or, Bool.true_or, Bool.or_true, Bool.not_true, Bool.not_false, if_true, if_false, true_and, and_true, Bool.false_eq_true, Bool.true_eq_false, reduceIte, opEq_int, opNe_int, opEq_str, opNe_str, opAdd_int, opSub_int, opMod_pos, opLt_int, opLe_int, opGt_int, opGe_int, opLt_str, opLe_str, opIsN_ref, opIsN_non, opIsN_int, opIsN_tup, opIsN_str, opIsN_bl, opEq_bl, opNe_bl, opFdiv_int, opMul_int, opPow_int, atI_0, atI_1, atI_2, opIx_ref, opIx_tup, opIx_rl, opLen_tup, opLen_str, opLen_rl, opMax2_int, opMin2_int, opInt_int, opInt_bl, tyN_non, tyN_bl, tyN_int, tyN_str, tyN_tup, tyN_rl, truthW_bl, srcW_tup, srcW_rl]
          refine wp_mono (known_state_spec geU (by omega) good hf hnmN) ?_ (fun _ _ q => q)
          rintro r U5 ⟨rfl, fU5⟩
          refine wp_mono (law_state_spec (fU5.g0 geU) (by omega)) ?_ (fun _ _ q => q)
          rintro r U6 ⟨rfl, fU6⟩
          simp only [wp_ok, wp_exc, wp_ret, wp_badM, wp_lift, wp_chk, wp_alloc, wp_grd, wp_tgt, wp_noXe, wp_dVar, wp_dC, wp_aNil, wp_aCons, wp_dTup, wp_dLst, wp_dOp, wp_dUn, wp_dFn, wB_bl, wp_dChain, wp_dTru, wp_dBool, wp_dNot, wp_dAnd, wp_dOr, wp_dAndV, wp_dOrV, wp_dNotV, wp_dIfE, wp_dYes, wp_dCall, wp_dCallK, wp_dIsi, wp_dIsi2, wp_dMt, wp_oN, wI_int, wp_oS, wp_dSl, wp_dSrc, wp_dZip, wp_dRng1, wp_dRng2, wp_dEnum, wp_dLc, wpS_nx, wpS_rt, wpS_bk, wpS_ct, wpS_exc, wpS_bad, wpS_ite, wpS_dSeq, wpS_dNx, wpS_dBk, wpS_dCt, wpS_dDrop, wpS_dRet, wpS_dRetN, wpS_dIf, wpS_dSet, wpS_dAsg, wpS_dPar, wpS_dPar3, wpS_dSet2, wpS_dPut, wpS_dRaise, wpS_dFor, wp_dfn, wO_some, wO_none, wO_map, wO_bind, wO_ite, List.map_cons, List.map_nil, List.replicate_succ, List.replicate_zero, List.cons_append, List.nil_append, Nat.reduceSub, Nat.reduceAdd, List.getElem?_cons_zero, List.getElem?_cons_succ, List.set_cons_zero, List.set_cons_succ, List.length_cons, List.length_nil, tgN, tgNil, tgCons, tgTup, wipeE, isT, String.reduceBEq, Bool.and_false, Bool.false_and, Bool.true_and, Bool.and_true, Bool.or_false, Bool.false_or, Bool.true_or, Bool.or_true, Bool.not_true, Bool.not_false, if_true, if_false, true_and, and_true, Bool.false_eq_true, Bool.true_eq_false, reduceIte, opEq_int, opNe_int, opEq_str, opNe_str, opAdd_int, opSub_int, opMod_pos, opLt_int, opLe_int, opGt_int, opGe_int, opLt_str, opLe_str, opIsN_ref, opIsN_non, opIsN_int, opIsN_tup, opIsN_str, opIsN_bl, opEq_bl, opNe_bl, opFdiv_int, opMul_int, opPow_int, atI_0, atI_1, atI_2, opIx_ref, opIx_tup, opIx_rl, opLen_tup, opLen_str, opLen_rl, opMax2_int, opMin2_int, opInt_int, opInt_bl, tyN_non, tyN_bl, tyN_int, tyN_str, tyN_tup, tyN_rl, truthW_bl, srcW_tup, srcW_rl, beq_self_eq_true]
          exact fU5.trans fU6
        rintro ε' U6 ⟨rfl, fU6⟩
        dsimp only
        rw [wpS_dSeq]
        refine wpS_join' (fun ε' S' => ε' = [some (.rl (ns.map W.int)), some (.ref d), some (.int (0 + i)), some (.ref qn), some (.ref qe), some (.str (PyData.list (es.map entD)).shown), some (.ref ql), some (.int (0 + t)), some (eW e0), y9, x10, x11, some (.str nm), some (.int wh)] ∧ Fr 0 U4 S') ?_ ?_
        · simp only [wp_ok, wp_exc, wp_ret, wp_badM, wp_lift, wp_chk, wp_alloc, wp_grd, wp_tgt, wp_noXe, wp_dVar, wp_dC, wp_aNil, wp_aCons, wp_dTup, wp_dLst, wp_dOp, wp_dUn, wp_dFn, wB_bl, wp_dChain, wp_dTru, wp_dBool, wp_dNot, wp_dAnd, wp_dOr, wp_dAndV, wp_dOrV, wp_dNotV, wp_dIfE, wp_dYes, wp_dCall, wp_dCallK, wp_dIsi, wp_dIsi2, wp_dMt, wp_oN, wI_int, wp_oS, wp_dSl, wp_dSrc, wp_dZip, wp_dRng1, wp_dRng2, wp_dEnum, wp_dLc, wpS_nx, wpS_rt, wpS_bk, wpS_ct, wpS_exc, wpS_bad, wpS_ite, wpS_dSeq, wpS_dNx, wpS_dBk, wpS_dCt, wpS_dDrop, wpS_dRet, wpS_dRetN, wpS_dIf, wpS_dSet, wpS_dAsg, wpS_dPar, wpS_dPar3, wpS_dSet2, wpS_dPut, wpS_dRaise, wpS_dFor, wp_dfn, wO_some, wO_none, wO_map, wO_bind, wO_ite, List.map_cons, List.map_nil, List.replicate_succ, List.replicate_zero, List.cons_append, List.nil_append, Nat.reduceSub, Nat.reduceAdd, List.getElem?_cons_zero, List.getElem?_cons_succ, List.set_cons_zero, List.set_cons_succ, List.length_cons, List.length_nil, tgN, tgNil, tgCons, tgTup, wipeE, isT, String.reduceBEq, Bool.and_false, Bool.false_and, Bool.true_and, Bool.and_true, Bool.or_false, Bool.false_or, Bool.true_or, Bool.or_true, Bool.not_true, Bool.not_false, if_true, if_false, true_and, and_true, Bool.false_eq_true, Bool.true_eq_false, reduceIte, opEq_int, opNe_int, opEq_str, opNe_str, opAdd_int, opSub_int, opMod_pos, opLt_int, opLe_int, opGt_int, opGe_int, opLt_str, opLe_str, opIsN_ref, opIsN_non, opIsN_int, opIsN_tup, opIsN_str, opIsN_bl, opEq_bl, opNe_bl, opFdiv_int, opMul_int, opPow_int, atI_0, atI_1, atI_2, opIx_ref, opIx_tup, opIx_rl, opLen_tup, opLen_str, opLen_rl, opMax2_int, opMin2_int, opInt_int, opInt_bl, tyN_non, tyN_bl, tyN_int, tyN_str, tyN_tup, tyN_rl, truthW_bl, srcW_tup, srcW_rl]
          refine wp_mono (known_state_spec (fU6.g0 geU) (by omega) good hf hn0) ?_ (fun _ _ q => q)
          rintro r U7 ⟨rfl, fU7⟩
          refine wp_mono (law_state_spec ((fU6.trans fU7).g0 geU) (by omega)) ?_ (fun _ _ q => q)
          rintro r U8 ⟨rfl, fU8⟩
          simp only [wp_ok, wp_exc, wp_ret, wp_badM, wp_lift, wp_chk, wp_alloc, wp_grd, wp_tgt, wp_noXe, wp_dVar, wp_dC, wp_aNil, wp_aCons, wp_dTup, wp_dLst, wp_dOp, wp_dUn, wp_dFn, wB_bl, wp_dChain, wp_dTru, wp_dBool, wp_dNot, wp_dAnd, wp_dOr, wp_dAndV, wp_dOrV, wp_dNotV, wp_dIfE, wp_dYes, wp_dCall, wp_dCallK, wp_dIsi, wp_dIsi2, wp_dMt, wp_oN, wI_int, wp_oS, wp_dSl, wp_dSrc, wp_dZip, wp_dRng1, wp_dRng2, wp_dEnum, wp_dLc, wpS_nx, wpS_rt, wpS_bk, wpS_ct, wpS_exc, wpS_bad, wpS_ite, wpS_dSeq, wpS_dNx, wpS_dBk, wpS_dCt, wpS_dDrop, wpS_dRet, wpS_dRetN, wpS_dIf, wpS_dSet, wpS_dAsg, wpS_dPar, wpS_dPar3, wpS_dSet2, wpS_dPut, wpS_dRaise, wpS_dFor, wp_dfn, wO_some, wO_none, wO_map, wO_bind, wO_ite, List.map_cons, List.map_nil, List.replicate_succ, List.replicate_zero, List.cons_append, List.nil_append, Nat.reduceSub, Nat.reduceAdd, List.getElem?_cons_zero, List.getElem?_cons_succ, List.set_cons_zero, List.set_cons_succ, List.length_cons, List.length_nil, tgN, tgNil, tgCons, tgTup, wipeE, isT, String.reduceBEq, Bool.and_false, Bool.false_and, Bool.true_and, Bool.and_true, Bool.or_false, Bool.false_or, Bool.true_or, Bool.or_true, Bool.not_true, Bool.not_false, if_true, if_false, true_and, and_true, Bool.false_eq_true, Bool.true_eq_false, reduceIte, opEq_int, opNe_int, opEq_str, opNe_str, opAdd_int, opSub_int, opMod_pos, opLt_int, opLe_int, opGt_int, opGe_int, opLt_str, opLe_str, opIsN_ref, opIsN_non, opIsN_int, opIsN_tup, opIsN_str, opIsN_bl, opEq_bl, opNe_bl, opFdiv_int, opMul_int, opPow_int, atI_0, atI_1, atI_2, opIx_ref, opIx_tup, opIx_rl, opLen_tup, opLen_str, opLen_rl, opMax2_int, opMin2_int, opInt_int, opInt_bl, tyN_non, tyN_bl, tyN_int, tyN_str, tyN_tup, tyN_rl, truthW_bl, srcW_tup, srcW_rl, beq_self_eq_true]
          exact fU6.trans (fU7.trans fU8)
        rintro ε' U8 ⟨rfl, fU8⟩
        dsimp only
        rw [wpS_dSeq]
        refine wpS_join' (fun ε' S' => ε' = [some (.rl (ns.map W.int)), some (.ref d), some (.int (0 + i)), some (.ref qn), some (.ref qe), some (.str (PyData.list (es.map entD)).shown), some (.ref ql), some (.int (0 + t)), some (eW e0), some (.tup [.int (leastOf es xs wh), optW (greatOf es xs wh)]), x10, x11, some (.str nm), some (.int wh)] ∧ Fr 0 U4 S') ?_ ?_
        · simp only [wp_ok, wp_exc, wp_ret, wp_badM, wp_lift, wp_chk, wp_alloc, wp_grd, wp_tgt, wp_noXe, wp_dVar, wp_dC, wp_aNil, wp_aCons, wp_dTup, wp_dLst, wp_dOp, wp_dUn, wp_dFn, wB_bl, wp_dChain, wp_dTru, wp_dBool, wp_dNot, wp_dAnd, wp_dOr, wp_dAndV, wp_dOrV, wp_dNotV, wp_dIfE, wp_dYes, wp_dCall, wp_dCallK, wp_dIsi, wp_dIsi2, wp_dMt, wp_oN, wI_int, wp_oS, wp_dSl, wp_dSrc, wp_dZip, wp_dRng1, wp_dRng2, wp_dEnum, wp_dLc, wpS_nx, wpS_rt, wpS_bk, wpS_ct, wpS_exc, wpS_bad, wpS_ite, wpS_dSeq, wpS_dNx, wpS_dBk, wpS_dCt, wpS_dDrop, wpS_dRet, wpS_dRetN, wpS_dIf, wpS_dSet, wpS_dAsg, wpS_dPar, wpS_dPar3, wpS_dSet2, wpS_dPut, wpS_dRaise, wpS_dFor, wp_dfn, wO_some, wO_none, wO_map, wO_bind, wO_ite, List.map_cons, List.map_nil, List.replicate_succ, List.replicate_zero, List.cons_append, List.nil_append, Nat.reduceSub, Nat.reduceAdd, List.getElem?_cons_zero, List.getElem?_cons_succ, List.set_cons_zero, List.set_cons_succ, List.length_cons, List.length_nil, tgN, tgNil, tgCons, tgTup, wipeE, isT, String.reduceBEq, Bool.and_false, Bool.false_and, Bool.true_and, Bool.and_true, Bool.or_false, Bool.false_or, Bool.true_or, Bool.or_true, Bool.not_true, Bool.not_false, if_true, if_false, true_and, and_true, Bool.false_eq_true, Bool.true_eq_false, reduceIte, opEq_int, opNe_int, opEq_str, opNe_str, opAdd_int, opSub_int, opMod_pos, opLt_int, opLe_int, opGt_int, opGe_int, opLt_str, opLe_str, opIsN_ref, opIsN_non, opIsN_int, opIsN_tup, opIsN_str, opIsN_bl, opEq_bl, opNe_bl, opFdiv_int, opMul_int, opPow_int, atI_0, atI_1, atI_2, opIx_ref, opIx_tup, opIx_rl, opLen_tup, opLen_str, opLen_rl, opMax2_int, opMin2_int, opInt_int, opInt_bl, tyN_non, tyN_bl, tyN_int, tyN_str, tyN_tup, tyN_rl, truthW_bl, srcW_tup, srcW_rl]
          refine wp_mono (law_least_spec (fU8.g0 geU) (by omega) hf good (fU8.g0 glU) (by omega)) ?_ (fun _ _ q => q)
          rintro r U9 ⟨rfl, fU9⟩
          refine wp_mono (law_greatest_spec ((fU8.trans fU9).g0 geU) (by omega) ((fU8.trans fU9).g0 glU) (by omega)) ?_ (fun _ _ q => q)
          rintro r U10 ⟨rfl, fU10⟩
          exact ⟨lenOk_of (by decide), rfl, fU8.trans (fU9.trans fU10)⟩
        rintro ε' U10 ⟨rfl, fU10⟩
        dsimp only
        simp only [wp_ok, wp_exc, wp_ret, wp_badM, wp_lift, wp_chk, wp_alloc, wp_grd, wp_tgt, wp_noXe, wp_dVar, wp_dC, wp_aNil, wp_aCons, wp_dTup, wp_dLst, wp_dOp, wp_dUn, wp_dFn, wB_bl, wp_dChain, wp_dTru, wp_dBool, wp_dNot, wp_dAnd, wp_dOr, wp_dAndV, wp_dOrV, wp_dNotV, wp_dIfE, wp_dYes, wp_dCall, wp_dCallK, wp_dIsi, wp_dIsi2, wp_dMt, wp_oN, wI_int, wp_oS, wp_dSl, wp_dSrc, wp_dZip, wp_dRng1, wp_dRng2, wp_dEnum, wp_dLc, wpS_nx, wpS_rt, wpS_bk, wpS_ct, wpS_exc, wpS_bad, wpS_ite, wpS_dSeq, wpS_dNx, wpS_dBk, wpS_dCt, wpS_dDrop, wpS_dRet, wpS_dRetN, wpS_dIf, wpS_dSet, wpS_dAsg, wpS_dPar, wpS_dPar3, wpS_dSet2, wpS_dPut, wpS_dRaise, wpS_dFor, wp_dfn, wO_some, wO_none, wO_map, wO_bind, wO_ite, List.map_cons, List.map_nil, List.replicate_succ, List.replicate_zero, List.cons_append, List.nil_append, Nat.reduceSub, Nat.reduceAdd, List.getElem?_cons_zero, List.getElem?_cons_succ, List.set_cons_zero, List.set_cons_succ, List.length_cons, List.length_nil, tgN, tgNil, tgCons, tgTup, wipeE, isT, String.reduceBEq, Bool.and_false, Bool.false_and, Bool.true_and, Bool.and_true, Bool.or_false, Bool.false_or, Bool.true_or, Bool.or_true, Bool.not_true, Bool.not_false, if_true, if_false, true_and, and_true, Bool.false_eq_true, Bool.true_eq_false, reduceIte, opEq_int, opNe_int, opEq_str, opNe_str, opAdd_int, opSub_int, opMod_pos, opLt_int, opLe_int, opGt_int, opGe_int, opLt_str, opLe_str, opIsN_ref, opIsN_non, opIsN_int, opIsN_tup, opIsN_str, opIsN_bl, opEq_bl, opNe_bl, opFdiv_int, opMul_int, opPow_int, atI_0, atI_1, atI_2, opIx_ref, opIx_tup, opIx_rl, opLen_tup, opLen_str, opLen_rl, opMax2_int, opMin2_int, opInt_int, opInt_bl, tyN_non, tyN_bl, tyN_int, tyN_str, tyN_tup, tyN_rl, truthW_bl, srcW_tup, srcW_rl]
        refine wp_mono (day_range_spec (fU10.g0 geU) (by omega) good hf (fU10.g0 glU) hxs (by omega)) ?_ (fun _ _ q => q)
        rintro r U11 ⟨rfl, fU11⟩
        refine wp_mono (same_spec 8 twin_range) ?_ (fun _ _ q => q)
        rintro r U12 ⟨rfl, fU12⟩
        simp only [wp_ok, wp_exc, wp_ret, wp_badM, wp_lift, wp_chk, wp_alloc, wp_grd, wp_tgt, wp_noXe, wp_dVar, wp_dC, wp_aNil, wp_aCons, wp_dTup, wp_dLst, wp_dOp, wp_dUn, wp_dFn, wB_bl, wp_dChain, wp_dTru, wp_dBool, wp_dNot, wp_dAnd, wp_dOr, wp_dAndV, wp_dOrV, wp_dNotV, wp_dIfE, wp_dYes, wp_dCall, wp_dCallK, wp_dIsi, wp_dIsi2, wp_dMt, wp_oN, wI_int, wp_oS, wp_dSl, wp_dSrc, wp_dZip, wp_dRng1, wp_dRng2, wp_dEnum, wp_dLc, wpS_nx, wpS_rt, wpS_bk, wpS_ct, wpS_exc, wpS_bad, wpS_ite, wpS_dSeq, wpS_dNx, wpS_dBk, wpS_dCt, wpS_dDrop, wpS_dRet, wpS_dRetN, wpS_dIf, wpS_dSet, wpS_dAsg, wpS_dPar, wpS_dPar3, wpS_dSet2, wpS_dPut, wpS_dRaise, wpS_dFor, wp_dfn, wO_some, wO_none, wO_map, wO_bind, wO_ite, List.map_cons, List.map_nil, List.replicate_succ, List.replicate_zero, List.cons_append, List.nil_append, Nat.reduceSub, Nat.reduceAdd, List.getElem?_cons_zero, List.getElem?_cons_succ, List.set_cons_zero, List.set_cons_succ, List.length_cons, List.length_nil, tgN, tgNil, tgCons, tgTup, wipeE, isT, String.reduceBEq, Bool.and_false, Bool.false_and, Bool.true_and, Bool.and_true, Bool.or_false, Bool.false_or, Bool.true_or, Bool.or_true, Bool.not_true, Bool.not_false, if_true, if_false, true_and, and_true, Bool.false_eq_true, Bool.true_eq_false, reduceIte, opEq_int, opNe_int, opEq_str, opNe_str, opAdd_int, opSub_int, opMod_pos, opLt_int, opLe_int, opGt_int, opGe_int, opLt_str, opLe_str, opIsN_ref, opIsN_non, opIsN_int, opIsN_tup, opIsN_str, opIsN_bl, opEq_bl, opNe_bl, opFdiv_int, opMul_int, opPow_int, atI_0, atI_1, atI_2, opIx_ref, opIx_tup, opIx_rl, opLen_tup, opLen_str, opLen_rl, opMax2_int, opMin2_int, opInt_int, opInt_bl, tyN_non, tyN_bl, tyN_int, tyN_str, tyN_tup, tyN_rl, truthW_bl, srcW_tup, srcW_rl]
        have fE := fU10.trans (fU11.trans fU12)
        exact ⟨_, _, _, _, _, rfl, DU4.mono (by omega) fE, f7.trans (fU4.trans (fE.up (Nat.zero_le _)))⟩
      · rintro ε' S7 ⟨y7, y8, y9, y12, y13, rfl, D7, f7⟩
        have l2 : (rngW 0 (Int.toNat 2)).length = 2 := rngW_len
        exact ⟨_, _, _, _, _, rfl, D7.mono (by omega) Fr.refl, f7⟩
    rintro ε' S8 ⟨x7, x8, x9, x12, x13, rfl, D8, f8⟩
    dsimp only
    have ge8 := f8.get _ _ be ge6
    rw [wpS_dSeq]
    refine wpS_join' (fun ε' S' => ∃ x10 x11 : Option W, ε' = [some (.rl (ns.map W.int)), some (.ref d), some (.int (0 + i)), some (.ref qn), some (.ref qe), some (.str (PyData.list (es.map entD)).shown), some (.ref ql), x7, x8, x9, x10, x11, x12, x13] ∧ Deck B (2000 + 30000 * i + 20600) d S' ∧ Fr B S8 S') ?_ ?_
    · simp only [wp_ok, wp_exc, wp_ret, wp_badM, wp_lift, wp_chk, wp_alloc, wp_grd, wp_tgt, wp_noXe, wp_dVar, wp_dC, wp_aNil, wp_aCons, wp_dTup, wp_dLst, wp_dOp, wp_dUn, wp_dFn, wB_bl, wp_dChain, wp_dTru, wp_dBool, wp_dNot, wp_dAnd, wp_dOr, wp_dAndV, wp_dOrV, wp_dNotV, wp_dIfE, wp_dYes, wp_dCall, wp_dCallK, wp_dIsi, wp_dIsi2, wp_dMt, wp_oN, wI_int, wp_oS, wp_dSl, wp_dSrc, wp_dZip, wp_dRng1, wp_dRng2, wp_dEnum, wp_dLc, wpS_nx, wpS_rt, wpS_bk, wpS_ct, wpS_exc, wpS_bad, wpS_ite, wpS_dSeq, wpS_dNx, wpS_dBk, wpS_dCt, wpS_dDrop, wpS_dRet, wpS_dRetN, wpS_dIf, wpS_dSet, wpS_dAsg, wpS_dPar, wpS_dPar3, wpS_dSet2, wpS_dPut, wpS_dRaise, wpS_dFor, wp_dfn, wO_some, wO_none, wO_map, wO_bind, wO_ite, List.map_cons, List.map_nil, List.replicate_succ, List.replicate_zero, List.cons_append, List.nil_append, Nat.reduceSub, Nat.reduceAdd, List.getElem?_cons_zero, List.getElem?_cons_succ, List.set_cons_zero, List.set_cons_succ, List.length_cons, List.length_nil, tgN, tgNil, tgCons, tgTup, wipeE, isT, String.reduceBEq, Bool.and_false, Bool.false_and, Bool.true_and, Bool.and_true, Bool.or_false, Bool.false_or, Bool.true_or, Bool.or_true, Bool.not_true, Bool.not_false, if_true, if_false, true_and, and_true, Bool.false_eq_true, Bool.true_eq_false, reduceIte, opEq_int, opNe_int, opEq_str, opNe_str, opAdd_int, opSub_int, opMod_pos, opLt_int, opLe_int, opGt_int, opGe_int, opLt_str, opLe_str, opIsN_ref, opIsN_non, opIsN_int, opIsN_tup, opIsN_str, opIsN_bl, opEq_bl, opNe_bl, opFdiv_int, opMul_int, opPow_int, atI_0, atI_1, atI_2, opIx_ref, opIx_tup, opIx_rl, opLen_tup, opLen_str, opLen_rl, opMax2_int, opMin2_int, opInt_int, opInt_bl, tyN_non, tyN_bl, tyN_int, tyN_str, tyN_tup, tyN_rl, truthW_bl, srcW_tup, srcW_rl, lenOk_of (show 0 ≤ 1000000 by decide)]
      rw [opNe_entsNil (Fr.app.g0 ge8) get_new, wO_some]
      simp only [wp_ok, wp_exc, wp_ret, wp_badM, wp_lift, wp_chk, wp_alloc, wp_grd, wp_tgt, wp_noXe, wp_dVar, wp_dC, wp_aNil, wp_aCons, wp_dTup, wp_dLst, wp_dOp, wp_dUn, wp_dFn, wB_bl, wp_dChain, wp_dTru, wp_dBool, wp_dNot, wp_dAnd, wp_dOr, wp_dAndV, wp_dOrV, wp_dNotV, wp_dIfE, wp_dYes, wp_dCall, wp_dCallK, wp_dIsi, wp_dIsi2, wp_dMt, wp_oN, wI_int, wp_oS, wp_dSl, wp_dSrc, wp_dZip, wp_dRng1, wp_dRng2, wp_dEnum, wp_dLc, wpS_nx, wpS_rt, wpS_bk, wpS_ct, wpS_exc, wpS_bad, wpS_ite, wpS_dSeq, wpS_dNx, wpS_dBk, wpS_dCt, wpS_dDrop, wpS_dRet, wpS_dRetN, wpS_dIf, wpS_dSet, wpS_dAsg, wpS_dPar, wpS_dPar3, wpS_dSet2, wpS_dPut, wpS_dRaise, wpS_dFor, wp_dfn, wO_some, wO_none, wO_map, wO_bind, wO_ite, List.map_cons, List.map_nil, List.replicate_succ, List.replicate_zero, List.cons_append, List.nil_append, Nat.reduceSub, Nat.reduceAdd, List.getElem?_cons_zero, List.getElem?_cons_succ, List.set_cons_zero, List.set_cons_succ, List.length_cons, List.length_nil, tgN, tgNil, tgCons, tgTup, wipeE, isT, String.reduceBEq, Bool.and_false, Bool.false_and, Bool.true_and, Bool.and_true, Bool.or_false, Bool.false_or, Bool.true_or, Bool.or_true, Bool.not_true, Bool.not_false, if_true, if_false, true_and, and_true, Bool.false_eq_true, Bool.true_eq_false, reduceIte, opEq_int, opNe_int, opEq_str, opNe_str, opAdd_int, opSub_int, opMod_pos, opLt_int, opLe_int, opGt_int, opGe_int, opLt_str, opLe_str, opIsN_ref, opIsN_non, opIsN_int, opIsN_tup, opIsN_str, opIsN_bl, opEq_bl, opNe_bl, opFdiv_int, opMul_int, opPow_int, atI_0, atI_1, atI_2, opIx_ref, opIx_tup, opIx_rl, opLen_tup, opLen_str, opLen_rl, opMax2_int, opMin2_int, opInt_int, opInt_bl, tyN_non, tyN_bl, tyN_int, tyN_str, tyN_tup, tyN_rl, truthW_bl, srcW_tup, srcW_rl]
      have D8' := D8.mono (Nat.le_refl _) (Fr.app (B := 0) (S := S8) (T := [O.lst []]))
      have f8' : Fr B S8 (S8 ++ [O.lst []]) := Fr.app
      have geX : (S8 ++ [O.lst []])[qe]? = some (.lst (es.map eW)) := Fr.app.g0 ge8
      generalize S8 ++ [O.lst []] = T at D8' f8' geX ⊢
      cases hes : es with
      | nil => exact ⟨_, _, rfl, D8'.mono (by omega) Fr.refl, f8'⟩
      | cons ea et =>
        rw [← hes]
        have hpos : 0 < es.length := by rw [hes]; simp
        rw [if_pos (by rw [hes]; rfl)]
        simp only [wp_ok, wp_exc, wp_ret, wp_badM, wp_lift, wp_chk, wp_alloc, wp_grd, wp_tgt, wp_noXe, wp_dVar, wp_dC, wp_aNil, wp_aCons, wp_dTup, wp_dLst, wp_dOp, wp_dUn, wp_dFn, wB_bl, wp_dChain, wp_dTru, wp_dBool, wp_dNot, wp_dAnd, wp_dOr, wp_dAndV, wp_dOrV, wp_dNotV, wp_dIfE, wp_dYes, wp_dCall, wp_dCallK, wp_dIsi, wp_dIsi2, wp_dMt, wp_oN, wI_int, wp_oS, wp_dSl, wp_dSrc, wp_dZip, wp_dRng1, wp_dRng2, wp_dEnum, wp_dLc, wpS_nx, wpS_rt, wpS_bk, wpS_ct, wpS_exc, wpS_bad, wpS_ite, wpS_dSeq, wpS_dNx, wpS_dBk, wpS_dCt, wpS_dDrop, wpS_dRet, wpS_dRetN, wpS_dIf, wpS_dSet, wpS_dAsg, wpS_dPar, wpS_dPar3, wpS_dSet2, wpS_dPut, wpS_dRaise, wpS_dFor, wp_dfn, wO_some, wO_none, wO_map, wO_bind, wO_ite, List.map_cons, List.map_nil, List.replicate_succ, List.replicate_zero, List.cons_append, List.nil_append, Nat.reduceSub, Nat.reduceAdd, List.getElem?_cons_zero, List.getElem?_cons_succ, List.set_cons_zero, List.set_cons_succ, List.length_cons, List.length_nil, tgN, tgNil, tgCons, tgTup, wipeE, isT, String.reduceBEq, Bool.and_false, Bool.false_and, Bool.true_and, Bool.and_true, Bool.or_false, Bool.false_or, Bool.true_or, Bool.or_true, Bool.not_true, Bool.not_false, if_true, if_false, true_and, and_true, Bool.false_eq_true, Bool.true_eq_false, reduceIte, opEq_int, opNe_int, opEq_str, opNe_str, opAdd_int, opSub_int, opMod_pos, opLt_int, opLe_int, opGt_int, opGe_int, opLt_str, opLe_str, opIsN_ref, opIsN_non, opIsN_int, opIsN_tup, opIsN_str, opIsN_bl, opEq_bl, opNe_bl, opFdiv_int, opMul_int, opPow_int, atI_0, atI_1, atI_2, opIx_ref, opIx_tup, opIx_rl, opLen_tup, opLen_str, opLen_rl, opMax2_int, opMin2_int, opInt_int, opInt_bl, tyN_non, tyN_bl, tyN_int, tyN_str, tyN_tup, tyN_rl, truthW_bl, srcW_tup, srcW_rl, opLen_ref geX, List.length_map]
        refine wp_mono (draw_spec D8' (by omega) (by omega) (by omega)) ?_ (fun _ _ q => q)
        rintro r T1 ⟨c, rfl, c0, c1, DT1, fT1, _⟩
        have hc : c.toNat < es.length := by omega
        obtain ⟨e0, he0, hm0⟩ : ∃ e0, es[c.toNat]? = some e0 ∧ e0 ∈ es := ⟨_, List.getElem?_eq_getElem hc, List.getElem_mem hc⟩
        have geT1 := fT1.get _ _ be geX
        have ct : cutL (es.map eW) none (some (199 : Int)) = (es.take 199).map eW := by
          unfold cutL
          rw [HT.sIx_none, show (199 : Int) = ((199 : Nat) : Int) from rfl, HT.sIx_nat, List.drop_zero, Nat.sub_zero, ← List.take_eq_take_min, List.map_take]
        simp only [wp_ok, wp_exc, wp_ret, wp_badM, wp_lift, wp_chk, wp_alloc, wp_grd, wp_tgt, wp_noXe, wp_dVar, wp_dC, wp_aNil, wp_aCons, wp_dTup, wp_dLst, wp_dOp, wp_dUn, wp_dFn, wB_bl, wp_dChain, wp_dTru, wp_dBool, wp_dNot, wp_dAnd, wp_dOr, wp_dAndV, wp_dOrV, wp_dNotV, wp_dIfE, wp_dYes, wp_dCall, wp_dCallK, wp_dIsi, wp_dIsi2, wp_dMt, wp_oN, wI_int, wp_oS, wp_dSl, wp_dSrc, wp_dZip, wp_dRng1, wp_dRng2, wp_dEnum, wp_dLc, wpS_nx, wpS_rt, wpS_bk, wpS_ct, wpS_exc, wpS_bad, wpS_ite, wpS_dSeq, wpS_dNx, wpS_dBk, wpS_dCt, wpS_dDrop, wpS_dRet, wpS_dRetN, wpS_dIf, wpS_dSet, wpS_dAsg, wpS_dPar, wpS_dPar3, wpS_dSet2, wpS_dPut, wpS_dRaise, wpS_dFor, wp_dfn, wO_some, wO_none, wO_map, wO_bind, wO_ite, List.map_cons, List.map_nil, List.replicate_succ, List.replicate_zero, List.cons_append, List.nil_append, Nat.reduceSub, Nat.reduceAdd, List.getElem?_cons_zero, List.getElem?_cons_succ, List.set_cons_zero, List.set_cons_succ, List.length_cons, List.length_nil, tgN, tgNil, tgCons, tgTup, wipeE, isT, String.reduceBEq, Bool.and_false, Bool.false_and, Bool.true_and, Bool.and_true, Bool.or_false, Bool.false_or, Bool.true_or, Bool.or_true, Bool.not_true, Bool.not_false, if_true, if_false, true_and, and_true, Bool.false_eq_true, Bool.true_eq_false, reduceIte, opEq_int, opNe_int, opEq_str, opNe_str, opAdd_int, opSub_int, opMod_pos, opLt_int, opLe_int, opGt_int, opGe_int, opLt_str, opLe_str, opIsN_ref, opIsN_non, opIsN_int, opIsN_tup, opIsN_str, opIsN_bl, opEq_bl, opNe_bl, opFdiv_int, opMul_int, opPow_int, atI_0, atI_1, atI_2, opIx_ref, opIx_tup, opIx_rl, opLen_tup, opLen_str, opLen_rl, opMax2_int, opMin2_int, opInt_int, opInt_bl, tyN_non, tyN_bl, tyN_int, tyN_str, tyN_tup, tyN_rl, truthW_bl, srcW_tup, srcW_rl, lstAt_of geT1, atI_nn c0, List.getElem?_map, he0, Option.map_some, opSl_ref geT1, ct]
        refine wp_mono (draw_spec (DT1.mono (Nat.le_refl _) Fr.app) (by omega) (by decide) (by decide)) ?_ (fun _ _ q => q)
        rintro r T2 ⟨k2, rfl, k20, k21, DT2, fT2, _⟩
        simp only [wp_ok, wp_exc, wp_ret, wp_badM, wp_lift, wp_chk, wp_alloc, wp_grd, wp_tgt, wp_noXe, wp_dVar, wp_dC, wp_aNil, wp_aCons, wp_dTup, wp_dLst, wp_dOp, wp_dUn, wp_dFn, wB_bl, wp_dChain, wp_dTru, wp_dBool, wp_dNot, wp_dAnd, wp_dOr, wp_dAndV, wp_dOrV, wp_dNotV, wp_dIfE, wp_dYes, wp_dCall, wp_dCallK, wp_dIsi, wp_dIsi2, wp_dMt, wp_oN, wI_int, wp_oS, wp_dSl, wp_dSrc, wp_dZip, wp_dRng1, wp_dRng2, wp_dEnum, wp_dLc, wpS_nx, wpS_rt, wpS_bk, wpS_ct, wpS_exc, wpS_bad, wpS_ite, wpS_dSeq, wpS_dNx, wpS_dBk, wpS_dCt, wpS_dDrop, wpS_dRet, wpS_dRetN, wpS_dIf, wpS_dSet, wpS_dAsg, wpS_dPar, wpS_dPar3, wpS_dSet2, wpS_dPut, wpS_dRaise, wpS_dFor, wp_dfn, wO_some, wO_none, wO_map, wO_bind, wO_ite, List.map_cons, List.map_nil, List.replicate_succ, List.replicate_zero, List.cons_append, List.nil_append, Nat.reduceSub, Nat.reduceAdd, List.getElem?_cons_zero, List.getElem?_cons_succ, List.set_cons_zero, List.set_cons_succ, List.length_cons, List.length_nil, tgN, tgNil, tgCons, tgTup, wipeE, isT, String.reduceBEq, Bool.and_false, Bool.false_and, Bool.true_and, Bool.and_true, Bool.or_false, Bool.false_or, Bool.true_or, Bool.or_true, Bool.not_true, Bool.not_false, if_true, if_false, true_and, and_true, Bool.false_eq_true, Bool.true_eq_false, reduceIte, opEq_int, opNe_int, opEq_str, opNe_str, opAdd_int, opSub_int, opMod_pos, opLt_int, opLe_int, opGt_int, opGe_int, opLt_str, opLe_str, opIsN_ref, opIsN_non, opIsN_int, opIsN_tup, opIsN_str, opIsN_bl, opEq_bl, opNe_bl, opFdiv_int, opMul_int, opPow_int, atI_0, atI_1, atI_2, opIx_ref, opIx_tup, opIx_rl, opLen_tup, opLen_str, opLen_rl, opMax2_int, opMin2_int, opInt_int, opInt_bl, tyN_non, tyN_bl, tyN_int, tyN_str, tyN_tup, tyN_rl, truthW_bl, srcW_tup, srcW_rl]
        refine wp_mono (draw_spec DT2 (by omega) (by decide) (by decide)) ?_ (fun _ _ q => q)
        rintro r T3 ⟨k3, rfl, k30, k31, DT3, fT3, _⟩
        have gS : T3[T1.length]? = some (.lst ((es.take 199).map eW)) := (fT2.trans fT3).get _ _ DT1.bl get_new
        have lt : (es.take 199).length ≤ 199 := by rw [List.length_take]; omega
        have ga := opAdd_ref (S := T3 ++ [O.lst [W.tup [W.str e0.1, W.int (e0.2.1 - k2), W.int (e0.2.2 + k3)]]]) (n := T1.length) (m := T3.length) (a := (es.take 199).map eW) (b := [W.tup [W.str e0.1, W.int (e0.2.1 - k2), W.int (e0.2.2 + k3)]]) (Fr.app.g0 gS) get_new (by simp; omega)
        simp only [wp_ok, wp_exc, wp_ret, wp_badM, wp_lift, wp_chk, wp_alloc, wp_grd, wp_tgt, wp_noXe, wp_dVar, wp_dC, wp_aNil, wp_aCons, wp_dTup, wp_dLst, wp_dOp, wp_dUn, wp_dFn, wB_bl, wp_dChain, wp_dTru, wp_dBool, wp_dNot, wp_dAnd, wp_dOr, wp_dAndV, wp_dOrV, wp_dNotV, wp_dIfE, wp_dYes, wp_dCall, wp_dCallK, wp_dIsi, wp_dIsi2, wp_dMt, wp_oN, wI_int, wp_oS, wp_dSl, wp_dSrc, wp_dZip, wp_dRng1, wp_dRng2, wp_dEnum, wp_dLc, wpS_nx, wpS_rt, wpS_bk, wpS_ct, wpS_exc, wpS_bad, wpS_ite, wpS_dSeq, wpS_dNx, wpS_dBk, wpS_dCt, wpS_dDrop, wpS_dRet, wpS_dRetN, wpS_dIf, wpS_dSet, wpS_dAsg, wpS_dPar, wpS_dPar3, wpS_dSet2, wpS_dPut, wpS_dRaise, wpS_dFor, wp_dfn, wO_some, wO_none, wO_map, wO_bind, wO_ite, List.map_cons, List.map_nil, List.replicate_succ, List.replicate_zero, List.cons_append, List.nil_append, Nat.reduceSub, Nat.reduceAdd, List.getElem?_cons_zero, List.getElem?_cons_succ, List.set_cons_zero, List.set_cons_succ, List.length_cons, List.length_nil, tgN, tgNil, tgCons, tgTup, wipeE, isT, String.reduceBEq, Bool.and_false, Bool.false_and, Bool.true_and, Bool.and_true, Bool.or_false, Bool.false_or, Bool.true_or, Bool.or_true, Bool.not_true, Bool.not_false, if_true, if_false, true_and, and_true, Bool.false_eq_true, Bool.true_eq_false, reduceIte, opEq_int, opNe_int, opEq_str, opNe_str, opAdd_int, opSub_int, opMod_pos, opLt_int, opLe_int, opGt_int, opGe_int, opLt_str, opLe_str, opIsN_ref, opIsN_non, opIsN_int, opIsN_tup, opIsN_str, opIsN_bl, opEq_bl, opNe_bl, opFdiv_int, opMul_int, opPow_int, atI_0, atI_1, atI_2, opIx_ref, opIx_tup, opIx_rl, opLen_tup, opLen_str, opLen_rl, opMax2_int, opMin2_int, opInt_int, opInt_bl, tyN_non, tyN_bl, tyN_int, tyN_str, tyN_tup, tyN_rl, truthW_bl, srcW_tup, srcW_rl, lenOk_of (show 3 ≤ 1000000 by decide), lenOk_of (show 1 ≤ 1000000 by decide), ga]
        have gM : (T3 ++ [O.lst [W.tup [W.str e0.1, W.int (e0.2.1 - k2), W.int (e0.2.2 + k3)]]] ++ [O.lst ((es.take 199).map eW ++ [W.tup [W.str e0.1, W.int (e0.2.1 - k2), W.int (e0.2.2 + k3)]])])[(T3 ++ [O.lst [W.tup [W.str e0.1, W.int (e0.2.1 - k2), W.int (e0.2.2 + k3)]]]).length]? = some (.lst ((es.take 199 ++ [(e0.1, e0.2.1 - k2, e0.2.2 + k3)]).map eW)) := by
          rw [List.map_append]; exact get_new
        have DM := DT3.mono (Nat.le_refl _) ((Fr.app (B := 0) (S := T3) (T := [O.lst [W.tup [W.str e0.1, W.int (e0.2.1 - k2), W.int (e0.2.2 + k3)]]])).snoc (T := [O.lst ((es.take 199).map eW ++ [W.tup [W.str e0.1, W.int (e0.2.1 - k2), W.int (e0.2.2 + k3)]])]))
        have fM : Fr B S8 (T3 ++ [O.lst [W.tup [W.str e0.1, W.int (e0.2.1 - k2), W.int (e0.2.2 + k3)]]] ++ [O.lst ((es.take 199).map eW ++ [W.tup [W.str e0.1, W.int (e0.2.1 - k2), W.int (e0.2.2 + k3)]])]) := f8'.trans (fT1.trans (Fr.app.trans (fT2.trans (fT3.trans Fr.app.snoc))))
        generalize (T3 ++ [O.lst [W.tup [W.str e0.1, W.int (e0.2.1 - k2), W.int (e0.2.2 + k3)]]]).length = qm at gM ⊢
        generalize T3 ++ [O.lst [W.tup [W.str e0.1, W.int (e0.2.1 - k2), W.int (e0.2.2 + k3)]]] ++ [O.lst ((es.take 199).map eW ++ [W.tup [W.str e0.1, W.int (e0.2.1 - k2), W.int (e0.2.2 + k3)]])] = TM at gM DM fM ⊢
        have goodM : ∀ e ∈ es.take 199 ++ [(e0.1, e0.2.1 - k2, e0.2.2 + k3)], GoodE e := fun e' he' => by
          rcases List.mem_append.mp he' with h | h
          · exact good e' (List.mem_of_mem_take h)
          · rw [List.mem_singleton.mp h]
            have := (good e0 hm0).le
            exact ⟨(good e0 hm0).name, by show e0.2.1 - k2 ≤ e0.2.2 + k3; omega⟩
        refine wp_mono (find_clash_spec gM (by rw [List.length_append]; simp; omega) goodM) ?_ (fun _ _ q => q)
        rintro r V1 ⟨rfl, fV1⟩
        refine wp_mono (law_first_clash_spec (fV1.g0 gM) (by rw [List.length_append]; simp; omega)) ?_ (fun _ _ q => q)
        rintro r V2 ⟨rfl, fV2⟩
        refine wp_mono (same_spec 8 (twin_found.mono Fr.refl (by decide))) ?_ (fun _ _ q => q)
        rintro r V3 ⟨rfl, fV3⟩
        simp only [wp_ok, wp_exc, wp_ret, wp_badM, wp_lift, wp_chk, wp_alloc, wp_grd, wp_tgt, wp_noXe, wp_dVar, wp_dC, wp_aNil, wp_aCons, wp_dTup, wp_dLst, wp_dOp, wp_dUn, wp_dFn, wB_bl, wp_dChain, wp_dTru, wp_dBool, wp_dNot, wp_dAnd, wp_dOr, wp_dAndV, wp_dOrV, wp_dNotV, wp_dIfE, wp_dYes, wp_dCall, wp_dCallK, wp_dIsi, wp_dIsi2, wp_dMt, wp_oN, wI_int, wp_oS, wp_dSl, wp_dSrc, wp_dZip, wp_dRng1, wp_dRng2, wp_dEnum, wp_dLc, wpS_nx, wpS_rt, wpS_bk, wpS_ct, wpS_exc, wpS_bad, wpS_ite, wpS_dSeq, wpS_dNx, wpS_dBk, wpS_dCt, wpS_dDrop, wpS_dRet, wpS_dRetN, wpS_dIf, wpS_dSet, wpS_dAsg, wpS_dPar, wpS_dPar3, wpS_dSet2, wpS_dPut, wpS_dRaise, wpS_dFor, wp_dfn, wO_some, wO_none, wO_map, wO_bind, wO_ite, List.map_cons, List.map_nil, List.replicate_succ, List.replicate_zero, List.cons_append, List.nil_append, Nat.reduceSub, Nat.reduceAdd, List.getElem?_cons_zero, List.getElem?_cons_succ, List.set_cons_zero, List.set_cons_succ, List.length_cons, List.length_nil, tgN, tgNil, tgCons, tgTup, wipeE, isT, String.reduceBEq, Bool.and_false, Bool.false_and, Bool.true_and, Bool.and_true, Bool.or_false, Bool.false_or, Bool.true_or, Bool.or_true, Bool.not_true, Bool.not_false, if_true, if_false, true_and, and_true, Bool.false_eq_true, Bool.true_eq_false, reduceIte, opEq_int, opNe_int, opEq_str, opNe_str, opAdd_int, opSub_int, opMod_pos, opLt_int, opLe_int, opGt_int, opGe_int, opLt_str, opLe_str, opIsN_ref, opIsN_non, opIsN_int, opIsN_tup, opIsN_str, opIsN_bl, opEq_bl, opNe_bl, opFdiv_int, opMul_int, opPow_int, atI_0, atI_1, atI_2, opIx_ref, opIx_tup, opIx_rl, opLen_tup, opLen_str, opLen_rl, opMax2_int, opMin2_int, opInt_int, opInt_bl, tyN_non, tyN_bl, tyN_int, tyN_str, tyN_tup, tyN_rl, truthW_bl, srcW_tup, srcW_rl]
        have fE := fV1.trans (fV2.trans fV3)
        exact ⟨_, _, rfl, DM.mono (by omega) fE, fM.trans (fE.up (Nat.zero_le _))⟩
    rintro ε' S9 ⟨x10, x11, rfl, D9, f9⟩
    dsimp only
    have ge9 := f9.get _ _ be ge8
    simp only [wp_ok, wp_exc, wp_ret, wp_badM, wp_lift, wp_chk, wp_alloc, wp_grd, wp_tgt, wp_noXe, wp_dVar, wp_dC, wp_aNil, wp_aCons, wp_dTup, wp_dLst, wp_dOp, wp_dUn, wp_dFn, wB_bl, wp_dChain, wp_dTru, wp_dBool, wp_dNot, wp_dAnd, wp_dOr, wp_dAndV, wp_dOrV, wp_dNotV, wp_dIfE, wp_dYes, wp_dCall, wp_dCallK, wp_dIsi, wp_dIsi2, wp_dMt, wp_oN, wI_int, wp_oS, wp_dSl, wp_dSrc, wp_dZip, wp_dRng1, wp_dRng2, wp_dEnum, wp_dLc, wpS_nx, wpS_rt, wpS_bk, wpS_ct, wpS_exc, wpS_bad, wpS_ite, wpS_dSeq, wpS_dNx, wpS_dBk, wpS_dCt, wpS_dDrop, wpS_dRet, wpS_dRetN, wpS_dIf, wpS_dSet, wpS_dAsg, wpS_dPar, wpS_dPar3, wpS_dSet2, wpS_dPut, wpS_dRaise, wpS_dFor, wp_dfn, wO_some, wO_none, wO_map, wO_bind, wO_ite, List.map_cons, List.map_nil, List.replicate_succ, List.replicate_zero, List.cons_append, List.nil_append, Nat.reduceSub, Nat.reduceAdd, List.getElem?_cons_zero, List.getElem?_cons_succ, List.set_cons_zero, List.set_cons_succ, List.length_cons, List.length_nil, tgN, tgNil, tgCons, tgTup, wipeE, isT, String.reduceBEq, Bool.and_false, Bool.false_and, Bool.true_and, Bool.and_true, Bool.or_false, Bool.false_or, Bool.true_or, Bool.or_true, Bool.not_true, Bool.not_false, if_true, if_false, true_and, and_true, Bool.false_eq_true, Bool.true_eq_false, reduceIte, opEq_int, opNe_int, opEq_str, opNe_str, opAdd_int, opSub_int, opMod_pos, opLt_int, opLe_int, opGt_int, opGe_int, opLt_str, opLe_str, opIsN_ref, opIsN_non, opIsN_int, opIsN_tup, opIsN_str, opIsN_bl, opEq_bl, opNe_bl, opFdiv_int, opMul_int, opPow_int, atI_0, atI_1, atI_2, opIx_ref, opIx_tup, opIx_rl, opLen_tup, opLen_str, opLen_rl, opMax2_int, opMin2_int, opInt_int, opInt_bl, tyN_non, tyN_bl, tyN_int, tyN_str, tyN_tup, tyN_rl, truthW_bl, srcW_tup, srcW_rl, repr_spec ge9 le ok6, beq_self_eq_true]
    exact ⟨_, _, _, _, _, _, _, _, _, _, _, _, rfl, D9.mono (by omega) Fr.refl⟩
  · rintro ε S ⟨x2, x3, x4, x5, x6, x7, x8, x9, x10, x11, x12, x13, rfl, D⟩
    trivial
end K52
namespace K52
open PySem L2 N
theorem facts {l : PySem.W.OpenLaw} {w : World} {K : PySem.W.Frag} {h : Heap} {mg : Str → Option Value} {fa : Addr} (X : K.In h) (Gg : h.Ns mainGlobals mg) (hfa : mg "law" = some (.ref fa))
    {t_CLOSED_STATE : Tok}
    {t_FREE_STATE : Tok}
    {t_MOST_SIGNS : Tok}
    {t_OPEN_STATE : Tok}
    {t_PLUS : Tok}
    {C_InvalidDay : Addr}
    {C_InvalidLog : Addr}
    {C_InvalidOffice : Addr}
    {C_InvalidRule : Addr}
    {f_is_integer : Addr} {od_is_integer an_is_integer : Option Addr} {sl_is_integer : Array (Option Value)} {oc_is_integer kV_is_integer dc_is_integer pm_is_integer cd_is_integer ct_is_integer : Value}
    {T_is_integer : Addr} {o_is_integer : Obj} {z_is_integer : Nat}
    {f_is_day : Addr} {od_is_day an_is_day : Option Addr} {sl_is_day : Array (Option Value)} {oc_is_day kV_is_day dc_is_day pm_is_day cd_is_day ct_is_day : Value}
    {f_require_day : Addr} {od_require_day an_require_day : Option Addr} {sl_require_day : Array (Option Value)} {oc_require_day kV_require_day dc_require_day pm_require_day cd_require_day ct_require_day : Value}
    {f_is_office : Addr} {od_is_office an_is_office : Option Addr} {sl_is_office : Array (Option Value)} {oc_is_office kV_is_office dc_is_office pm_is_office cd_is_office ct_is_office : Value}
    {f_is_letter : Addr} {od_is_letter an_is_letter : Option Addr} {sl_is_letter : Array (Option Value)} {oc_is_letter kV_is_letter dc_is_letter pm_is_letter cd_is_letter ct_is_letter : Value}
    {f_is_rule : Addr} {od_is_rule an_is_rule : Option Addr} {sl_is_rule : Array (Option Value)} {oc_is_rule kV_is_rule dc_is_rule pm_is_rule cd_is_rule ct_is_rule : Value}
    {f_require_office : Addr} {od_require_office an_require_office : Option Addr} {sl_require_office : Array (Option Value)} {oc_require_office kV_require_office dc_require_office pm_require_office cd_require_office ct_require_office : Value}
    {f_require_rule : Addr} {od_require_rule an_require_rule : Option Addr} {sl_require_rule : Array (Option Value)} {oc_require_rule kV_require_rule dc_require_rule pm_require_rule cd_require_rule ct_require_rule : Value}
    {f_is_entry : Addr} {od_is_entry an_is_entry : Option Addr} {sl_is_entry : Array (Option Value)} {oc_is_entry kV_is_entry dc_is_entry pm_is_entry cd_is_entry ct_is_entry : Value}
    {f_require_log : Addr} {od_require_log an_require_log : Option Addr} {sl_require_log : Array (Option Value)} {oc_require_log kV_require_log dc_require_log pm_require_log cd_require_log ct_require_log : Value}
    {f_closes : Addr} {od_closes an_closes : Option Addr} {sl_closes : Array (Option Value)} {oc_closes kV_closes dc_closes pm_closes cd_closes ct_closes : Value}
    {f_do_clash : Addr} {od_do_clash an_do_clash : Option Addr} {sl_do_clash : Array (Option Value)} {oc_do_clash kV_do_clash dc_do_clash pm_do_clash cd_do_clash ct_do_clash : Value}
    {f_clash_in : Addr} {od_clash_in an_clash_in : Option Addr} {sl_clash_in : Array (Option Value)} {oc_clash_in kV_clash_in dc_clash_in pm_clash_in cd_clash_in ct_clash_in : Value}
    {f_require_no_clash : Addr} {od_require_no_clash an_require_no_clash : Option Addr} {sl_require_no_clash : Array (Option Value)} {oc_require_no_clash kV_require_no_clash dc_require_no_clash pm_require_no_clash cd_require_no_clash ct_require_no_clash : Value}
    {f_find_clash : Addr} {od_find_clash an_find_clash : Option Addr} {sl_find_clash : Array (Option Value)} {oc_find_clash kV_find_clash dc_find_clash pm_find_clash cd_find_clash ct_find_clash : Value}
    {f_known_state : Addr} {od_known_state an_known_state : Option Addr} {sl_known_state : Array (Option Value)} {oc_known_state kV_known_state dc_known_state pm_known_state cd_known_state ct_known_state : Value}
    {f_first_of : Addr} {od_first_of an_first_of : Option Addr} {sl_first_of : Array (Option Value)} {oc_first_of kV_first_of dc_first_of pm_first_of cd_first_of ct_first_of : Value}
    {f_last_of : Addr} {od_last_of an_last_of : Option Addr} {sl_last_of : Array (Option Value)} {oc_last_of kV_last_of dc_last_of pm_last_of cd_last_of ct_last_of : Value}
    {f_day_range : Addr} {od_day_range an_day_range : Option Addr} {sl_day_range : Array (Option Value)} {oc_day_range kV_day_range dc_day_range pm_day_range cd_day_range ct_day_range : Value}
    {f_law_deck : Addr} {od_law_deck an_law_deck : Option Addr} {sl_law_deck : Array (Option Value)} {oc_law_deck kV_law_deck dc_law_deck pm_law_deck cd_law_deck ct_law_deck : Value}
    {f_law_draw : Addr} {od_law_draw an_law_draw : Option Addr} {sl_law_draw : Array (Option Value)} {oc_law_draw kV_law_draw dc_law_draw pm_law_draw cd_law_draw ct_law_draw : Value}
    {f_law_same : Addr} {od_law_same an_law_same : Option Addr} {sl_law_same : Array (Option Value)} {oc_law_same kV_law_same dc_law_same pm_law_same cd_law_same ct_law_same : Value}
    {f_law_letters : Addr} {od_law_letters an_law_letters : Option Addr} {sl_law_letters : Array (Option Value)} {oc_law_letters kV_law_letters dc_law_letters pm_law_letters cd_law_letters ct_law_letters : Value}
    {f_law_closes : Addr} {od_law_closes an_law_closes : Option Addr} {sl_law_closes : Array (Option Value)} {oc_law_closes kV_law_closes dc_law_closes pm_law_closes cd_law_closes ct_law_closes : Value}
    {f_law_first_clash : Addr} {od_law_first_clash an_law_first_clash : Option Addr} {sl_law_first_clash : Array (Option Value)} {oc_law_first_clash kV_law_first_clash dc_law_first_clash pm_law_first_clash cd_law_first_clash ct_law_first_clash : Value}
    {f_law_long : Addr} {od_law_long an_law_long : Option Addr} {sl_law_long : Array (Option Value)} {oc_law_long kV_law_long dc_law_long pm_law_long cd_law_long ct_law_long : Value}
    {f_law_state : Addr} {od_law_state an_law_state : Option Addr} {sl_law_state : Array (Option Value)} {oc_law_state kV_law_state dc_law_state pm_law_state cd_law_state ct_law_state : Value}
    {f_law_least : Addr} {od_law_least an_law_least : Option Addr} {sl_law_least : Array (Option Value)} {oc_law_least kV_law_least dc_law_least pm_law_least cd_law_least ct_law_least : Value}
    {f_law_greatest : Addr} {od_law_greatest an_law_greatest : Option Addr} {sl_law_greatest : Array (Option Value)} {oc_law_greatest kV_law_greatest dc_law_greatest pm_law_greatest cd_law_greatest ct_law_greatest : Value}
    {f_law : Addr} {od_law an_law : Option Addr} {sl_law : Array (Option Value)} {oc_law kV_law dc_law pm_law cd_law ct_law : Value}
    (q_all : PySem.W.nsIn K mainGlobals "all" = some none)
    (q_any : PySem.W.nsIn K mainGlobals "any" = some none)
    (q_bool : PySem.W.nsIn K mainGlobals "bool" = some none)
    (q_enumerate : PySem.W.nsIn K mainGlobals "enumerate" = some none)
    (q_int : PySem.W.nsIn K mainGlobals "int" = some none)
    (q_isinstance : PySem.W.nsIn K mainGlobals "isinstance" = some none)
    (q_len : PySem.W.nsIn K mainGlobals "len" = some none)
    (q_list : PySem.W.nsIn K mainGlobals "list" = some none)
    (q_max : PySem.W.nsIn K mainGlobals "max" = some none)
    (q_min : PySem.W.nsIn K mainGlobals "min" = some none)
    (q_range : PySem.W.nsIn K mainGlobals "range" = some none)
    (q_repr : PySem.W.nsIn K mainGlobals "repr" = some none)
    (q_sorted : PySem.W.nsIn K mainGlobals "sorted" = some none)
    (q_str : PySem.W.nsIn K mainGlobals "str" = some none)
    (q_tuple : PySem.W.nsIn K mainGlobals "tuple" = some none)
    (q_zip : PySem.W.nsIn K mainGlobals "zip" = some none)
    (q_CLOSED_STATE : PySem.W.nsIn K mainGlobals "CLOSED_STATE" = some (some (.str "closed" t_CLOSED_STATE)))
    (q_FREE_STATE : PySem.W.nsIn K mainGlobals "FREE_STATE" = some (some (.str "free" t_FREE_STATE)))
    (q_MOST_SIGNS : PySem.W.nsIn K mainGlobals "MOST_SIGNS" = some (some (.int (8) t_MOST_SIGNS)))
    (q_OPEN_STATE : PySem.W.nsIn K mainGlobals "OPEN_STATE" = some (some (.str "open" t_OPEN_STATE)))
    (q_PLUS : PySem.W.nsIn K mainGlobals "PLUS" = some (some (.str "+" t_PLUS)))
    (xg_InvalidDay : PySem.W.nsIn K mainGlobals "InvalidDay" = some (some (.ref C_InvalidDay)))
    (xq_InvalidDay : PySem.W.excIn K C_InvalidDay [.type "ValueError", .type "Exception", .type "BaseException", .type "object"] "ValueError.__new__" = true)
    (xk_InvalidDay : PySem.W.keepIn K (.ref C_InvalidDay) = true)
    (xs_InvalidDay : PySem.W.subIn K (.ref C_InvalidDay) (.type "BaseException") = some true)
    (xt_InvalidDay : PySem.W.typeIn K (.ref C_InvalidDay) = some (.type "type"))
    (xg_InvalidLog : PySem.W.nsIn K mainGlobals "InvalidLog" = some (some (.ref C_InvalidLog)))
    (xq_InvalidLog : PySem.W.excIn K C_InvalidLog [.type "ValueError", .type "Exception", .type "BaseException", .type "object"] "ValueError.__new__" = true)
    (xk_InvalidLog : PySem.W.keepIn K (.ref C_InvalidLog) = true)
    (xs_InvalidLog : PySem.W.subIn K (.ref C_InvalidLog) (.type "BaseException") = some true)
    (xt_InvalidLog : PySem.W.typeIn K (.ref C_InvalidLog) = some (.type "type"))
    (xg_InvalidOffice : PySem.W.nsIn K mainGlobals "InvalidOffice" = some (some (.ref C_InvalidOffice)))
    (xq_InvalidOffice : PySem.W.excIn K C_InvalidOffice [.type "ValueError", .type "Exception", .type "BaseException", .type "object"] "ValueError.__new__" = true)
    (xk_InvalidOffice : PySem.W.keepIn K (.ref C_InvalidOffice) = true)
    (xs_InvalidOffice : PySem.W.subIn K (.ref C_InvalidOffice) (.type "BaseException") = some true)
    (xt_InvalidOffice : PySem.W.typeIn K (.ref C_InvalidOffice) = some (.type "type"))
    (xg_InvalidRule : PySem.W.nsIn K mainGlobals "InvalidRule" = some (some (.ref C_InvalidRule)))
    (xq_InvalidRule : PySem.W.excIn K C_InvalidRule [.type "ValueError", .type "Exception", .type "BaseException", .type "object"] "ValueError.__new__" = true)
    (xk_InvalidRule : PySem.W.keepIn K (.ref C_InvalidRule) = true)
    (xs_InvalidRule : PySem.W.subIn K (.ref C_InvalidRule) (.type "BaseException") = some true)
    (xt_InvalidRule : PySem.W.typeIn K (.ref C_InvalidRule) = some (.type "type"))
    (a_is_integer : PySem.W.nsIn K mainGlobals "is_integer" = some (some (.ref f_is_integer)))
    (l_is_integer : K.lookup f_is_integer = some ⟨oc_is_integer, od_is_integer, .func (PySem.W.fnOf "is_integer" "is_integer" (defArgs (top 8)) (defBody (top 8)) (defScope (top 8)) (.ref T_is_integer) kV_is_integer dc_is_integer pm_is_integer an_is_integer cd_is_integer ct_is_integer), sl_is_integer⟩)
    (c_is_integer : PySem.W.codeIn K cd_is_integer "is_integer" = true)
    (k_is_integer : PySem.W.keepIn K (.ref f_is_integer) = true)
    (e_is_integer : K.lookup T_is_integer = some o_is_integer)
    (g_is_integer : o_is_integer.data = .seq ([.none, .none] : List Value).toArray z_is_integer)
    (a_is_day : PySem.W.nsIn K mainGlobals "is_day" = some (some (.ref f_is_day)))
    (l_is_day : K.lookup f_is_day = some ⟨oc_is_day, od_is_day, .func (PySem.W.fnOf "is_day" "is_day" (defArgs (top 9)) (defBody (top 9)) (defScope (top 9)) .none kV_is_day dc_is_day pm_is_day an_is_day cd_is_day ct_is_day), sl_is_day⟩)
    (c_is_day : PySem.W.codeIn K cd_is_day "is_day" = true)
    (k_is_day : PySem.W.keepIn K (.ref f_is_day) = true)
    (a_require_day : PySem.W.nsIn K mainGlobals "require_day" = some (some (.ref f_require_day)))
    (l_require_day : K.lookup f_require_day = some ⟨oc_require_day, od_require_day, .func (PySem.W.fnOf "require_day" "require_day" (defArgs (top 10)) (defBody (top 10)) (defScope (top 10)) .none kV_require_day dc_require_day pm_require_day an_require_day cd_require_day ct_require_day), sl_require_day⟩)
    (c_require_day : PySem.W.codeIn K cd_require_day "require_day" = true)
    (k_require_day : PySem.W.keepIn K (.ref f_require_day) = true)
    (a_is_office : PySem.W.nsIn K mainGlobals "is_office" = some (some (.ref f_is_office)))
    (l_is_office : K.lookup f_is_office = some ⟨oc_is_office, od_is_office, .func (PySem.W.fnOf "is_office" "is_office" (defArgs (top 14)) (defBody (top 14)) (defScope (top 14)) .none kV_is_office dc_is_office pm_is_office an_is_office cd_is_office ct_is_office), sl_is_office⟩)
    (c_is_office : PySem.W.codeIn K cd_is_office "is_office" = true)
    (k_is_office : PySem.W.keepIn K (.ref f_is_office) = true)
    (a_is_letter : PySem.W.nsIn K mainGlobals "is_letter" = some (some (.ref f_is_letter)))
    (l_is_letter : K.lookup f_is_letter = some ⟨oc_is_letter, od_is_letter, .func (PySem.W.fnOf "is_letter" "is_letter" (defArgs (top 15)) (defBody (top 15)) (defScope (top 15)) .none kV_is_letter dc_is_letter pm_is_letter an_is_letter cd_is_letter ct_is_letter), sl_is_letter⟩)
    (c_is_letter : PySem.W.codeIn K cd_is_letter "is_letter" = true)
    (k_is_letter : PySem.W.keepIn K (.ref f_is_letter) = true)
    (a_is_rule : PySem.W.nsIn K mainGlobals "is_rule" = some (some (.ref f_is_rule)))
    (l_is_rule : K.lookup f_is_rule = some ⟨oc_is_rule, od_is_rule, .func (PySem.W.fnOf "is_rule" "is_rule" (defArgs (top 16)) (defBody (top 16)) (defScope (top 16)) .none kV_is_rule dc_is_rule pm_is_rule an_is_rule cd_is_rule ct_is_rule), sl_is_rule⟩)
    (c_is_rule : PySem.W.codeIn K cd_is_rule "is_rule" = true)
    (k_is_rule : PySem.W.keepIn K (.ref f_is_rule) = true)
    (a_require_office : PySem.W.nsIn K mainGlobals "require_office" = some (some (.ref f_require_office)))
    (l_require_office : K.lookup f_require_office = some ⟨oc_require_office, od_require_office, .func (PySem.W.fnOf "require_office" "require_office" (defArgs (top 17)) (defBody (top 17)) (defScope (top 17)) .none kV_require_office dc_require_office pm_require_office an_require_office cd_require_office ct_require_office), sl_require_office⟩)
    (c_require_office : PySem.W.codeIn K cd_require_office "require_office" = true)
    (k_require_office : PySem.W.keepIn K (.ref f_require_office) = true)
    (a_require_rule : PySem.W.nsIn K mainGlobals "require_rule" = some (some (.ref f_require_rule)))
    (l_require_rule : K.lookup f_require_rule = some ⟨oc_require_rule, od_require_rule, .func (PySem.W.fnOf "require_rule" "require_rule" (defArgs (top 18)) (defBody (top 18)) (defScope (top 18)) .none kV_require_rule dc_require_rule pm_require_rule an_require_rule cd_require_rule ct_require_rule), sl_require_rule⟩)
    (c_require_rule : PySem.W.codeIn K cd_require_rule "require_rule" = true)
    (k_require_rule : PySem.W.keepIn K (.ref f_require_rule) = true)
    (a_is_entry : PySem.W.nsIn K mainGlobals "is_entry" = some (some (.ref f_is_entry)))
    (l_is_entry : K.lookup f_is_entry = some ⟨oc_is_entry, od_is_entry, .func (PySem.W.fnOf "is_entry" "is_entry" (defArgs (top 23)) (defBody (top 23)) (defScope (top 23)) .none kV_is_entry dc_is_entry pm_is_entry an_is_entry cd_is_entry ct_is_entry), sl_is_entry⟩)
    (c_is_entry : PySem.W.codeIn K cd_is_entry "is_entry" = true)
    (k_is_entry : PySem.W.keepIn K (.ref f_is_entry) = true)
    (a_require_log : PySem.W.nsIn K mainGlobals "require_log" = some (some (.ref f_require_log)))
    (l_require_log : K.lookup f_require_log = some ⟨oc_require_log, od_require_log, .func (PySem.W.fnOf "require_log" "require_log" (defArgs (top 24)) (defBody (top 24)) (defScope (top 24)) .none kV_require_log dc_require_log pm_require_log an_require_log cd_require_log ct_require_log), sl_require_log⟩)
    (c_require_log : PySem.W.codeIn K cd_require_log "require_log" = true)
    (k_require_log : PySem.W.keepIn K (.ref f_require_log) = true)
    (a_closes : PySem.W.nsIn K mainGlobals "closes" = some (some (.ref f_closes)))
    (l_closes : K.lookup f_closes = some ⟨oc_closes, od_closes, .func (PySem.W.fnOf "closes" "closes" (defArgs (top 25)) (defBody (top 25)) (defScope (top 25)) .none kV_closes dc_closes pm_closes an_closes cd_closes ct_closes), sl_closes⟩)
    (c_closes : PySem.W.codeIn K cd_closes "closes" = true)
    (k_closes : PySem.W.keepIn K (.ref f_closes) = true)
    (a_do_clash : PySem.W.nsIn K mainGlobals "do_clash" = some (some (.ref f_do_clash)))
    (l_do_clash : K.lookup f_do_clash = some ⟨oc_do_clash, od_do_clash, .func (PySem.W.fnOf "do_clash" "do_clash" (defArgs (top 26)) (defBody (top 26)) (defScope (top 26)) .none kV_do_clash dc_do_clash pm_do_clash an_do_clash cd_do_clash ct_do_clash), sl_do_clash⟩)
    (c_do_clash : PySem.W.codeIn K cd_do_clash "do_clash" = true)
    (k_do_clash : PySem.W.keepIn K (.ref f_do_clash) = true)
    (a_clash_in : PySem.W.nsIn K mainGlobals "clash_in" = some (some (.ref f_clash_in)))
    (l_clash_in : K.lookup f_clash_in = some ⟨oc_clash_in, od_clash_in, .func (PySem.W.fnOf "clash_in" "clash_in" (defArgs (top 27)) (defBody (top 27)) (defScope (top 27)) .none kV_clash_in dc_clash_in pm_clash_in an_clash_in cd_clash_in ct_clash_in), sl_clash_in⟩)
    (c_clash_in : PySem.W.codeIn K cd_clash_in "clash_in" = true)
    (k_clash_in : PySem.W.keepIn K (.ref f_clash_in) = true)
    (a_require_no_clash : PySem.W.nsIn K mainGlobals "require_no_clash" = some (some (.ref f_require_no_clash)))
    (l_require_no_clash : K.lookup f_require_no_clash = some ⟨oc_require_no_clash, od_require_no_clash, .func (PySem.W.fnOf "require_no_clash" "require_no_clash" (defArgs (top 28)) (defBody (top 28)) (defScope (top 28)) .none kV_require_no_clash dc_require_no_clash pm_require_no_clash an_require_no_clash cd_require_no_clash ct_require_no_clash), sl_require_no_clash⟩)
    (c_require_no_clash : PySem.W.codeIn K cd_require_no_clash "require_no_clash" = true)
    (k_require_no_clash : PySem.W.keepIn K (.ref f_require_no_clash) = true)
    (a_find_clash : PySem.W.nsIn K mainGlobals "find_clash" = some (some (.ref f_find_clash)))
    (l_find_clash : K.lookup f_find_clash = some ⟨oc_find_clash, od_find_clash, .func (PySem.W.fnOf "find_clash" "find_clash" (defArgs (top 29)) (defBody (top 29)) (defScope (top 29)) .none kV_find_clash dc_find_clash pm_find_clash an_find_clash cd_find_clash ct_find_clash), sl_find_clash⟩)
    (c_find_clash : PySem.W.codeIn K cd_find_clash "find_clash" = true)
    (k_find_clash : PySem.W.keepIn K (.ref f_find_clash) = true)
    (a_known_state : PySem.W.nsIn K mainGlobals "known_state" = some (some (.ref f_known_state)))
    (l_known_state : K.lookup f_known_state = some ⟨oc_known_state, od_known_state, .func (PySem.W.fnOf "known_state" "known_state" (defArgs (top 30)) (defBody (top 30)) (defScope (top 30)) .none kV_known_state dc_known_state pm_known_state an_known_state cd_known_state ct_known_state), sl_known_state⟩)
    (c_known_state : PySem.W.codeIn K cd_known_state "known_state" = true)
    (k_known_state : PySem.W.keepIn K (.ref f_known_state) = true)
    (a_first_of : PySem.W.nsIn K mainGlobals "first_of" = some (some (.ref f_first_of)))
    (l_first_of : K.lookup f_first_of = some ⟨oc_first_of, od_first_of, .func (PySem.W.fnOf "first_of" "first_of" (defArgs (top 31)) (defBody (top 31)) (defScope (top 31)) .none kV_first_of dc_first_of pm_first_of an_first_of cd_first_of ct_first_of), sl_first_of⟩)
    (c_first_of : PySem.W.codeIn K cd_first_of "first_of" = true)
    (k_first_of : PySem.W.keepIn K (.ref f_first_of) = true)
    (a_last_of : PySem.W.nsIn K mainGlobals "last_of" = some (some (.ref f_last_of)))
    (l_last_of : K.lookup f_last_of = some ⟨oc_last_of, od_last_of, .func (PySem.W.fnOf "last_of" "last_of" (defArgs (top 32)) (defBody (top 32)) (defScope (top 32)) .none kV_last_of dc_last_of pm_last_of an_last_of cd_last_of ct_last_of), sl_last_of⟩)
    (c_last_of : PySem.W.codeIn K cd_last_of "last_of" = true)
    (k_last_of : PySem.W.keepIn K (.ref f_last_of) = true)
    (a_day_range : PySem.W.nsIn K mainGlobals "day_range" = some (some (.ref f_day_range)))
    (l_day_range : K.lookup f_day_range = some ⟨oc_day_range, od_day_range, .func (PySem.W.fnOf "day_range" "day_range" (defArgs (top 33)) (defBody (top 33)) (defScope (top 33)) .none kV_day_range dc_day_range pm_day_range an_day_range cd_day_range ct_day_range), sl_day_range⟩)
    (c_day_range : PySem.W.codeIn K cd_day_range "day_range" = true)
    (k_day_range : PySem.W.keepIn K (.ref f_day_range) = true)
    (a_law_deck : PySem.W.nsIn K mainGlobals "_law_deck" = some (some (.ref f_law_deck)))
    (l_law_deck : K.lookup f_law_deck = some ⟨oc_law_deck, od_law_deck, .func (PySem.W.fnOf "_law_deck" "_law_deck" (defArgs (top 35)) (defBody (top 35)) (defScope (top 35)) .none kV_law_deck dc_law_deck pm_law_deck an_law_deck cd_law_deck ct_law_deck), sl_law_deck⟩)
    (c_law_deck : PySem.W.codeIn K cd_law_deck "_law_deck" = true)
    (k_law_deck : PySem.W.keepIn K (.ref f_law_deck) = true)
    (a_law_draw : PySem.W.nsIn K mainGlobals "_law_draw" = some (some (.ref f_law_draw)))
    (l_law_draw : K.lookup f_law_draw = some ⟨oc_law_draw, od_law_draw, .func (PySem.W.fnOf "_law_draw" "_law_draw" (defArgs (top 36)) (defBody (top 36)) (defScope (top 36)) .none kV_law_draw dc_law_draw pm_law_draw an_law_draw cd_law_draw ct_law_draw), sl_law_draw⟩)
    (c_law_draw : PySem.W.codeIn K cd_law_draw "_law_draw" = true)
    (k_law_draw : PySem.W.keepIn K (.ref f_law_draw) = true)
    (a_law_same : PySem.W.nsIn K mainGlobals "_law_same" = some (some (.ref f_law_same)))
    (l_law_same : K.lookup f_law_same = some ⟨oc_law_same, od_law_same, .func (PySem.W.fnOf "_law_same" "_law_same" (defArgs (top 37)) (defBody (top 37)) (defScope (top 37)) .none kV_law_same dc_law_same pm_law_same an_law_same cd_law_same ct_law_same), sl_law_same⟩)
    (c_law_same : PySem.W.codeIn K cd_law_same "_law_same" = true)
    (k_law_same : PySem.W.keepIn K (.ref f_law_same) = true)
    (a_law_letters : PySem.W.nsIn K mainGlobals "_law_letters" = some (some (.ref f_law_letters)))
    (l_law_letters : K.lookup f_law_letters = some ⟨oc_law_letters, od_law_letters, .func (PySem.W.fnOf "_law_letters" "_law_letters" (defArgs (top 38)) (defBody (top 38)) (defScope (top 38)) .none kV_law_letters dc_law_letters pm_law_letters an_law_letters cd_law_letters ct_law_letters), sl_law_letters⟩)
    (c_law_letters : PySem.W.codeIn K cd_law_letters "_law_letters" = true)
    (k_law_letters : PySem.W.keepIn K (.ref f_law_letters) = true)
    (a_law_closes : PySem.W.nsIn K mainGlobals "_law_closes" = some (some (.ref f_law_closes)))
    (l_law_closes : K.lookup f_law_closes = some ⟨oc_law_closes, od_law_closes, .func (PySem.W.fnOf "_law_closes" "_law_closes" (defArgs (top 39)) (defBody (top 39)) (defScope (top 39)) .none kV_law_closes dc_law_closes pm_law_closes an_law_closes cd_law_closes ct_law_closes), sl_law_closes⟩)
    (c_law_closes : PySem.W.codeIn K cd_law_closes "_law_closes" = true)
    (k_law_closes : PySem.W.keepIn K (.ref f_law_closes) = true)
    (a_law_first_clash : PySem.W.nsIn K mainGlobals "_law_first_clash" = some (some (.ref f_law_first_clash)))
    (l_law_first_clash : K.lookup f_law_first_clash = some ⟨oc_law_first_clash, od_law_first_clash, .func (PySem.W.fnOf "_law_first_clash" "_law_first_clash" (defArgs (top 40)) (defBody (top 40)) (defScope (top 40)) .none kV_law_first_clash dc_law_first_clash pm_law_first_clash an_law_first_clash cd_law_first_clash ct_law_first_clash), sl_law_first_clash⟩)
    (c_law_first_clash : PySem.W.codeIn K cd_law_first_clash "_law_first_clash" = true)
    (k_law_first_clash : PySem.W.keepIn K (.ref f_law_first_clash) = true)
    (a_law_long : PySem.W.nsIn K mainGlobals "_law_long" = some (some (.ref f_law_long)))
    (l_law_long : K.lookup f_law_long = some ⟨oc_law_long, od_law_long, .func (PySem.W.fnOf "_law_long" "_law_long" (defArgs (top 41)) (defBody (top 41)) (defScope (top 41)) .none kV_law_long dc_law_long pm_law_long an_law_long cd_law_long ct_law_long), sl_law_long⟩)
    (c_law_long : PySem.W.codeIn K cd_law_long "_law_long" = true)
    (k_law_long : PySem.W.keepIn K (.ref f_law_long) = true)
    (a_law_state : PySem.W.nsIn K mainGlobals "_law_state" = some (some (.ref f_law_state)))
    (l_law_state : K.lookup f_law_state = some ⟨oc_law_state, od_law_state, .func (PySem.W.fnOf "_law_state" "_law_state" (defArgs (top 42)) (defBody (top 42)) (defScope (top 42)) .none kV_law_state dc_law_state pm_law_state an_law_state cd_law_state ct_law_state), sl_law_state⟩)
    (c_law_state : PySem.W.codeIn K cd_law_state "_law_state" = true)
    (k_law_state : PySem.W.keepIn K (.ref f_law_state) = true)
    (a_law_least : PySem.W.nsIn K mainGlobals "_law_least" = some (some (.ref f_law_least)))
    (l_law_least : K.lookup f_law_least = some ⟨oc_law_least, od_law_least, .func (PySem.W.fnOf "_law_least" "_law_least" (defArgs (top 43)) (defBody (top 43)) (defScope (top 43)) .none kV_law_least dc_law_least pm_law_least an_law_least cd_law_least ct_law_least), sl_law_least⟩)
    (c_law_least : PySem.W.codeIn K cd_law_least "_law_least" = true)
    (k_law_least : PySem.W.keepIn K (.ref f_law_least) = true)
    (a_law_greatest : PySem.W.nsIn K mainGlobals "_law_greatest" = some (some (.ref f_law_greatest)))
    (l_law_greatest : K.lookup f_law_greatest = some ⟨oc_law_greatest, od_law_greatest, .func (PySem.W.fnOf "_law_greatest" "_law_greatest" (defArgs (top 44)) (defBody (top 44)) (defScope (top 44)) .none kV_law_greatest dc_law_greatest pm_law_greatest an_law_greatest cd_law_greatest ct_law_greatest), sl_law_greatest⟩)
    (c_law_greatest : PySem.W.codeIn K cd_law_greatest "_law_greatest" = true)
    (k_law_greatest : PySem.W.keepIn K (.ref f_law_greatest) = true)
    (a_law : PySem.W.nsIn K mainGlobals "law" = some (some (.ref f_law)))
    (l_law : K.lookup f_law = some ⟨oc_law, od_law, .func (PySem.W.fnOf "law" "law" (defArgs (top 45)) (defBody (top 45)) (defScope (top 45)) .none kV_law dc_law pm_law an_law cd_law ct_law), sl_law⟩)
    (c_law : PySem.W.codeIn K cd_law "law" = true)
    (k_law : PySem.W.keepIn K (.ref f_law) = true)
    : ∃ (fd : FuncData) (cl : Nat → Addr), (∀ (s : Shared) (u : Value), BindsTo s fd ⟨[u], []⟩ [("script", u)]) ∧ ∀ base : Heap, K.In base → base.Ns mainGlobals mg → FnG ⟨l.prog, w, K, mg, base, cl⟩ 9 fa fd ["script"] (spN ⟨l.prog, w, K, mg, base, cl⟩ n_law) := by
  have T : ∀ base : Heap, Txt ⟨l.prog, w, K, mg, base, fun i => if i = 1 then C_InvalidDay else if i = 4 then C_InvalidLog else if i = 2 then C_InvalidOffice else if i = 3 then C_InvalidRule else 0⟩ := fun base => {
    b_all := PySem.W.mg_none_of X Gg q_all,
    b_any := PySem.W.mg_none_of X Gg q_any,
    b_bool := PySem.W.mg_none_of X Gg q_bool,
    b_enumerate := PySem.W.mg_none_of X Gg q_enumerate,
    b_int := PySem.W.mg_none_of X Gg q_int,
    b_isinstance := PySem.W.mg_none_of X Gg q_isinstance,
    b_len := PySem.W.mg_none_of X Gg q_len,
    b_list := PySem.W.mg_none_of X Gg q_list,
    b_max := PySem.W.mg_none_of X Gg q_max,
    b_min := PySem.W.mg_none_of X Gg q_min,
    b_range := PySem.W.mg_none_of X Gg q_range,
    b_repr := PySem.W.mg_none_of X Gg q_repr,
    b_sorted := PySem.W.mg_none_of X Gg q_sorted,
    b_str := PySem.W.mg_none_of X Gg q_str,
    b_tuple := PySem.W.mg_none_of X Gg q_tuple,
    b_zip := PySem.W.mg_none_of X Gg q_zip,
    c_CLOSED_STATE := ⟨_, PySem.W.mg_of X Gg q_CLOSED_STATE⟩,
    c_FREE_STATE := ⟨_, PySem.W.mg_of X Gg q_FREE_STATE⟩,
    c_MOST_SIGNS := ⟨_, PySem.W.mg_of X Gg q_MOST_SIGNS⟩,
    c_OPEN_STATE := ⟨_, PySem.W.mg_of X Gg q_OPEN_STATE⟩,
    c_PLUS := ⟨_, PySem.W.mg_of X Gg q_PLUS⟩,
    x_InvalidDay := ⟨PySem.W.mg_of X Gg xg_InvalidDay, xq_InvalidDay, xk_InvalidDay, xs_InvalidDay, xt_InvalidDay⟩,
    x_InvalidLog := ⟨PySem.W.mg_of X Gg xg_InvalidLog, xq_InvalidLog, xk_InvalidLog, xs_InvalidLog, xt_InvalidLog⟩,
    x_InvalidOffice := ⟨PySem.W.mg_of X Gg xg_InvalidOffice, xq_InvalidOffice, xk_InvalidOffice, xs_InvalidOffice, xt_InvalidOffice⟩,
    x_InvalidRule := ⟨PySem.W.mg_of X Gg xg_InvalidRule, xq_InvalidRule, xk_InvalidRule, xs_InvalidRule, xt_InvalidRule⟩,
    f_is_integer := ⟨f_is_integer, _, T_is_integer, o_is_integer, z_is_integer, PySem.W.mg_of X Gg a_is_integer, k_is_integer, funX_mk l_is_integer c_is_integer, rfl, e_is_integer, g_is_integer⟩,
    f_is_day := ⟨f_is_day, _, PySem.W.mg_of X Gg a_is_day, k_is_day, funX_mk l_is_day c_is_day, rfl⟩,
    f_require_day := ⟨f_require_day, _, PySem.W.mg_of X Gg a_require_day, k_require_day, funX_mk l_require_day c_require_day, rfl⟩,
    f_is_office := ⟨f_is_office, _, PySem.W.mg_of X Gg a_is_office, k_is_office, funX_mk l_is_office c_is_office, rfl⟩,
    f_is_letter := ⟨f_is_letter, _, PySem.W.mg_of X Gg a_is_letter, k_is_letter, funX_mk l_is_letter c_is_letter, rfl⟩,
    f_is_rule := ⟨f_is_rule, _, PySem.W.mg_of X Gg a_is_rule, k_is_rule, funX_mk l_is_rule c_is_rule, rfl⟩,
    f_require_office := ⟨f_require_office, _, PySem.W.mg_of X Gg a_require_office, k_require_office, funX_mk l_require_office c_require_office, rfl⟩,
    f_require_rule := ⟨f_require_rule, _, PySem.W.mg_of X Gg a_require_rule, k_require_rule, funX_mk l_require_rule c_require_rule, rfl⟩,
    f_is_entry := ⟨f_is_entry, _, PySem.W.mg_of X Gg a_is_entry, k_is_entry, funX_mk l_is_entry c_is_entry, rfl⟩,
    f_require_log := ⟨f_require_log, _, PySem.W.mg_of X Gg a_require_log, k_require_log, funX_mk l_require_log c_require_log, rfl⟩,
    f_closes := ⟨f_closes, _, PySem.W.mg_of X Gg a_closes, k_closes, funX_mk l_closes c_closes, rfl⟩,
    f_do_clash := ⟨f_do_clash, _, PySem.W.mg_of X Gg a_do_clash, k_do_clash, funX_mk l_do_clash c_do_clash, rfl⟩,
    f_clash_in := ⟨f_clash_in, _, PySem.W.mg_of X Gg a_clash_in, k_clash_in, funX_mk l_clash_in c_clash_in, rfl⟩,
    f_require_no_clash := ⟨f_require_no_clash, _, PySem.W.mg_of X Gg a_require_no_clash, k_require_no_clash, funX_mk l_require_no_clash c_require_no_clash, rfl⟩,
    f_find_clash := ⟨f_find_clash, _, PySem.W.mg_of X Gg a_find_clash, k_find_clash, funX_mk l_find_clash c_find_clash, rfl⟩,
    f_known_state := ⟨f_known_state, _, PySem.W.mg_of X Gg a_known_state, k_known_state, funX_mk l_known_state c_known_state, rfl⟩,
    f_first_of := ⟨f_first_of, _, PySem.W.mg_of X Gg a_first_of, k_first_of, funX_mk l_first_of c_first_of, rfl⟩,
    f_last_of := ⟨f_last_of, _, PySem.W.mg_of X Gg a_last_of, k_last_of, funX_mk l_last_of c_last_of, rfl⟩,
    f_day_range := ⟨f_day_range, _, PySem.W.mg_of X Gg a_day_range, k_day_range, funX_mk l_day_range c_day_range, rfl⟩,
    f_law_deck := ⟨f_law_deck, _, PySem.W.mg_of X Gg a_law_deck, k_law_deck, funX_mk l_law_deck c_law_deck, rfl⟩,
    f_law_draw := ⟨f_law_draw, _, PySem.W.mg_of X Gg a_law_draw, k_law_draw, funX_mk l_law_draw c_law_draw, rfl⟩,
    f_law_same := ⟨f_law_same, _, PySem.W.mg_of X Gg a_law_same, k_law_same, funX_mk l_law_same c_law_same, rfl⟩,
    f_law_letters := ⟨f_law_letters, _, PySem.W.mg_of X Gg a_law_letters, k_law_letters, funX_mk l_law_letters c_law_letters, rfl⟩,
    f_law_closes := ⟨f_law_closes, _, PySem.W.mg_of X Gg a_law_closes, k_law_closes, funX_mk l_law_closes c_law_closes, rfl⟩,
    f_law_first_clash := ⟨f_law_first_clash, _, PySem.W.mg_of X Gg a_law_first_clash, k_law_first_clash, funX_mk l_law_first_clash c_law_first_clash, rfl⟩,
    f_law_long := ⟨f_law_long, _, PySem.W.mg_of X Gg a_law_long, k_law_long, funX_mk l_law_long c_law_long, rfl⟩,
    f_law_state := ⟨f_law_state, _, PySem.W.mg_of X Gg a_law_state, k_law_state, funX_mk l_law_state c_law_state, rfl⟩,
    f_law_least := ⟨f_law_least, _, PySem.W.mg_of X Gg a_law_least, k_law_least, funX_mk l_law_least c_law_least, rfl⟩,
    f_law_greatest := ⟨f_law_greatest, _, PySem.W.mg_of X Gg a_law_greatest, k_law_greatest, funX_mk l_law_greatest c_law_greatest, rfl⟩,
    f_law := ⟨f_law, _, PySem.W.mg_of X Gg a_law, k_law, funX_mk l_law c_law, rfl⟩ }
  have e := hfa.symm.trans (PySem.W.mg_of X Gg a_law)
  cases e
  exact ⟨_, fun i => if i = 1 then C_InvalidDay else if i = 4 then C_InvalidLog else if i = 2 then C_InvalidOffice else if i = 3 then C_InvalidRule else 0, fun s u => .of_eq rfl, fun base _ _ => fn_ok (funX_mk l_law c_law) sc_law rfl (bd_law (T base))⟩
end K52
open PySem PySem.W PyProof.Rows
set_option maxRecDepth 100000 in
set_option maxHeartbeats 0 in
theorem PySem.Challenge.cw_daychains_k52_long_logs_holds : PySem.Challenge.rw_daychains_k52_long_logs.Holds := by
  w_on; o_law; k_head; (case hw => w_witness2)
  k_fill
  refine N.walkG (l := PySem.Challenge.rw_daychains_k52_long_logs) (n := 63) (k := 9) (x := "script") (den := K52.n_law) rfl (by decide) rfl ⟨rfl, by decide, by decide⟩ (fun w h Y => PySem.W.kIn_of Y) ?F (fun ns h1 h2 => K52.law_true ns h1 h2)
  case F =>
    intro w mg fa h KX G hmg
    refine' K52.facts KX G hmg ?q_all ?q_any ?q_bool ?q_enumerate ?q_int ?q_isinstance ?q_len ?q_list ?q_max ?q_min ?q_range ?q_repr ?q_sorted ?q_str ?q_tuple ?q_zip ?q_CLOSED_STATE ?q_FREE_STATE ?q_MOST_SIGNS ?q_OPEN_STATE ?q_PLUS ?xg_InvalidDay ?xq_InvalidDay ?xk_InvalidDay ?xs_InvalidDay ?xt_InvalidDay ?xg_InvalidLog ?xq_InvalidLog ?xk_InvalidLog ?xs_InvalidLog ?xt_InvalidLog ?xg_InvalidOffice ?xq_InvalidOffice ?xk_InvalidOffice ?xs_InvalidOffice ?xt_InvalidOffice ?xg_InvalidRule ?xq_InvalidRule ?xk_InvalidRule ?xs_InvalidRule ?xt_InvalidRule ?a_is_integer ?l_is_integer ?c_is_integer ?k_is_integer ?e_is_integer ?g_is_integer ?a_is_day ?l_is_day ?c_is_day ?k_is_day ?a_require_day ?l_require_day ?c_require_day ?k_require_day ?a_is_office ?l_is_office ?c_is_office ?k_is_office ?a_is_letter ?l_is_letter ?c_is_letter ?k_is_letter ?a_is_rule ?l_is_rule ?c_is_rule ?k_is_rule ?a_require_office ?l_require_office ?c_require_office ?k_require_office ?a_require_rule ?l_require_rule ?c_require_rule ?k_require_rule ?a_is_entry ?l_is_entry ?c_is_entry ?k_is_entry ?a_require_log ?l_require_log ?c_require_log ?k_require_log ?a_closes ?l_closes ?c_closes ?k_closes ?a_do_clash ?l_do_clash ?c_do_clash ?k_do_clash ?a_clash_in ?l_clash_in ?c_clash_in ?k_clash_in ?a_require_no_clash ?l_require_no_clash ?c_require_no_clash ?k_require_no_clash ?a_find_clash ?l_find_clash ?c_find_clash ?k_find_clash ?a_known_state ?l_known_state ?c_known_state ?k_known_state ?a_first_of ?l_first_of ?c_first_of ?k_first_of ?a_last_of ?l_last_of ?c_last_of ?k_last_of ?a_day_range ?l_day_range ?c_day_range ?k_day_range ?a_law_deck ?l_law_deck ?c_law_deck ?k_law_deck ?a_law_draw ?l_law_draw ?c_law_draw ?k_law_draw ?a_law_same ?l_law_same ?c_law_same ?k_law_same ?a_law_letters ?l_law_letters ?c_law_letters ?k_law_letters ?a_law_closes ?l_law_closes ?c_law_closes ?k_law_closes ?a_law_first_clash ?l_law_first_clash ?c_law_first_clash ?k_law_first_clash ?a_law_long ?l_law_long ?c_law_long ?k_law_long ?a_law_state ?l_law_state ?c_law_state ?k_law_state ?a_law_least ?l_law_least ?c_law_least ?k_law_least ?a_law_greatest ?l_law_greatest ?c_law_greatest ?k_law_greatest ?a_law ?l_law ?c_law ?k_law
    (case q_all => k_is)
    (case q_any => k_is)
    (case q_bool => k_is)
    (case q_enumerate => k_is)
    (case q_int => k_is)
    (case q_isinstance => k_is)
    (case q_len => k_is)
    (case q_list => k_is)
    (case q_max => k_is)
    (case q_min => k_is)
    (case q_range => k_is)
    (case q_repr => k_is)
    (case q_sorted => k_is)
    (case q_str => k_is)
    (case q_tuple => k_is)
    (case q_zip => k_is)
    (case q_CLOSED_STATE => k_is)
    (case q_FREE_STATE => k_is)
    (case q_MOST_SIGNS => k_is)
    (case q_OPEN_STATE => k_is)
    (case q_PLUS => k_is)
    (case xg_InvalidDay => k_is)
    (case xq_InvalidDay => k_exc)
    (case xk_InvalidDay => k_is)
    (case xs_InvalidDay => k_is)
    (case xt_InvalidDay => k_is)
    (case xg_InvalidLog => k_is)
    (case xq_InvalidLog => k_exc)
    (case xk_InvalidLog => k_is)
    (case xs_InvalidLog => k_is)
    (case xt_InvalidLog => k_is)
    (case xg_InvalidOffice => k_is)
    (case xq_InvalidOffice => k_exc)
    (case xk_InvalidOffice => k_is)
    (case xs_InvalidOffice => k_is)
    (case xt_InvalidOffice => k_is)
    (case xg_InvalidRule => k_is)
    (case xq_InvalidRule => k_exc)
    (case xk_InvalidRule => k_is)
    (case xs_InvalidRule => k_is)
    (case xt_InvalidRule => k_is)
    (case a_is_integer => k_is)
    (case l_is_integer => k_is)
    (case c_is_integer => k_is)
    (case k_is_integer => k_is)
    (case e_is_integer => k_is)
    (case g_is_integer => rfl)
    (case a_is_day => k_is)
    (case l_is_day => k_is)
    (case c_is_day => k_is)
    (case k_is_day => k_is)
    (case a_require_day => k_is)
    (case l_require_day => k_is)
    (case c_require_day => k_is)
    (case k_require_day => k_is)
    (case a_is_office => k_is)
    (case l_is_office => k_is)
    (case c_is_office => k_is)
    (case k_is_office => k_is)
    (case a_is_letter => k_is)
    (case l_is_letter => k_is)
    (case c_is_letter => k_is)
    (case k_is_letter => k_is)
    (case a_is_rule => k_is)
    (case l_is_rule => k_is)
    (case c_is_rule => k_is)
    (case k_is_rule => k_is)
    (case a_require_office => k_is)
    (case l_require_office => k_is)
    (case c_require_office => k_is)
    (case k_require_office => k_is)
    (case a_require_rule => k_is)
    (case l_require_rule => k_is)
    (case c_require_rule => k_is)
    (case k_require_rule => k_is)
    (case a_is_entry => k_is)
    (case l_is_entry => k_is)
    (case c_is_entry => k_is)
    (case k_is_entry => k_is)
    (case a_require_log => k_is)
    (case l_require_log => k_is)
    (case c_require_log => k_is)
    (case k_require_log => k_is)
    (case a_closes => k_is)
    (case l_closes => k_is)
    (case c_closes => k_is)
    (case k_closes => k_is)
    (case a_do_clash => k_is)
    (case l_do_clash => k_is)
    (case c_do_clash => k_is)
    (case k_do_clash => k_is)
    (case a_clash_in => k_is)
    (case l_clash_in => k_is)
    (case c_clash_in => k_is)
    (case k_clash_in => k_is)
    (case a_require_no_clash => k_is)
    (case l_require_no_clash => k_is)
    (case c_require_no_clash => k_is)
    (case k_require_no_clash => k_is)
    (case a_find_clash => k_is)
    (case l_find_clash => k_is)
    (case c_find_clash => k_is)
    (case k_find_clash => k_is)
    (case a_known_state => k_is)
    (case l_known_state => k_is)
    (case c_known_state => k_is)
    (case k_known_state => k_is)
    (case a_first_of => k_is)
    (case l_first_of => k_is)
    (case c_first_of => k_is)
    (case k_first_of => k_is)
    (case a_last_of => k_is)
    (case l_last_of => k_is)
    (case c_last_of => k_is)
    (case k_last_of => k_is)
    (case a_day_range => k_is)
    (case l_day_range => k_is)
    (case c_day_range => k_is)
    (case k_day_range => k_is)
    (case a_law_deck => k_is)
    (case l_law_deck => k_is)
    (case c_law_deck => k_is)
    (case k_law_deck => k_is)
    (case a_law_draw => k_is)
    (case l_law_draw => k_is)
    (case c_law_draw => k_is)
    (case k_law_draw => k_is)
    (case a_law_same => k_is)
    (case l_law_same => k_is)
    (case c_law_same => k_is)
    (case k_law_same => k_is)
    (case a_law_letters => k_is)
    (case l_law_letters => k_is)
    (case c_law_letters => k_is)
    (case k_law_letters => k_is)
    (case a_law_closes => k_is)
    (case l_law_closes => k_is)
    (case c_law_closes => k_is)
    (case k_law_closes => k_is)
    (case a_law_first_clash => k_is)
    (case l_law_first_clash => k_is)
    (case c_law_first_clash => k_is)
    (case k_law_first_clash => k_is)
    (case a_law_long => k_is)
    (case l_law_long => k_is)
    (case c_law_long => k_is)
    (case k_law_long => k_is)
    (case a_law_state => k_is)
    (case l_law_state => k_is)
    (case c_law_state => k_is)
    (case k_law_state => k_is)
    (case a_law_least => k_is)
    (case l_law_least => k_is)
    (case c_law_least => k_is)
    (case k_law_least => k_is)
    (case a_law_greatest => k_is)
    (case l_law_greatest => k_is)
    (case c_law_greatest => k_is)
    (case k_law_greatest => k_is)
    (case a_law => k_is)
    (case l_law => k_is)
    (case c_law => k_is)
    (case k_law => k_is)
