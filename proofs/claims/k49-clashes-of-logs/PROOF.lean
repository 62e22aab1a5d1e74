import PyProof.Rows.All
import Wide.All
import OpenK.AllK
import Wide.FinOn
import HandS.Deep
import HandS.Defaults
import HandS.EndBits
import HandS.Exc
import HandS.ExcOwn
import HandS.ForMost
import HandS.IsInst
import HandS.Style
import HandS.TryOnly
import HandS.Wide
import HandS.WordsExc
import HandS.Zip
import PySem.Challenge.RW_daychains_k49_clashes_of_logs
set_option Elab.async false
set_option linter.all false
set_option maxRecDepth 100000
set_option maxHeartbeats 2000000
namespace N
open PySem L2

inductive W where
  | non | bl (b : Bool) | int (i : Int) | str (x : Str) | tup (ws : List W) | ref (n : Nat)
  /-- a list that nobody changes (the script) -/
  | rl (ws : List W)
inductive O where
  | lst (ws : List W) | dct (kvs : List (Key × W)) | ins (c : Nat) (fs : List (Str × W))
abbrev Store := List O
structure Ex where
  cls : Nat
  own : Option (List (Str × W))
inductive R (α : Type) where
  | ok (a : α) (S : Store) | exc (x : Ex) (S : Store) | bad
def M (α : Type) := Store → R α
def M.bind {α β : Type} (m : M α) (f : α → M β) : M β := fun S => match m S with
  | .ok a S' => f a S'
  | .exc x S' => .exc x S'
  | .bad => .bad
def M.ret {α : Type} (a : α) : M α := fun S => .ok a S
instance : Monad M where
  pure := M.ret
  bind := M.bind
theorem bind_def {α β : Type} (m : M α) (f : α → M β) : (m >>= f) = M.bind m f := rfl
theorem pure_def {α : Type} (a : α) : (pure a : M α) = M.ret a := rfl
def bad {α : Type} : M α := fun _ => .bad
def wp {α : Type} (r : R α) (Q : α → Store → Prop) (E : Ex → Store → Prop) : Prop := match r with
  | .ok a S => Q a S
  | .exc x S => E x S
  | .bad => False
@[simp] theorem wp_ok {α : Type} {a : α} {S : Store} {Q : α → Store → Prop} {E : Ex → Store → Prop} : wp (.ok a S) Q E = Q a S := rfl
@[simp] theorem wp_exc {α : Type} {x : Ex} {S : Store} {Q : α → Store → Prop} {E : Ex → Store → Prop} : wp (.exc x S) Q E = E x S := rfl
@[simp] theorem wp_bad {α : Type} {Q : α → Store → Prop} {E : Ex → Store → Prop} : wp (.bad) Q E = False := rfl
theorem wp_bind {α β : Type} {m : M α} {f : α → M β} {S : Store} {Q : β → Store → Prop} {E : Ex → Store → Prop} : wp ((m >>= f) S) Q E = wp (m S) (fun a S' => wp (f a S') Q E) E := by
  show wp (M.bind m f S) Q E = _
  unfold M.bind
  cases m S <;> rfl
theorem wp_mono {α : Type} {r : R α} {Q Q' : α → Store → Prop} {E E' : Ex → Store → Prop} (h : wp r Q E) (hQ : ∀ a S, Q a S → Q' a S) (hE : ∀ x S, E x S → E' x S) : wp r Q' E' := by
  cases r with
  | ok a S => exact hQ _ _ h
  | exc x S => exact hE _ _ h
  | bad => exact h

/-! ### the relation -/
/-- signs that are signs -/
def okS (x : Str) : Bool := x.cps.toList.all fun c => decide (c < 1114112)
/-- a list that stands for ever: locked, or of the module -/
def FzL (K : PySem.W.Frag) (H : Hp) (a : Addr) (xs : List V) : Prop := (∃ o, H a = some (.frz o (.lst xs))) ∨
    ∃ (o : Obj) (its : Array Value) (n : Nat), K.lookup a = some o ∧ o.cls = .type "list" ∧ o.dict = none ∧ o.data = .seq its n ∧ its.size ≤ sizeLine ∧ Vals xs its.toList
theorem FzL.sq {K : PySem.W.Frag} {H : Hp} {a : Addr} {xs : List V} (h : FzL K H a xs) : SqL K H a xs := h.elim (fun h => .inl (.inr h)) .inr
mutual
inductive VR (K : PySem.W.Frag) (H : Hp) (ρ : List Addr) : W → V → Prop
  | non : VR K H ρ .non .non
  | bl (b : Bool) : VR K H ρ (.bl b) (.bl b)
  | int (i : Int) : VR K H ρ (.int i) (.int i)
  | str {x : Str} : okS x = true → VR K H ρ (.str x) (.str x)
  | ref {n : Nat} {a : Addr} : ρ[n]? = some a → VR K H ρ (.ref n) (.ref a)
  | tup {ws : List W} {a : Addr} {vs : List V} : SqT K H a vs → VRs K H ρ ws vs → VR K H ρ (.tup ws) (.ref a)
  | rl {ws : List W} {a : Addr} {vs : List V} : FzL K H a vs → VRs K H ρ ws vs → VR K H ρ (.rl ws) (.ref a)
inductive VRs (K : PySem.W.Frag) (H : Hp) (ρ : List Addr) : List W → List V → Prop
  | nil : VRs K H ρ [] []
  | cons {w : W} {v : V} {ws : List W} {vs : List V} : VR K H ρ w v → VRs K H ρ ws vs → VRs K H ρ (w :: ws) (v :: vs)
end
structure Ext (K : PySem.W.Frag) (H : Hp) (ρ : List Addr) (H' : Hp) (ρ' : List Addr) : Prop where
  pre : ∀ (n : Nat) (a : Addr), ρ[n]? = some a → ρ'[n]? = some a
  keep : ∀ a o, a ∉ ρ → H a = some o → H' a = some o
  new : ∀ a ∈ ρ', a ∈ ρ ∨ H a = none
  tups : ∀ a vs, SqT K H a vs → SqT K H' a vs
  frzs : ∀ a vs, FzL K H a vs → FzL K H' a vs
theorem Ext.refl {K : PySem.W.Frag} {H : Hp} {ρ : List Addr} : Ext K H ρ H ρ := ⟨fun _ _ h => h, fun _ _ _ h => h, fun _ h => .inl h, fun _ _ h => h, fun _ _ h => h⟩
theorem Ext.trans {K : PySem.W.Frag} {H H1 H2 : Hp} {ρ ρ1 ρ2 : List Addr} (a : Ext K H ρ H1 ρ1) (b : Ext K H1 ρ1 H2 ρ2) : Ext K H ρ H2 ρ2 where
  pre := fun n x h => b.pre n x (a.pre n x h)
  keep := fun x o hx h => b.keep x o (fun z => (a.new x z).elim hx fun z => by rw [h] at z; cases z) (a.keep x o hx h)
  new := fun x h => (b.new x h).elim (fun z => a.new x z) fun z => by
    by_cases hx : x ∈ ρ
    · exact .inl hx
    · refine .inr ?_
      cases q : H x with
      | none => rfl
      | some o => rw [a.keep x o hx q] at z; cases z
  tups := fun x vs h => b.tups x vs (a.tups x vs h)
  frzs := fun x vs h => b.frzs x vs (a.frzs x vs h)
mutual
theorem VR.mono {K : PySem.W.Frag} {H H' : Hp} {ρ ρ' : List Addr} (e : Ext K H ρ H' ρ') : ∀ {w : W} {v : V}, VR K H ρ w v → VR K H' ρ' w v
  | _, _, .non => .non
  | _, _, .bl b => .bl b
  | _, _, .int i => .int i
  | _, _, .str h => .str h
  | _, _, .ref h => .ref (e.pre _ _ h)
  | _, _, .tup h t => .tup (e.tups _ _ h) (VRs.mono e t)
  | _, _, .rl h t => .rl (e.frzs _ _ h) (VRs.mono e t)
theorem VRs.mono {K : PySem.W.Frag} {H H' : Hp} {ρ ρ' : List Addr} (e : Ext K H ρ H' ρ') : ∀ {ws : List W} {vs : List V}, VRs K H ρ ws vs → VRs K H' ρ' ws vs
  | _, _, .nil => .nil
  | _, _, .cons h t => .cons (VR.mono e h) (VRs.mono e t)
end
mutual
theorem VR.remap {K : PySem.W.Frag} {H H' : Hp} {ρ : List Addr} (t : ∀ a vs, SqT K H a vs → SqT K H' a vs) (f : ∀ a vs, FzL K H a vs → FzL K H' a vs) : ∀ {w : W} {v : V}, VR K H ρ w v → VR K H' ρ w v
  | _, _, .non => .non
  | _, _, .bl b => .bl b
  | _, _, .int i => .int i
  | _, _, .str h => .str h
  | _, _, .ref h => .ref h
  | _, _, .tup h q => .tup (t _ _ h) (VRs.remap t f q)
  | _, _, .rl h q => .rl (f _ _ h) (VRs.remap t f q)
theorem VRs.remap {K : PySem.W.Frag} {H H' : Hp} {ρ : List Addr} (t : ∀ a vs, SqT K H a vs → SqT K H' a vs) (f : ∀ a vs, FzL K H a vs → FzL K H' a vs) : ∀ {ws : List W} {vs : List V}, VRs K H ρ ws vs → VRs K H' ρ ws vs
  | _, _, .nil => .nil
  | _, _, .cons h q => .cons (VR.remap t f h) (VRs.remap t f q)
end
mutual
theorem VR.more {K : PySem.W.Frag} {H : Hp} {ρ ρ' : List Addr} (p : ∀ (n : Nat) (a : Addr), ρ[n]? = some a → ρ'[n]? = some a) : ∀ {w : W} {v : V}, VR K H ρ w v → VR K H ρ' w v
  | _, _, .non => .non
  | _, _, .bl b => .bl b
  | _, _, .int i => .int i
  | _, _, .str h => .str h
  | _, _, .ref h => .ref (p _ _ h)
  | _, _, .tup h q => .tup h (VRs.more p q)
  | _, _, .rl h q => .rl h (VRs.more p q)
theorem VRs.more {K : PySem.W.Frag} {H : Hp} {ρ ρ' : List Addr} (p : ∀ (n : Nat) (a : Addr), ρ[n]? = some a → ρ'[n]? = some a) : ∀ {ws : List W} {vs : List V}, VRs K H ρ ws vs → VRs K H ρ' ws vs
  | _, _, .nil => .nil
  | _, _, .cons h q => .cons (VR.more p h) (VRs.more p q)
end
section
variable {K : PySem.W.Frag} {H H' : Hp} {ρ ρ' : List Addr}
theorem VRs.length : ∀ {ws : List W} {vs : List V}, VRs K H ρ ws vs → ws.length = vs.length
  | _, _, .nil => rfl
  | _, _, .cons _ t => by simp [VRs.length t]
theorem VRs.get : ∀ {ws : List W} {vs : List V} {i : Nat} {w : W}, VRs K H ρ ws vs → ws[i]? = some w → ∃ v, vs[i]? = some v ∧ VR K H ρ w v
  | _, _, _, _, .nil, e => by simp at e
  | _, _, 0, _, .cons r _, e => by simp at e; subst e; exact ⟨_, rfl, r⟩
  | _, _, i + 1, w, .cons _ t, e => by
    obtain ⟨v, h1, h2⟩ := VRs.get (i := i) (w := w) t (by simpa using e)
    exact ⟨v, by simpa using h1, h2⟩
theorem VRs.get' : ∀ {ws : List W} {vs : List V} {i : Nat} {v : V}, VRs K H ρ ws vs → vs[i]? = some v → ∃ w, ws[i]? = some w ∧ VR K H ρ w v
  | _, _, _, _, .nil, e => by simp at e
  | _, _, 0, _, .cons r _, e => by simp at e; subst e; exact ⟨_, rfl, r⟩
  | _, _, i + 1, w, .cons _ t, e => by
    obtain ⟨v, h1, h2⟩ := VRs.get' (i := i) (v := w) t (by simpa using e)
    exact ⟨v, by simpa using h1, h2⟩
theorem VRs.append : ∀ {ws ws' : List W} {vs vs' : List V}, VRs K H ρ ws vs → VRs K H ρ ws' vs' → VRs K H ρ (ws ++ ws') (vs ++ vs')
  | _, _, _, _, .nil, s => s
  | _, _, _, _, .cons r t, s => .cons r (VRs.append t s)
theorem VRs.set {w : W} {v : V} (r : VR K H ρ w v) : ∀ {ws : List W} {vs : List V} (i : Nat), VRs K H ρ ws vs → VRs K H ρ (ws.set i w) (vs.set i v)
  | _, _, _, .nil => .nil
  | _, _, 0, .cons _ t => .cons r t
  | _, _, i + 1, .cons q t => .cons q (VRs.set r i t)
theorem VRs.take : ∀ {ws : List W} {vs : List V} (n : Nat), VRs K H ρ ws vs → VRs K H ρ (ws.take n) (vs.take n)
  | _, _, 0, _ => .nil
  | _, _, _ + 1, .nil => .nil
  | _, _, n + 1, .cons r t => .cons r (VRs.take n t)
theorem VRs.drop : ∀ {ws : List W} {vs : List V} (n : Nat), VRs K H ρ ws vs → VRs K H ρ (ws.drop n) (vs.drop n)
  | _, _, 0, r => r
  | _, _, n + 1, .nil => .nil
  | _, _, n + 1, .cons _ t => VRs.drop n t
theorem VRs.eraseIdx : ∀ {ws : List W} {vs : List V} (i : Nat), VRs K H ρ ws vs → VRs K H ρ (ws.eraseIdx i) (vs.eraseIdx i)
  | _, _, _, .nil => .nil
  | _, _, 0, .cons _ t => t
  | _, _, i + 1, .cons r t => .cons r (VRs.eraseIdx i t)
theorem VRs.reverse {ws : List W} {vs : List V} (h : VRs K H ρ ws vs) : VRs K H ρ ws.reverse vs.reverse := by
  induction ws generalizing vs with
  | nil => cases h; exact .nil
  | cons w ws ih =>
    cases h with
    | cons r t => rw [List.reverse_cons, List.reverse_cons]; exact (ih t).append (.cons r .nil)
theorem VRs.ints : ∀ (ns : List Int), VRs K H ρ (ns.map W.int) (ns.map V.int)
  | [] => .nil
  | _ :: ns => .cons (.int _) (VRs.ints ns)
theorem VR.inj1 {n m : Nat} {a : Addr} (nd : ρ.Nodup) (h : ρ[n]? = some a) (h' : ρ[m]? = some a) : n = m := by
  obtain ⟨h1, e1⟩ := List.getElem?_eq_some_iff.mp h
  obtain ⟨h2, e2⟩ := List.getElem?_eq_some_iff.mp h'
  exact (List.getElem_inj nd).mp (e1.trans e2.symm)
end

/-- fields of an object, pairs of a dict -/
abbrev FR {κ : Type} (K : PySem.W.Frag) (H : Hp) (ρ : List Addr) : List (κ × W) → List (κ × V) → Prop := Paired fun p q => p.1 = q.1 ∧ VR K H ρ p.2 q.2
theorem FR.mono {κ : Type} {K : PySem.W.Frag} {H H' : Hp} {ρ ρ' : List Addr} (e : Ext K H ρ H' ρ') {l : List (κ × W)} {l' : List (κ × V)} (h : FR K H ρ l l') : FR K H' ρ' l l' :=
  Paired.mapP h fun _ _ r => ⟨r.1, r.2.mono e⟩
/-- what is fixed through a law -/
structure Top where
  P : Program
  w : World
  K : PySem.W.Frag
  mg : Str → Option Value
  base : Heap
  cl : Nat → Addr
def OR (G : Top) (H : Hp) (ρ : List Addr) (a : Addr) : O → Prop
  | .lst ws => ∃ vs, H a = some (.lst vs) ∧ VRs G.K H ρ ws vs
  | .dct kvs => ∃ l, H a = some (.dK l) ∧ FR G.K H ρ kvs l
  | .ins c fs => ∃ dx l, H a = some (.ins (G.cl c) dx l) ∧ FR G.K H ρ fs l
structure SR (G : Top) (H : Hp) (ρ : List Addr) (S : Store) : Prop where
  len : ρ.length = S.length
  nd : ρ.Nodup
  ob : ∀ (n : Nat) (a : Addr) (o : O), ρ[n]? = some a → S[n]? = some o → OR G H ρ a o
def XR (G : Top) (H : Hp) (ρ : List Addr) (x : Ex) (cls : Value) (dd : Option Addr) : Prop :=
  cls = .ref (G.cl x.cls) ∧ match x.own with
    | none => dd = none
    | some fs => ∃ d l, dd = some d ∧ H d = some (.xd l) ∧ FR G.K H ρ fs l
abbrev Ev := List (Option W)
structure EvR (K : PySem.W.Frag) (H : Hp) (ρ : List Addr) (ε : Ev) (σ : St) : Prop where
  len : ε.length = σ.length
  at_ : ∀ (i : Nat) (w : W), ε[i]? = some (some w) → ∃ v, σ[i]? = some (some v) ∧ VR K H ρ w v
theorem EvR.mono {K : PySem.W.Frag} {H H' : Hp} {ρ ρ' : List Addr} {ε : Ev} {σ : St} (s : EvR K H ρ ε σ) (e : Ext K H ρ H' ρ') : EvR K H' ρ' ε σ :=
  ⟨s.len, fun i w h => let ⟨v, a, b⟩ := s.at_ i w h; ⟨v, a, b.mono e⟩⟩
theorem EvR.set {K : PySem.W.Frag} {H : Hp} {ρ : List Addr} {ε : Ev} {σ : St} {w : W} {v : V} (s : EvR K H ρ ε σ) (i : Nat) (r : VR K H ρ w v) : EvR K H ρ (ε.set i (some w)) (σ.set i (some v)) := by
  refine ⟨by simp [s.len], fun j w' h => ?_⟩
  by_cases hj : i = j
  · subst hj
    by_cases hi : i < ε.length
    · rw [List.getElem?_set_self hi] at h
      cases h
      exact ⟨v, by rw [List.getElem?_set_self (by rw [← s.len]; exact hi)], r⟩
    · rw [List.getElem?_eq_none (by simpa using hi)] at h
      cases h
  · rw [List.getElem?_set_ne hj] at h
    rw [List.getElem?_set_ne hj]
    exact s.at_ j w' h
/-- object kinds differ: a tuple's place is none of the store's -/
theorem Rd.uniq {H : Hp} {a : Addr} {o : HO} {xs : List V} (h : Rd H a (.tup xs)) (h' : H a = some o) : o = .tup xs ∨ ∃ ob, o = .frz ob (.tup xs) := by
  rcases h with h | ⟨ob, h⟩
  · rw [h'] at h; cases h; exact .inl rfl
  · rw [h'] at h; cases h; exact .inr ⟨ob, rfl⟩
theorem tups_upd {K : PySem.W.Frag} {H : Hp} {a : Addr} {o u : HO} (h : H a = some o) (hm : Mut (some o)) : ∀ b vs, SqT K H b vs → SqT K (upd H a u) b vs := fun b vs q => by
  rcases q with q | q
  · by_cases e : b = a
    · subst e
      rcases Rd.uniq q h with rfl | ⟨_, rfl⟩ <;> exact hm.elim
    · refine .inl ?_
      rcases q with q | ⟨ob, q⟩
      · exact .inl (by rw [upd_ne e]; exact q)
      · exact .inr ⟨ob, by rw [upd_ne e]; exact q⟩
  · exact .inr q
theorem tups_new {K : PySem.W.Frag} {H : Hp} {a : Addr} {u : HO} (h : H a = none) : ∀ b vs, SqT K H b vs → SqT K (upd H a u) b vs := fun b vs q => by
  rcases q with q | q
  · refine .inl ?_
    rcases q with q | ⟨ob, q⟩
    · exact .inl (by rw [upd_ne (ne_of_none q h)]; exact q)
    · exact .inr ⟨ob, by rw [upd_ne (ne_of_none q h)]; exact q⟩
  · exact .inr q
theorem frzs_upd {K : PySem.W.Frag} {H : Hp} {a : Addr} {o u : HO} (h : H a = some o) (hm : Mut (some o)) : ∀ b vs, FzL K H b vs → FzL K (upd H a u) b vs := fun b vs q => by
  rcases q with ⟨ob, q⟩ | q
  · by_cases e : b = a
    · subst e
      rw [h] at q; cases q; exact hm.elim
    · exact .inl ⟨ob, by rw [upd_ne e]; exact q⟩
  · exact .inr q
theorem frzs_new {K : PySem.W.Frag} {H : Hp} {a : Addr} {u : HO} (h : H a = none) : ∀ b vs, FzL K H b vs → FzL K (upd H a u) b vs := fun b vs q => by
  rcases q with ⟨ob, q⟩ | q
  · exact .inl ⟨ob, by rw [upd_ne (ne_of_none q h)]; exact q⟩
  · exact .inr q
section
variable {G : Top} {H : Hp} {ρ : List Addr} {S : Store}
/-- a new untracked-by-us object (a tuple, a record) -/
theorem Ext.fresh {a : Addr} {u : HO} (h : H a = none) : Ext G.K H ρ (upd H a u) ρ :=
  ⟨fun _ _ z => z, fun b o _ z => by rw [upd_ne (ne_of_none z h)]; exact z, fun _ z => .inl z, tups_new h, frzs_new h⟩
theorem OR.fresh {a b : Addr} {u : HO} {o : O} (h : H a = none) (r : OR G H ρ b o) : OR G (upd H a u) ρ b o := by
  have e : Ext G.K H ρ (upd H a u) ρ := Ext.fresh h
  cases o with
  | lst ws => obtain ⟨vs, z, q⟩ := r; exact ⟨vs, by rw [upd_ne (ne_of_none z h)]; exact z, q.mono e⟩
  | dct kvs => obtain ⟨vs, z, q⟩ := r; exact ⟨vs, by rw [upd_ne (ne_of_none z h)]; exact z, FR.mono e q⟩
  | ins c fs => obtain ⟨dx, vs, z, q⟩ := r; exact ⟨dx, vs, by rw [upd_ne (ne_of_none z h)]; exact z, FR.mono e q⟩
theorem SR.fresh {a : Addr} {u : HO} (sr : SR G H ρ S) (h : H a = none) : SR G (upd H a u) ρ S := ⟨sr.len, sr.nd, fun n b o h1 h2 => (sr.ob n b o h1 h2).fresh h⟩
theorem SR.dom {n : Nat} {o : O} (sr : SR G H ρ S) (h : S[n]? = some o) : ∃ a, ρ[n]? = some a ∧ OR G H ρ a o := by
  have hn : n < ρ.length := by rw [sr.len]; exact (List.getElem?_eq_some_iff.mp h).1
  exact ⟨ρ[n], List.getElem?_eq_getElem hn, sr.ob n _ o (List.getElem?_eq_getElem hn) h⟩
theorem SR.at_ {n : Nat} {a : Addr} {o : O} (sr : SR G H ρ S) (r : VR G.K H ρ (.ref n) (.ref a)) (h : S[n]? = some o) : OR G H ρ a o := by
  cases r with
  | ref q => exact sr.ob n a o q h
/-- objects of ρ are no tuples where the store knows them as mutable ones -/
theorem OR.mono_pre {ρ' : List Addr} {H' : Hp} {b : Addr} {o : O} (e : Ext G.K H ρ H' ρ') (hb : ∀ u, H b = some u → H' b = some u) (r : OR G H ρ b o) : OR G H' ρ' b o := by
  cases o with
  | lst ws => obtain ⟨vs, z, q⟩ := r; exact ⟨vs, hb _ z, q.mono e⟩
  | dct kvs => obtain ⟨vs, z, q⟩ := r; exact ⟨vs, hb _ z, FR.mono e q⟩
  | ins c fs => obtain ⟨dx, vs, z, q⟩ := r; exact ⟨dx, vs, hb _ z, FR.mono e q⟩
theorem SR.fresh_mem {a : Addr} (sr : SR G H ρ S) (h : H a = none) : a ∉ ρ := fun z => by
  obtain ⟨n, hn, e⟩ := List.mem_iff_getElem.mp z
  have hs : n < S.length := by rw [← sr.len]; exact hn
  have q := sr.ob n a S[n] (by rw [List.getElem?_eq_getElem hn, e]) (List.getElem?_eq_getElem hs)
  cases ho : S[n] with
  | lst ws => rw [ho] at q; obtain ⟨_, z, _⟩ := q; rw [h] at z; cases z
  | dct kvs => rw [ho] at q; obtain ⟨_, z, _⟩ := q; rw [h] at z; cases z
  | ins c fs => rw [ho] at q; obtain ⟨_, _, z, _⟩ := q; rw [h] at z; cases z
/-- a new object of the store -/
theorem Ext.snoc {a : Addr} {u : HO} (h : H a = none) : Ext G.K H ρ (upd H a u) (ρ ++ [a]) := by
  refine ⟨fun n x z => ?_, fun b o _ z => by rw [upd_ne (ne_of_none z h)]; exact z, fun x z => ?_, tups_new h, frzs_new h⟩
  · rw [List.getElem?_append_left (List.getElem?_eq_some_iff.mp z).1]; exact z
  · rcases List.mem_append.mp z with z | z
    · exact .inl z
    · simp at z; subst z; exact .inr h
theorem SR.snoc {a : Addr} {u : HO} {o : O} (sr : SR G H ρ S) (h : H a = none) (r : OR G (upd H a u) (ρ ++ [a]) a o) : SR G (upd H a u) (ρ ++ [a]) (S ++ [o]) := by
  refine ⟨by simp [sr.len], ?_, fun n b o' h1 h2 => ?_⟩
  · rw [List.nodup_append]
    exact ⟨sr.nd, by simp, fun x hx y hy z => by simp at hy; subst hy; subst z; exact sr.fresh_mem h hx⟩
  · by_cases hl : n < ρ.length
    · rw [List.getElem?_append_left hl] at h1
      rw [List.getElem?_append_left (by rw [← sr.len]; exact hl)] at h2
      exact (sr.ob n b o' h1 h2).mono_pre (Ext.snoc h) (fun u' z => by rw [upd_ne (ne_of_none z h)]; exact z)
    · have hl2 : ρ.length ≤ n := Nat.le_of_not_lt hl
      rw [List.getElem?_append_right hl2] at h1
      rw [List.getElem?_append_right (by rw [← sr.len]; exact hl2)] at h2
      have e : n - ρ.length = 0 := by
        have := (List.getElem?_eq_some_iff.mp h1).1
        simp at this; omega
      rw [e] at h1
      rw [← sr.len, e] at h2
      simp at h1 h2
      subst h1; subst h2
      exact r
/-- an object of the store changed -/
theorem Ext.upd {n : Nat} {a : Addr} {o u : HO} (hr : ρ[n]? = some a) (h : H a = some o) (hm : Mut (some o)) : Ext G.K H ρ (upd H a u) ρ :=
  ⟨fun _ _ z => z, fun b o hb z => by rw [upd_ne (fun e => hb (by rw [e]; exact List.mem_of_getElem? hr))]; exact z, fun _ z => .inl z, tups_upd h hm, frzs_upd h hm⟩
theorem SR.upd {n : Nat} {a : Addr} {o u : HO} {ob : O} (sr : SR G H ρ S) (hr : ρ[n]? = some a) (h : H a = some o) (hm : Mut (some o)) (r : OR G (upd H a u) ρ a ob) : SR G (upd H a u) ρ (S.set n ob) := by
  refine ⟨by simp [sr.len], sr.nd, fun m b o' h1 h2 => ?_⟩
  by_cases e : n = m
  · subst e
    rw [hr] at h1; cases h1
    have hn : n < S.length := by rw [← sr.len]; exact (List.getElem?_eq_some_iff.mp hr).1
    rw [List.getElem?_set_self hn] at h2; cases h2
    exact r
  · rw [List.getElem?_set_ne e] at h2
    have hne : b ≠ a := fun z => e (VR.inj1 sr.nd hr (by rw [← z]; exact h1))
    exact (sr.ob m b o' h1 h2).mono_pre (Ext.upd hr h hm) (fun u' z => by rw [upd_ne hne]; exact z)
end
end N
namespace N
open PySem L2

structure Ctx where
  N : List Str
  sc : Scope
  fn : Str → Bool
structure Fit (G : Top) (c : Ctx) (k : Nat) (X : Cx) (W : WX) : Prop where
  P : X.prog = G.P
  w : X.w = G.w
  K : X.K = G.K
  mg : X.mg = G.mg
  base : X.base = G.base
  N : X.N = c.N
  sc : X.env.scope = c.sc
  nd : X.N.Nodup
  calm : X.calm = true
  room : Room k X.A
  gd : X.A.guards = some []
  tk : Takes X W
  pass : PassesOwn (model X.prog X.w) X.A X.env X.xe
  fn : ∀ x, c.fn x = true → X.fn x = true

/-- what is wanted of a result -/
def Rg {α β : Type} (G : Top) (W : WX) (σ : St) (rel : Hp → List Addr → α → β → Prop) (r : R α) (H : Hp) (ρ : List Addr) (Q : β → Hp → Prop) : Prop :=
  wp r (fun a S' => ∀ H' ρ' b, Ext G.K H ρ H' ρ' → SR G H' ρ' S' → rel H' ρ' a b → Q b H')
    (fun x S' => ∀ H' ρ' cls dd, Ext G.K H ρ H' ρ' → SR G H' ρ' S' → XR G H' ρ' x cls dd → W cls dd σ H')
section
variable {G : Top} {W : WX} {σ : St}
theorem Rg.mono {α β : Type} {rel : Hp → List Addr → α → β → Prop} {r : R α} {H : Hp} {ρ : List Addr} {Q Q' : β → Hp → Prop} (h : Rg G W σ rel r H ρ Q) (hQ : ∀ b H', Q b H' → Q' b H') : Rg G W σ rel r H ρ Q' :=
  wp_mono h (fun _ _ q H' ρ' b e s v => hQ b H' (q H' ρ' b e s v)) fun _ _ q => q
theorem Rg.bind {α β γ δ : Type} {rel : Hp → List Addr → α → β → Prop} {rel2 : Hp → List Addr → γ → δ → Prop} {m : M α} {f : α → M γ} {S : Store} {H : Hp} {ρ : List Addr} {Q : δ → Hp → Prop} (h : Rg G W σ rel2 ((m >>= f) S) H ρ Q) :
    Rg G W σ rel (m S) H ρ (fun b H' => ∃ a S' ρ', Ext G.K H ρ H' ρ' ∧ SR G H' ρ' S' ∧ rel H' ρ' a b ∧ Rg G W σ rel2 (f a S') H' ρ' Q) := by
  unfold Rg at h ⊢
  rw [wp_bind] at h
  refine wp_mono h (fun a S' q H' ρ' b e s v => ⟨a, S', ρ', e, s, v, ?_⟩) fun x S' q H' ρ' cls dd e s v => q H' ρ' cls dd e s v
  exact wp_mono q (fun c S2 q2 H2 ρ2 d e2 s2 v2 => q2 H2 ρ2 d (e.trans e2) s2 v2) fun x S2 q2 H2 ρ2 cls dd e2 s2 v2 => q2 H2 ρ2 cls dd (e.trans e2) s2 v2
theorem Rg.ret {α β : Type} {rel : Hp → List Addr → α → β → Prop} {a : α} {b : β} {S : Store} {H : Hp} {ρ : List Addr} {Q : β → Hp → Prop} (h : Rg G W σ rel (M.ret a S) H ρ Q) (s : SR G H ρ S) (r : rel H ρ a b) : Q b H := h H ρ b Ext.refl s r
end
/-- readings -/
abbrev DE := Ev → M W
abbrev DB := Ev → M Bool
abbrev DA := Ev → M (List W)
abbrev rB : Hp → List Addr → Bool → Bool → Prop := fun _ _ a b => a = b
def tN (G : Top) (W : WX) (d : DE) : TE := fun σ H Q => ∃ ρ ε S, EvR G.K H ρ ε σ ∧ SR G H ρ S ∧ Rg G W σ (VR G.K) (d ε S) H ρ Q
def tB (G : Top) (W : WX) (d : DB) : TT := fun σ H Q => ∃ ρ ε S, EvR G.K H ρ ε σ ∧ SR G H ρ S ∧ Rg G W σ rB (d ε S) H ρ Q
def tA (G : Top) (W : WX) (d : DA) : TA := fun σ H Q => ∃ ρ ε S, EvR G.K H ρ ε σ ∧ SR G H ρ S ∧ Rg G W σ (VRs G.K) (d ε S) H ρ Q
theorem PE.imp {X : Cx} {e : Expr} {t t' : TE} (h : PE X e t) (f : ∀ σ H Q, t' σ H Q → t σ H Q) : PE X e t' := ⟨fun pins s σ H Q I q => h.run pins s σ H Q I (f _ _ _ q)⟩
theorem PT.imp {X : Cx} {e : Expr} {t t' : TT} (h : PT X e t) (f : ∀ σ H Q, t' σ H Q → t σ H Q) : PT X e t' := ⟨fun pins s σ H Q I q => h.run pins s σ H Q I (f _ _ _ q)⟩
theorem PW.imp {X : Cx} {e : Expr} {t t' : TT} (h : PW X e t) (f : ∀ σ H Q, t' σ H Q → t σ H Q) : PW X e t' := ⟨fun wh pins s σ H Q I q => h.run wh pins s σ H Q I (f _ _ _ q)⟩
theorem PA.imp {X : Cx} {e : List Expr} {t t' : TA} (h : PA X e t) (f : ∀ σ H Q, t' σ H Q → t σ H Q) : PA X e t' := ⟨fun p pins s σ H Q I q => h.run p pins s σ H Q I (f _ _ _ q)⟩
theorem PS.imp {X : Cx} {e : Stmt} {t t' : TS} (h : PS X e t) (f : ∀ D σ H, t' D σ H → t D σ H) : PS X e t' := ⟨fun pins s σ H D I q => h.run pins s σ H D I (f _ _ _ q)⟩
theorem PSs.imp {X : Cx} {e : List Stmt} {t t' : TS} (h : PSs X e t) (f : ∀ D σ H, t' D σ H → t D σ H) : PSs X e t' := ⟨fun pins s σ H D I q => h.run pins s σ H D I (f _ _ _ q)⟩
section
variable (G : Top) (c : Ctx) (k : Nat)
def EOk (e : Expr) (d : DE) : Prop := ∀ X W, Fit G c k X W → PE X e (tN G W d)
def BOk (e : Expr) (d : DB) : Prop := ∀ X W, Fit G c k X W → PT X e (tB G W d)
def BWOk (e : Expr) (d : DB) : Prop := ∀ X W, Fit G c k X W → PW X e (tB G W d)
def AOk (es : List Expr) (d : DA) : Prop := ∀ X W, Fit G c k X W → PA X es (tA G W d)
end

/-! ### statements -/
inductive RS where
  | nx (ε : Ev) (S : Store) | rt (w : W) (S : Store) | bk (ε : Ev) (S : Store) | ct (ε : Ev) (S : Store) | exc (x : Ex) (ε : Ev) (S : Store) | bad
abbrev DS := Ev → Store → RS
structure NEnds where
  nx : Ev → Store → Prop
  rt : W → Store → Prop
  bk : Ev → Store → Prop
  ct : Ev → Store → Prop
  ex : Ex → Ev → Store → Prop
def wpS (r : RS) (D : NEnds) : Prop := match r with
  | .nx ε S => D.nx ε S
  | .rt w S => D.rt w S
  | .bk ε S => D.bk ε S
  | .ct ε S => D.ct ε S
  | .exc x ε S => D.ex x ε S
  | .bad => False
/-- the wishes of a statement's ends, over the store -/
def nE (G : Top) (W : WX) (D : Ends) (H : Hp) (ρ : List Addr) : NEnds where
  nx := fun ε S => ∀ H' ρ' σ', Ext G.K H ρ H' ρ' → SR G H' ρ' S → EvR G.K H' ρ' ε σ' → D.nx σ' H'
  rt := fun w S => ∀ H' ρ' v, Ext G.K H ρ H' ρ' → SR G H' ρ' S → VR G.K H' ρ' w v → D.rt v H'
  bk := fun ε S => ∀ H' ρ' σ', Ext G.K H ρ H' ρ' → SR G H' ρ' S → EvR G.K H' ρ' ε σ' → D.bk σ' H'
  ct := fun ε S => ∀ H' ρ' σ', Ext G.K H ρ H' ρ' → SR G H' ρ' S → EvR G.K H' ρ' ε σ' → D.ct σ' H'
  ex := fun x ε S => ∀ H' ρ' σ' cls dd, Ext G.K H ρ H' ρ' → SR G H' ρ' S → EvR G.K H' ρ' ε σ' → XR G H' ρ' x cls dd → W cls dd σ' H'
def tS (G : Top) (W : WX) (d : DS) : TS := fun D σ H => ∃ ρ ε S, EvR G.K H ρ ε σ ∧ SR G H ρ S ∧ wpS (d ε S) (nE G W D H ρ)
section
variable (G : Top) (c : Ctx) (k : Nat)
def SOk (st : Stmt) (d : DS) : Prop := ∀ X W, Fit G c k X W → PS X st (tS G W d)
def SsOk (st : List Stmt) (d : DS) : Prop := ∀ X W, Fit G c k X W → PSs X st (tS G W d)
end
theorem wpS_mono {r : RS} {D D' : NEnds} (h : wpS r D) (h1 : ∀ ε S, D.nx ε S → D'.nx ε S) (h2 : ∀ w S, D.rt w S → D'.rt w S) (h3 : ∀ ε S, D.bk ε S → D'.bk ε S) (h4 : ∀ ε S, D.ct ε S → D'.ct ε S) (h5 : ∀ x ε S, D.ex x ε S → D'.ex x ε S) : wpS r D' := by
  cases r with
  | nx ε S => exact h1 _ _ h
  | rt w S => exact h2 _ _ h
  | bk ε S => exact h3 _ _ h
  | ct ε S => exact h4 _ _ h
  | exc x ε S => exact h5 _ _ _ h
  | bad => exact h
/-- the wishes further on -/
theorem nE_ext {G : Top} {W : WX} {D : Ends} {H H' : Hp} {ρ ρ' : List Addr} (e : Ext G.K H ρ H' ρ') {r : RS} (h : wpS r (nE G W D H ρ)) : wpS r (nE G W D H' ρ') :=
  wpS_mono h (fun _ _ q _ _ _ a b c => q _ _ _ (e.trans a) b c) (fun _ _ q _ _ _ a b c => q _ _ _ (e.trans a) b c) (fun _ _ q _ _ _ a b c => q _ _ _ (e.trans a) b c) (fun _ _ q _ _ _ a b c => q _ _ _ (e.trans a) b c)
    fun _ _ _ q _ _ _ _ _ a b c d => q _ _ _ _ _ (e.trans a) b c d
def dSeq (d e : DS) : DS := fun ε S => match d ε S with
  | .nx ε' S' => e ε' S'
  | r => r
def dNx : DS := fun ε S => .nx ε S
def dBk : DS := fun ε S => .bk ε S
def dCt : DS := fun ε S => .ct ε S
/-- a result of an expression, then a statement -/
def sBind {α : Type} (m : M α) (ε : Ev) (S : Store) (f : α → Store → RS) : RS := match m S with
  | .ok a S' => f a S'
  | .exc x S' => .exc x ε S'
  | .bad => .bad
theorem Rg_sBind {α β : Type} {G : Top} {W : WX} {D : Ends} {σ : St} {H : Hp} {ρ : List Addr} {ε : Ev} {S : Store} {rel : Hp → List Addr → α → β → Prop} {m : M α} {f : α → Store → RS} (ev : EvR G.K H ρ ε σ) (h : wpS (sBind m ε S f) (nE G W D H ρ)) :
    Rg G W σ rel (m S) H ρ (fun b H' => ∃ a S' ρ', Ext G.K H ρ H' ρ' ∧ SR G H' ρ' S' ∧ rel H' ρ' a b ∧ wpS (f a S') (nE G W D H' ρ')) := by
  unfold sBind at h
  unfold Rg
  cases q : m S with
  | ok a S' =>
    rw [q] at h
    exact fun H' ρ' b e s r => ⟨a, S', ρ', e, s, r, nE_ext e h⟩
  | exc x S' =>
    rw [q] at h
    exact fun H' ρ' cls dd e s r => h H' ρ' σ cls dd e s (ev.mono e) r
  | bad =>
    rw [q] at h
    exact h
def dDrop (d : DE) : DS := fun ε S => sBind (d ε) ε S fun _ S' => .nx ε S'
def dRet (d : DE) : DS := fun ε S => sBind (d ε) ε S fun w S' => .rt w S'
def dRetN : DS := fun ε S => .rt .non S
def dIf (c : DB) (t u : DS) : DS := fun ε S => sBind (c ε) ε S fun b S' => if b = true then t ε S' else u ε S'
section
variable {G : Top} {c : Ctx} {k : Nat}
theorem ss_nil : SsOk G c k [] dNx := fun X W F => PSs.imp pss_nil fun D σ H ⟨ρ, ε, S, ev, sr, h⟩ => h H ρ σ Ext.refl sr ev
theorem ss_cons {st : Stmt} {rest : List Stmt} {d e : DS} (h1 : SOk G c k st d) (h2 : SsOk G c k rest e) : SsOk G c k (st :: rest) (dSeq d e) := fun X W F =>
  PSs.imp (pss_cons (h1 X W F) (h2 X W F)) fun D σ H ⟨ρ, ε, S, ev, sr, h⟩ => by
    refine ⟨ρ, ε, S, ev, sr, ?_⟩
    unfold dSeq at h
    cases q : d ε S with
    | nx ε' S' =>
      rw [q] at h
      exact fun H' ρ' σ' e' s' v' => ⟨ρ', ε', S', v', s', nE_ext e' h⟩
    | rt w S' => rw [q] at h; exact h
    | bk ε' S' => rw [q] at h; exact h
    | ct ε' S' => rw [q] at h; exact h
    | exc x ε' S' => rw [q] at h; exact h
    | bad => rw [q] at h; exact h
theorem ss_one {st : Stmt} {d : DS} (h1 : SOk G c k st d) : SsOk G c k [st] d := fun X W F => pss_one (h1 X W F)
theorem s_pass {pos : Pos} : SOk G c k (.Pass pos) dNx := fun X W F => PS.imp ps_pass fun D σ H ⟨ρ, ε, S, ev, sr, h⟩ => h H ρ σ Ext.refl sr ev
theorem s_break {pos : Pos} : SOk G c k (.Break pos) dBk := fun X W F => PS.imp ps_break fun D σ H ⟨ρ, ε, S, ev, sr, h⟩ => h H ρ σ Ext.refl sr ev
theorem s_cont {pos : Pos} : SOk G c k (.Continue pos) dCt := fun X W F => PS.imp ps_continue fun D σ H ⟨ρ, ε, S, ev, sr, h⟩ => h H ρ σ Ext.refl sr ev
theorem s_doc {x : Str} {j : Nat} {pos pos' : Pos} : SOk G c k (.Expr (.Constant (.str x) j pos) pos') dNx := fun X W F => PS.imp ps_doc fun D σ H ⟨ρ, ε, S, ev, sr, h⟩ => h H ρ σ Ext.refl sr ev
theorem s_expr {e : Expr} {d : DE} {pos : Pos} (he : EOk G c k e d) (hs : ∀ env, swapsWith e none pos.line env = pure false := by intro _; rfl) : SOk G c k (.Expr e pos) (dDrop d) := fun X W F =>
  PS.imp (ps_expr (he X W F) (hs _)) fun D σ H ⟨ρ, ε, S, ev, sr, h⟩ => ⟨ρ, ε, S, ev, sr, (Rg_sBind ev h).mono fun v H' ⟨w, S', ρ', e', s', r', q⟩ => q H' ρ' σ Ext.refl s' (ev.mono e')⟩
theorem s_ret {e : Expr} {d : DE} {pos : Pos} (he : EOk G c k e d) : SOk G c k (.Return (some e) pos) (dRet d) := fun X W F =>
  PS.imp (ps_ret (he X W F)) fun D σ H ⟨ρ, ε, S, ev, sr, h⟩ => ⟨ρ, ε, S, ev, sr, (Rg_sBind ev h).mono fun v H' ⟨w, S', ρ', e', s', r', q⟩ => q H' ρ' v Ext.refl s' r'⟩
theorem s_retN {pos : Pos} : SOk G c k (.Return none pos) dRetN := fun X W F => PS.imp ps_retN fun D σ H ⟨ρ, ε, S, ev, sr, h⟩ => h H ρ .non Ext.refl sr .non
theorem s_if {t : Expr} {a b : List Stmt} {pos : Pos} {dt : DB} {da db : DS} (ht : BOk G c k t dt) (ha : SsOk G c k a da) (hb : SsOk G c k b db) : SOk G c k (.If t a b pos) (dIf dt da db) := fun X W F =>
  PS.imp (ps_if (ht X W F) (ha X W F) (hb X W F)) fun D σ H ⟨ρ, ε, S, ev, sr, h⟩ => ⟨ρ, ε, S, ev, sr, (Rg_sBind ev h).mono fun v H' ⟨w, S', ρ', e', s', r', q⟩ => by
    obtain rfl : w = v := r'
    cases w with
    | true => exact ⟨ρ', ε, S', ev.mono e', s', q⟩
    | false => exact ⟨ρ', ε, S', ev.mono e', s', q⟩⟩

/-! ### names, constants -/
def dVar (i : Nat) : DE := fun ε S => match ε[i]? with
  | some (some w) => .ok w S
  | _ => .bad
def dC (w : W) : DE := fun _ S => .ok w S
theorem e_var (i : Nat) {x : Str} {pos : Pos} (hN : c.N[i]? = some x := by rfl) (hv : Vis c.sc x := by first | exact Or.inl rfl | exact Or.inr (Or.inl rfl) | exact Or.inr (Or.inr rfl)) (hd : (x == ("__debug__" : Str)) = false := by decide)
    (hcd : (x == ("__classdict__" : Str)) = false := by decide) : EOk G c k (.Name x pos) (dVar i) := fun X W F =>
  PE.imp (pe_var (i := i) (by rw [F.N]; exact hN) (by rw [F.sc]; exact hv) hd hcd) fun σ H Q ⟨ρ, ε, S, ev, sr, h⟩ => by
    unfold dVar at h
    cases q : ε[i]? with
    | none => rw [q] at h; exact h.elim
    | some o =>
      cases o with
      | none => rw [q] at h; exact h.elim
      | some w =>
        rw [q] at h
        obtain ⟨v, hv, r⟩ := ev.at_ i w q
        exact ⟨v, hv, h H ρ v Ext.refl sr r⟩
theorem tC_ok {w : W} {v : V} {W' : WX} {σ : St} {H : Hp} {Q : VK} (h : tN G W' (dC w) σ H Q) (r : ∀ ρ, VR G.K H ρ w v) : tC v σ H Q := let ⟨ρ, ε, S, ev, sr, h⟩ := h; h H ρ v Ext.refl sr (r ρ)
theorem e_int {i : Int} {j : Nat} {pos : Pos} : EOk G c k (.Constant (.int i) j pos) (dC (.int i)) := fun X W F => PE.imp pe_int fun σ H Q h => tC_ok h fun _ => .int i
theorem e_bl {b : Bool} {j : Nat} {pos : Pos} : EOk G c k (.Constant (.bool b) j pos) (dC (.bl b)) := fun X W F => PE.imp pe_bl fun σ H Q h => tC_ok h fun _ => .bl b
theorem e_non {j : Nat} {pos : Pos} : EOk G c k (.Constant .none j pos) (dC .non) := fun X W F => PE.imp pe_non fun σ H Q h => tC_ok h fun _ => .non
theorem e_str {x : Str} {j : Nat} {pos : Pos} (hx : okS x = true := by decide +kernel) : EOk G c k (.Constant (.str x) j pos) (dC (.str x)) := fun X W F => PE.imp pe_str fun σ H Q h => tC_ok h fun _ => .str hx
theorem glob_of {X : Cx} {W : WX} (F : Fit G c k X W) {x : Str} (hg : c.sc.names.lookup x = some .globalImplicit) : Gl X x := by
  show X.env.scope.names.lookup x = _
  rw [F.sc]; exact hg
/-- a module's constant -/
def isC : W → Option V
  | .non => some .non | .bl b => some (.bl b) | .int i => some (.int i) | .str x => if okS x = true then some (.str x) else none | _ => none
theorem isC_ok {w : W} {v : V} (h : isC w = some v) {K : PySem.W.Frag} {H : Hp} {ρ : List Addr} : VR K H ρ w v := by
  cases w with
  | non => cases h; exact .non
  | bl b => cases h; exact .bl b
  | int i => cases h; exact .int i
  | str x =>
    simp only [isC] at h
    split at h
    · cases h; exact .str (by assumption)
    · cases h
  | tup _ => cases h
  | ref _ => cases h
  | rl _ => cases h
theorem e_glob {x : Str} {w : W} {v : V} {u : Value} {pos : Pos} (hm : G.mg x = some u) (hc : isC w = some v) (r : RelV v u) (hg : c.sc.names.lookup x = some .globalImplicit := by rfl) (hd : (x == ("__debug__" : Str)) = false := by decide) : EOk G c k (.Name x pos) (dC w) := fun X W F =>
  PE.imp (pe_glob (glob_of F hg) (by rw [F.mg]; exact hm) r hd) fun σ H Q h => tC_ok h fun _ => isC_ok hc

/-! ### arguments, displays -/
def aNil : DA := fun _ => M.ret []
def aCons (d : DE) (e : DA) : DA := fun ε => d ε >>= fun w => e ε >>= fun ws => M.ret (w :: ws)
def plainE : Expr → Bool
  | .Starred _ _ => false
  | _ => true
theorem starEach_plain {e : Expr} (h : plainE e = true) (es : List Expr) (env : Env) : starEach (e :: es) env = (false, eval e env) :: starEach es env := by
  cases e <;> first | rfl | (simp [plainE] at h)
theorem a_nil : AOk G c k [] aNil := fun X W F => PA.imp pa_nil fun σ H Q ⟨ρ, ε, S, ev, sr, h⟩ => h H ρ [] Ext.refl sr .nil
theorem a_cons {e : Expr} {es : List Expr} {d : DE} {da : DA} (he : EOk G c k e d) (ha : AOk G c k es da) (hp : plainE e = true := by rfl) : AOk G c k (e :: es) (aCons d da) := fun X W F =>
  PA.imp (pa_cons (he X W F) (ha X W F) (starEach_plain hp _ _)) fun σ H Q ⟨ρ, ε, S, ev, sr, h⟩ => ⟨ρ, ε, S, ev, sr, (Rg.bind h).mono fun v H1 ⟨w, S1, ρ1, e1, s1, r1, h1⟩ =>
    ⟨ρ1, ε, S1, ev.mono e1, s1, (Rg.bind h1).mono fun vs H2 ⟨ws, S2, ρ2, e2, s2, r2, h2⟩ => Rg.ret (rel := VRs G.K) h2 s2 (.cons (r1.mono e2) r2)⟩⟩
/-- a new object -/
def alloc (o : O) : M W := fun S => .ok (.ref S.length) (S ++ [o])
def chk (b : Bool) : M Unit := fun S => if b then .ok () S else .bad
def lenOk (n : Nat) : Bool := decide (n ≤ sizeLine)
theorem Rg.chk {α β : Type} {W : WX} {σ : St} {rel : Hp → List Addr → α → β → Prop} {b : Bool} {f : Unit → M α} {S : Store} {H : Hp} {ρ : List Addr} {Q : β → Hp → Prop} (h : Rg G W σ rel ((N.chk b >>= f) S) H ρ Q) : b = true ∧ Rg G W σ rel (f () S) H ρ Q := by
  cases b with
  | true => exact ⟨rfl, h⟩
  | false => exact (show False from h).elim
/-- a list of new items, made at p -/
theorem Rg.list {U : WX} {σ : St} {ws : List W} {vs : List V} {S : Store} {H : Hp} {ρ : List Addr} {Q : VK} (h : Rg G U σ (VR G.K) (alloc (.lst ws) S) H ρ Q) (sr : SR G H ρ S) (r : VRs G.K H ρ ws vs) {p : Addr} (hp : H p = none) : Q (.ref p) (upd H p (.lst vs)) := by
  have e : Ext G.K H ρ (upd H p (.lst vs)) (ρ ++ [p]) := Ext.snoc hp
  refine h _ _ _ e (sr.snoc hp ⟨vs, upd_same, r.mono e⟩) (.ref ?_)
  rw [← sr.len, List.getElem?_append_right (Nat.le_refl _)]
  simp
def dTup (a : DA) : DE := fun ε => a ε >>= fun ws => chk (lenOk ws.length) >>= fun _ => M.ret (.tup ws)
def dLst (a : DA) : DE := fun ε => a ε >>= fun ws => chk (lenOk ws.length) >>= fun _ => alloc (.lst ws)
theorem e_tup {es : List Expr} {a : DA} {x1 : Nat} {pos : Pos} (h : AOk G c k es a) : EOk G c k (.Tuple es x1 pos) (dTup a) := fun X W F =>
  PE.imp (pe_tup (h X W F)) fun σ H Q ⟨ρ, ε, S, ev, sr, h⟩ => ⟨ρ, ε, S, ev, sr, (Rg.bind h).mono fun vs H1 ⟨ws, S1, ρ1, e1, s1, r1, h1⟩ => by
    obtain ⟨hz, h2⟩ := Rg.chk h1
    refine ⟨by rw [← r1.length]; exact of_decide_eq_true hz, fun p hp => ?_⟩
    exact h2 _ _ _ (Ext.fresh hp) (s1.fresh hp) (.tup (.of upd_same) (r1.mono (Ext.fresh hp)))⟩
theorem e_lst {es : List Expr} {a : DA} {pos : Pos} (h : AOk G c k es a) : EOk G c k (.List es pos) (dLst a) := fun X W F =>
  PE.imp (pe_lst (h X W F)) fun σ H Q ⟨ρ, ε, S, ev, sr, h⟩ => ⟨ρ, ε, S, ev, sr, (Rg.bind h).mono fun vs H1 ⟨ws, S1, ρ1, e1, s1, r1, h1⟩ => by
    obtain ⟨hz, h2⟩ := Rg.chk h1
    exact ⟨by rw [← r1.length]; exact of_decide_eq_true hz, fun p hp => Rg.list h2 s1 r1 hp⟩⟩

/-! ### operators by their values -/
abbrev Op1 := W → Store → Option (W × Store)
abbrev Op2 := W → W → Store → Option (W × Store)
abbrev OpA := List W → Store → Option (W × Store)
def lift {α : Type} (f : Store → Option (α × Store)) : M α := fun S => match f S with
  | some (a, S') => .ok a S'
  | none => .bad
/-- the wish of a built-in's result -/
def Wish (G : Top) (H : Hp) (ρ : List Addr) (w : W) (S' : Store) (Q : VK) : Prop := ∀ H' ρ' v, Ext G.K H ρ H' ρ' → SR G H' ρ' S' → VR G.K H' ρ' w v → Q v H'
def Op2Ok (G : Top) (r : R2) (op : Op2) : Prop := ∀ H ρ S a b x y w S' Q, SR G H ρ S → VR G.K H ρ a x → VR G.K H ρ b y → op a b S = some (w, S') → Wish G H ρ w S' Q → r x y H Q
def Op1Ok (G : Top) (r : V → Hp → VK → Prop) (op : Op1) : Prop := ∀ H ρ S a x w S' Q, SR G H ρ S → VR G.K H ρ a x → op a S = some (w, S') → Wish G H ρ w S' Q → r x H Q
def OpAOk (G : Top) (r : List V → Hp → VK → Prop) (op : OpA) : Prop := ∀ H ρ S ws vs w S' Q, SR G H ρ S → VRs G.K H ρ ws vs → op ws S = some (w, S') → Wish G H ρ w S' Q → r vs H Q
theorem Rg.lift {α β : Type} {W : WX} {σ : St} {rel : Hp → List Addr → α → β → Prop} {f : Store → Option (α × Store)} {S : Store} {H : Hp} {ρ : List Addr} {Q : β → Hp → Prop} (h : Rg G W σ rel (N.lift f S) H ρ Q) :
    ∃ a S', f S = some (a, S') ∧ ∀ H' ρ' b, Ext G.K H ρ H' ρ' → SR G H' ρ' S' → rel H' ρ' a b → Q b H' := by
  unfold N.lift at h
  cases q : f S with
  | none => rw [q] at h; exact h.elim
  | some p => rw [q] at h; exact ⟨p.1, p.2, rfl, h⟩
def dOp (op : Op2) (d e : DE) : DE := fun ε => d ε >>= fun a => e ε >>= fun b => lift (op a b)
def dUn (op : Op1) (d : DE) : DE := fun ε => d ε >>= fun a => lift (op a)
def dFn (op : OpA) (a : DA) : DE := fun ε => a ε >>= fun ws => lift (op ws)
theorem op_imp {W : WX} {r : R2} {op : Op2} {d e : DE} (h : Op2Ok G r op) {σ : St} {H : Hp} {Q : VK} (q : tN G W (dOp op d e) σ H Q) : tOp r (tN G W d) (tN G W e) σ H Q := by
  obtain ⟨ρ, ε, S, ev, sr, q⟩ := q
  refine ⟨ρ, ε, S, ev, sr, (Rg.bind q).mono fun x H1 ⟨a, S1, ρ1, e1, s1, r1, q1⟩ => ?_⟩
  refine ⟨ρ1, ε, S1, ev.mono e1, s1, (Rg.bind q1).mono fun y H2 ⟨b, S2, ρ2, e2, s2, r2, q2⟩ => ?_⟩
  obtain ⟨w, S3, hw, q3⟩ := Rg.lift q2
  exact h H2 ρ2 S2 a b x y w S3 Q s2 (r1.mono e2) r2 hw q3
theorem e_bin {o : Operator} {r : R2} {op : Op2} {a b : Expr} {d e : DE} {pos : Pos} (hr : ∀ X W, Fit G c k X W → OpR X (binaryOp o) r) (h : Op2Ok G r op) (ha : EOk G c k a d) (hb : EOk G c k b e) : EOk G c k (.BinOp a o b pos) (dOp op d e) := fun X W F =>
  PE.imp (pe_op (hr X W F) (ha X W F) (hb X W F)) fun σ H Q q => op_imp h q
theorem e_cmp {o : CmpOp} {r : R2} {op : Op2} {a b : Expr} {d e : DE} {pos : Pos} (hr : ∀ X W, Fit G c k X W → OpR X (compareOp o) r) (h : Op2Ok G r op) (ha : EOk G c k a d) (hb : EOk G c k b e) (hm : behindInMarks o b = false := by rfl) : EOk G c k (.Compare a [o] [b] pos) (dOp op d e) := fun X W F =>
  PE.imp (pe_cmpR (hr X W F) (ha X W F) (hb X W F) hm) fun σ H Q q => op_imp h q
/-- a < b < c -/
def dChain (op op' : Op2) (d e f : DE) : DE := fun ε => d ε >>= fun a => e ε >>= fun b => lift (op a b) >>= fun z => match z with
  | .bl true => f ε >>= fun y => lift (op' b y)
  | .bl false => M.ret (.bl false)
  | _ => bad
theorem e_un {o : UnaryOp} {r : V → Hp → VK → Prop} {op : Op1} {a : Expr} {d : DE} {pos : Pos} (hr : ∀ X W, Fit G c k X W → UnR X (unaryOp o) r) (h : Op1Ok G r op) (ha : EOk G c k a d) : EOk G c k (.UnaryOp o a pos) (dUn op d) := fun X W F =>
  PE.imp (pe_un (hr X W F) (ha X W F)) fun σ H Q ⟨ρ, ε, S, ev, sr, q⟩ => ⟨ρ, ε, S, ev, sr, (Rg.bind q).mono fun x H1 ⟨a, S1, ρ1, e1, s1, r1, q1⟩ => by
    obtain ⟨w, S3, hw, q3⟩ := Rg.lift q1
    exact h H1 ρ1 S1 a x w S3 Q s1 r1 hw q3⟩
theorem fn_imp {W : WX} {r : List V → Hp → VK → Prop} {op : OpA} {a : DA} (h : OpAOk G r op) {σ : St} {H : Hp} {Q : VK} (q : tN G W (dFn op a) σ H Q) : tA G W a σ H fun vs H1 => r vs H1 Q := by
  obtain ⟨ρ, ε, S, ev, sr, q⟩ := q
  refine ⟨ρ, ε, S, ev, sr, (Rg.bind q).mono fun xs H1 ⟨ws, S1, ρ1, e1, s1, r1, q1⟩ => ?_⟩
  obtain ⟨w, S3, hw, q3⟩ := Rg.lift q1
  exact h H1 ρ1 S1 ws xs w S3 Q s1 r1 hw q3
/-- a built-in's call -/
theorem e_blt {id : String} {x : Str} {r : List V → Hp → VK → Prop} {op : OpA} {e : Expr} {es : List Expr} {a : DA} {p pos : Pos} (hr : ∀ X W, Fit G c k X W → CallR X (.builtin id) r) (h : OpAOk G r op) (hm : G.mg x = none) (hv : bootBuiltins x = some (.builtin id))
    (ha : AOk G c k (e :: es) a) (hg : c.sc.names.lookup x = some .globalImplicit := by rfl) (hn : x ≠ "__name__" := by decide) (hdb : (x == ("__debug__" : Str)) = false := by decide) (he : ∀ env, starEach (e :: es) env = (false, eval e env) :: starEach es env := by intro _; rfl)
    (hpl : ∀ env, (backTo pos (starEach es env)).any (·.1) = false := by intro _; rfl) : EOk G c k (.Call (.Name x p) (e :: es) [] pos) (dFn op a) := fun X W F =>
  PE.imp (pe_callB (hr X W F) (glob_of F hg) (by rw [F.mg]; exact hm) hv (ha X W F) hn hdb (he _) (hpl _)) fun σ H Q q => fn_imp h q
theorem e_ty {T : String} {x : Str} {r : List V → Hp → VK → Prop} {op : OpA} {e : Expr} {es : List Expr} {a : DA} {p pos : Pos} (hr : ∀ X W, Fit G c k X W → CallR X (.type T) r) (h : OpAOk G r op) (hm : G.mg x = none) (hv : bootBuiltins x = some (.type T))
    (ha : AOk G c k (e :: es) a) (hg : c.sc.names.lookup x = some .globalImplicit := by rfl) (hn : x ≠ "__name__" := by decide) (hdb : (x == ("__debug__" : Str)) = false := by decide) (he : ∀ env, starEach (e :: es) env = (false, eval e env) :: starEach es env := by intro _; rfl)
    (hpl : ∀ env, (backTo pos (starEach es env)).any (·.1) = false := by intro _; rfl) : EOk G c k (.Call (.Name x p) (e :: es) [] pos) (dFn op a) := fun X W F =>
  PE.imp (pe_callTy (hr X W F) (glob_of F hg) (by rw [F.mg]; exact hm) hv (ha X W F) hn hdb (he _) (hpl _)) fun σ H Q q => fn_imp h q
end
end N
namespace N
open PySem L2
open PyProof.Rows (envOfC)
/-! ### tests -/
def truthW : W → Store → Option Bool
  | .non, _ => some false
  | .bl b, _ => some b
  | .int i, _ => some (i != 0)
  | .str x, _ => if x.length ≤ sizeLine then some ((x.length : Int) != 0) else none
  | .tup ws, _ => some (!ws.isEmpty)
  | .rl ws, _ => some (!ws.isEmpty)
  | .ref n, S => match S[n]? with
    | some (.lst ws) => some (!ws.isEmpty)
    | some (.dct kvs) => some (!kvs.isEmpty)
    | _ => none
def dTru (d : DE) : DB := fun ε => d ε >>= fun w => lift fun S => (truthW w S).map fun b => (b, S)
theorem VRs.isEmpty {K : PySem.W.Frag} {H : Hp} {ρ : List Addr} {ws : List W} {vs : List V} (r : VRs K H ρ ws vs) : ws.isEmpty = vs.isEmpty := by cases r <;> rfl
theorem FR.isEmpty {κ : Type} {K : PySem.W.Frag} {H : Hp} {ρ : List Addr} {ws : List (κ × W)} {vs : List (κ × V)} (r : FR K H ρ ws vs) : ws.isEmpty = vs.isEmpty := by cases r <;> rfl
theorem truthW_ok {G : Top} {H : Hp} {ρ : List Addr} {S : Store} {w : W} {v : V} {b : Bool} (sr : SR G H ρ S) (r : VR G.K H ρ w v) (h : truthW w S = some b) : TruV G.K v H b := by
  cases r with
  | non => cases h; rfl
  | bl b => cases h; rfl
  | int i => cases h; rfl
  | str x =>
    simp only [truthW] at h
    split at h
    · cases h; exact ⟨by assumption, rfl⟩
    · cases h
  | tup q t => cases h; exact .inr (.inl ⟨_, q, by rw [t.isEmpty]⟩)
  | rl q t => cases h; exact .inl ⟨_, q.sq, by rw [t.isEmpty]⟩
  | ref q =>
    rename_i n a
    unfold truthW at h
    cases e : S[n]? with
    | none => simp [e] at h
    | some o =>
      have ob := sr.ob n a o q e
      cases o with
      | lst ws =>
        simp only [e, Option.some.injEq] at h
        obtain ⟨vs, z, t⟩ := ob
        subst h
        exact .inl ⟨vs, .of z, by rw [t.isEmpty]⟩
      | dct kvs =>
        simp only [e, Option.some.injEq] at h
        obtain ⟨vs, z, t⟩ := ob
        subst h
        exact .inr (.inr ⟨vs, z, by rw [FR.isEmpty t]⟩)
      | ins c fs => simp [e] at h
section
variable {G : Top} {c : Ctx} {k : Nat}
theorem b_val {e : Expr} {d : DE} (he : EOk G c k e d) (ht : ∀ env whole, isTrue e env whole = (do let v ← whole; standAt e.pos; holding [v] (truthy v)) := by intro _ _; rfl) : BOk G c k e (dTru d) := fun X U F =>
  PT.imp (pt_truth (he X U F) (ht _)) fun σ H Q ⟨ρ, ε, S, ev, sr, h⟩ => ⟨ρ, ε, S, ev, sr, (Rg.bind h).mono fun v H1 ⟨w, S1, ρ1, e1, s1, r1, h1⟩ => by
    obtain ⟨b, S2, hb, q⟩ := Rg.lift h1
    cases z : truthW w S1 with
    | none => simp [z] at hb
    | some b' =>
      simp [z] at hb
      obtain ⟨rfl, rfl⟩ := hb
      exact ⟨b', by rw [F.K]; exact truthW_ok s1 r1 z, q H1 ρ1 b' Ext.refl s1 rfl⟩⟩
/-- a comparison as a test: its value is a bool -/
def dBool (d : DE) : DB := fun ε => d ε >>= fun w => match w with
  | .bl b => M.ret b
  | _ => bad
theorem bool_imp {U : WX} {d : DE} {σ : St} {H : Hp} {Q : Bool → Hp → Prop} (h : tB G U (dBool d) σ H Q) : tN G U d σ H fun x H' => ∃ k, x = .bl k ∧ Q k H' := by
  obtain ⟨ρ, ε, S, ev, sr, h⟩ := h
  refine ⟨ρ, ε, S, ev, sr, (Rg.bind h).mono fun v H1 ⟨w, S1, ρ1, e1, s1, r1, h1⟩ => ?_⟩
  cases r1 with
  | bl b => exact ⟨b, rfl, h1 H1 ρ1 b Ext.refl s1 rfl⟩
  | non => exact h1.elim
  | int i => exact h1.elim
  | str x => exact h1.elim
  | ref _ => exact h1.elim
  | tup _ _ => exact h1.elim
  | rl _ _ => exact h1.elim
theorem b_cmp {o : CmpOp} {r : R2} {op : Op2} {a b : Expr} {d e : DE} {pos : Pos} (hr : ∀ X W, Fit G c k X W → OpR X (compareOp o) r) (h : Op2Ok G r op) (ha : EOk G c k a d) (hb : EOk G c k b e) (hm : behindInMarks o b = false := by rfl) : BOk G c k (.Compare a [o] [b] pos) (dBool (dOp op d e)) := fun X U F =>
  PT.imp (pt_cmpR (hr X U F) (ha X U F) (hb X U F) hm) fun σ H Q q => op_imp h (bool_imp q)
theorem chain_imp {U : WX} {r r' : R2} {op op' : Op2} {d e f : DE} (h : Op2Ok G r op) (h' : Op2Ok G r' op') {σ : St} {H : Hp} {Q : VK} (q : tN G U (dChain op op' d e f) σ H Q) : tChain r r' (tN G U d) (tN G U e) (tN G U f) σ H Q := by
  obtain ⟨ρ, ε, S, ev, sr, q⟩ := q
  refine ⟨ρ, ε, S, ev, sr, (Rg.bind q).mono fun x H1 ⟨a, S1, ρ1, e1, s1, r1, q1⟩ => ?_⟩
  refine ⟨ρ1, ε, S1, ev.mono e1, s1, (Rg.bind q1).mono fun y H2 ⟨b, S2, ρ2, e2, s2, r2, q2⟩ => ?_⟩
  have q3 := Rg.bind (rel := VR G.K) q2
  obtain ⟨w, S3, hw, q3⟩ := Rg.lift q3
  refine h H2 ρ2 S2 a b x y w S3 _ s2 (r1.mono e2) r2 hw fun H3 ρ3 z e3 s3 r3 => ?_
  obtain ⟨w', S', ρ', e', s', r', q4⟩ := q3 H3 ρ3 z e3 s3 r3
  have fin : ∀ b', z = V.bl b' → w' = W.bl b' := fun b' hz => by subst hz; cases r'; rfl
  cases r' with
  | bl b' =>
    refine ⟨b', rfl, ?_⟩
    cases b' with
    | false => exact q4 H3 ρ' (.bl false) Ext.refl s' (.bl false)
    | true =>
      refine ⟨ρ', ε, S', ev.mono ((e1.trans e2).trans e'), s', (Rg.bind q4).mono fun y' H4 ⟨b4, S4, ρ4, e4, s4, r4, q5⟩ => ?_⟩
      obtain ⟨w5, S5, hw5, q6⟩ := Rg.lift q5
      exact h' H4 ρ4 S4 b b4 y y' w5 S5 Q s4 (r2.mono (e'.trans e4)) r4 hw5 q6
  | non => exact q4.elim
  | int i => exact q4.elim
  | str x => exact q4.elim
  | ref _ => exact q4.elim
  | tup _ _ => exact q4.elim
  | rl _ _ => exact q4.elim
theorem e_chain {o o' : CmpOp} {r r' : R2} {op op' : Op2} {a b f : Expr} {d e g : DE} {pos : Pos} (hr : ∀ X W, Fit G c k X W → OpR X (compareOp o) r) (hr' : ∀ X W, Fit G c k X W → OpR X (compareOp o') r') (h : Op2Ok G r op) (h' : Op2Ok G r' op') (ha : EOk G c k a d) (hb : EOk G c k b e) (hc : EOk G c k f g)
    (hm : lastMarks [o, o'] [b, f] = false := by with_unfolding_all rfl) : EOk G c k (.Compare a [o, o'] [b, f] pos) (dChain op op' d e g) := fun X U F =>
  PE.imp (pe_chain (hr X U F) (hr' X U F) (ha X U F) (hb X U F) (hc X U F) hm) fun σ H Q q => chain_imp h h' q
theorem b_chain {o o' : CmpOp} {r r' : R2} {op op' : Op2} {a b f : Expr} {d e g : DE} {pos : Pos} (hr : ∀ X W, Fit G c k X W → OpR X (compareOp o) r) (hr' : ∀ X W, Fit G c k X W → OpR X (compareOp o') r') (h : Op2Ok G r op) (h' : Op2Ok G r' op') (ha : EOk G c k a d) (hb : EOk G c k b e) (hc : EOk G c k f g)
    (hm : lastMarks [o, o'] [b, f] = false := by with_unfolding_all rfl) : BOk G c k (.Compare a [o, o'] [b, f] pos) (dBool (dChain op op' d e g)) := fun X U F =>
  PT.imp (pt_chain (hr X U F) (hr' X U F) (ha X U F) (hb X U F) (hc X U F) hm) fun σ H Q q => chain_imp h h' (bool_imp q)
def dNot (d : DB) : DB := fun ε => d ε >>= fun b => M.ret (!b)
def dAnd (d e : DB) : DB := fun ε => d ε >>= fun b => if b = true then e ε else M.ret false
def dOr (d e : DB) : DB := fun ε => d ε >>= fun b => if b = true then M.ret true else e ε
theorem b_not {a : Expr} {d : DB} {pos : Pos} (h : BOk G c k a d) : BOk G c k (.UnaryOp .Not a pos) (dNot d) := fun X U F =>
  PT.imp (pt_not (h X U F)) fun σ H Q ⟨ρ, ε, S, ev, sr, q⟩ => ⟨ρ, ε, S, ev, sr, (Rg.bind q).mono fun b H1 ⟨b', S1, ρ1, e1, s1, r1, q1⟩ => by
    obtain rfl : b' = b := r1
    exact q1 H1 ρ1 _ Ext.refl s1 rfl⟩
theorem bw_pt {a : Expr} {d : DB} (h : BWOk G c k a d) : BOk G c k a d := fun X U F => (h X U F).pt
theorem bw_and1 {a : Expr} {d : DB} {pos : Pos} (h : BOk G c k a d) : BWOk G c k (.BoolOp .And [a] pos) d := fun X U F => pw_and1 (h X U F)
theorem bw_or1 {a : Expr} {d : DB} {pos : Pos} (h : BOk G c k a d) : BWOk G c k (.BoolOp .Or [a] pos) d := fun X U F => pw_or1 (h X U F)
theorem bw_and {a b : Expr} {rest : List Expr} {d e : DB} {pos : Pos} (h : BOk G c k a d) (h' : BWOk G c k (.BoolOp .And (b :: rest) pos) e) : BWOk G c k (.BoolOp .And (a :: b :: rest) pos) (dAnd d e) := fun X U F =>
  PW.imp (pw_and (h X U F) (h' X U F)) fun σ H Q ⟨ρ, ε, S, ev, sr, q⟩ => ⟨ρ, ε, S, ev, sr, (Rg.bind q).mono fun b H1 ⟨b', S1, ρ1, e1, s1, r1, q1⟩ => by
    obtain rfl : b' = b := r1
    cases b' with
    | true => exact ⟨ρ1, ε, S1, ev.mono e1, s1, q1⟩
    | false => exact q1 H1 ρ1 _ Ext.refl s1 rfl⟩
theorem bw_or {a b : Expr} {rest : List Expr} {d e : DB} {pos : Pos} (h : BOk G c k a d) (h' : BWOk G c k (.BoolOp .Or (b :: rest) pos) e) : BWOk G c k (.BoolOp .Or (a :: b :: rest) pos) (dOr d e) := fun X U F =>
  PW.imp (pw_or (h X U F) (h' X U F)) fun σ H Q ⟨ρ, ε, S, ev, sr, q⟩ => ⟨ρ, ε, S, ev, sr, (Rg.bind q).mono fun b H1 ⟨b', S1, ρ1, e1, s1, r1, q1⟩ => by
    obtain rfl : b' = b := r1
    cases b' with
    | false => exact ⟨ρ1, ε, S1, ev.mono e1, s1, q1⟩
    | true => exact q1 H1 ρ1 _ Ext.refl s1 rfl⟩
/-- and, or, not as values: all but the last are bools -/
def dAndV (d e : DE) : DE := fun ε => d ε >>= fun w => match w with
  | .bl true => e ε
  | .bl false => M.ret (.bl false)
  | _ => bad
def dOrV (d e : DE) : DE := fun ε => d ε >>= fun w => match w with
  | .bl false => e ε
  | .bl true => M.ret (.bl true)
  | _ => bad
def dNotV (d : DE) : DE := fun ε => d ε >>= fun w => match w with
  | .bl b => M.ret (.bl (!b))
  | _ => bad
theorem e_one {op : BoolOp} {a : Expr} {d : DE} {pos : Pos} (h : EOk G c k a d) : EOk G c k (.BoolOp op [a] pos) d := fun X U F => pe_one (h X U F)
theorem e_and {a b : Expr} {rest : List Expr} {d e : DE} {pos : Pos} (h : EOk G c k a d) (h' : EOk G c k (.BoolOp .And (b :: rest) pos) e) : EOk G c k (.BoolOp .And (a :: b :: rest) pos) (dAndV d e) := fun X U F =>
  PE.imp (pe_and (h X U F) (h' X U F)) fun σ H Q ⟨ρ, ε, S, ev, sr, q⟩ => ⟨ρ, ε, S, ev, sr, (Rg.bind q).mono fun x H1 ⟨w, S1, ρ1, e1, s1, r1, q1⟩ => by
    cases r1 with
    | bl b =>
      refine ⟨b, rfl, ?_⟩
      cases b with
      | true => exact ⟨ρ1, ε, S1, ev.mono e1, s1, q1⟩
      | false => exact q1 H1 ρ1 _ Ext.refl s1 (.bl false)
    | non => exact q1.elim
    | int i => exact q1.elim
    | str x => exact q1.elim
    | ref _ => exact q1.elim
    | tup _ _ => exact q1.elim
    | rl _ _ => exact q1.elim⟩
theorem e_or {a b : Expr} {rest : List Expr} {d e : DE} {pos : Pos} (h : EOk G c k a d) (h' : EOk G c k (.BoolOp .Or (b :: rest) pos) e) : EOk G c k (.BoolOp .Or (a :: b :: rest) pos) (dOrV d e) := fun X U F =>
  PE.imp (pe_or (h X U F) (h' X U F)) fun σ H Q ⟨ρ, ε, S, ev, sr, q⟩ => ⟨ρ, ε, S, ev, sr, (Rg.bind q).mono fun x H1 ⟨w, S1, ρ1, e1, s1, r1, q1⟩ => by
    cases r1 with
    | bl b =>
      refine ⟨b, rfl, ?_⟩
      cases b with
      | false => exact ⟨ρ1, ε, S1, ev.mono e1, s1, q1⟩
      | true => exact q1 H1 ρ1 _ Ext.refl s1 (.bl true)
    | non => exact q1.elim
    | int i => exact q1.elim
    | str x => exact q1.elim
    | ref _ => exact q1.elim
    | tup _ _ => exact q1.elim
    | rl _ _ => exact q1.elim⟩
theorem e_not {a : Expr} {d : DE} {pos : Pos} (h : EOk G c k a d) : EOk G c k (.UnaryOp .Not a pos) (dNotV d) := fun X U F =>
  PE.imp (pe_not (h X U F)) fun σ H Q ⟨ρ, ε, S, ev, sr, q⟩ => ⟨ρ, ε, S, ev, sr, (Rg.bind q).mono fun x H1 ⟨w, S1, ρ1, e1, s1, r1, q1⟩ => by
    cases r1 with
    | bl b => exact ⟨b, rfl, q1 H1 ρ1 _ Ext.refl s1 (.bl _)⟩
    | non => exact q1.elim
    | int i => exact q1.elim
    | str x => exact q1.elim
    | ref _ => exact q1.elim
    | tup _ _ => exact q1.elim
    | rl _ _ => exact q1.elim⟩
def dIfE (t : DB) (d e : DE) : DE := fun ε => t ε >>= fun b => if b = true then d ε else e ε
theorem e_if {t a b : Expr} {dt : DB} {d e : DE} {pos : Pos} (ht : BOk G c k t dt) (ha : EOk G c k a d) (hb : EOk G c k b e) : EOk G c k (.IfExp t a b pos) (dIfE dt d e) := fun X U F =>
  PE.imp (pe_ifExp (ht X U F) (ha X U F) (hb X U F)) fun σ H Q ⟨ρ, ε, S, ev, sr, q⟩ => ⟨ρ, ε, S, ev, sr, (Rg.bind q).mono fun b H1 ⟨b', S1, ρ1, e1, s1, r1, q1⟩ => by
    obtain rfl : b' = b := r1
    cases b' with
    | true => exact ⟨ρ1, ε, S1, ev.mono e1, s1, q1⟩
    | false => exact ⟨ρ1, ε, S1, ev.mono e1, s1, q1⟩⟩

/-! ### targets -/
abbrev DT := W → Ev → Store → Option Ev
abbrev DTs := List W → Ev → Store → Option Ev
def gN (G : Top) (t : DT) : TG := fun v σ H Q => ∃ w ε ρ S ε', VR G.K H ρ w v ∧ EvR G.K H ρ ε σ ∧ SR G H ρ S ∧ t w ε S = some ε' ∧ ∀ σ', EvR G.K H ρ ε' σ' → Q σ' H
def gsN (G : Top) (t : DTs) : TGs := fun vs σ H Q => ∃ ws ε ρ S ε', VRs G.K H ρ ws vs ∧ EvR G.K H ρ ε σ ∧ SR G H ρ S ∧ t ws ε S = some ε' ∧ ∀ σ', EvR G.K H ρ ε' σ' → Q σ' H
theorem PG.imp {X : Cx} {e : Expr} {t t' : TG} (h : PG X e t) (f : ∀ v σ H Q, t' v σ H Q → t v σ H Q) : PG X e t' := ⟨fun pins s σ H v u Q I r q => h.run pins s σ H v u Q I r (f _ _ _ _ q)⟩
theorem PGs.imp {X : Cx} {e : List Expr} {t t' : TGs} (h : PGs X e t) (f : ∀ v σ H Q, t' v σ H Q → t v σ H Q) : PGs X e t' := ⟨fun pins s σ H v u Q I r q => h.run pins s σ H v u Q I r (f _ _ _ _ q)⟩
section
variable (G : Top) (c : Ctx) (k : Nat)
def GOk (e : Expr) (d : DT) : Prop := ∀ X W, Fit G c k X W → PG X e (gN G d)
def GsOk (e : List Expr) (d : DTs) : Prop := ∀ X W, Fit G c k X W → PGs X e (gsN G d)
end
def tgN (i : Nat) : DT := fun w ε _ => some (ε.set i (some w))
def tgNil : DTs := fun ws ε _ => match ws with
  | [] => some ε
  | _ => none
def tgCons (t : DT) (ts : DTs) : DTs := fun ws ε S => match ws with
  | [] => none
  | w :: r => match t w ε S with
    | some ε' => ts r ε' S
    | none => none
/-- (a, b) = a tuple or a list -/
def tgTup (n : Nat) (ts : DTs) : DT := fun w ε S => match w with
  | .tup ws => if ws.length = n then ts ws ε S else none
  | _ => none
theorem g_name (i : Nat) {x : Str} {pos : Pos} (hN : c.N[i]? = some x := by rfl) (hx : Loc c.sc x := by first | exact Or.inl rfl | exact Or.inr rfl) (hf : c.fn x = true ∨ c.sc.names.lookup x = some .local := by first | exact .inl rfl | exact .inr rfl) : GOk G c k (.Name x pos) (tgN i) := fun X U F =>
  PG.imp (pg_name (i := i) F.nd (by rw [F.N]; exact hN) (by rw [F.sc]; exact hx) (hf.elim (fun z => .inl (F.fn x z)) fun z => .inr (by rw [F.sc]; exact z))) fun v σ H Q ⟨w, ε, ρ, S, ε', r, ev, sr, e, h⟩ => by
    cases e
    exact h _ (ev.set i r)
theorem gs_nil : GsOk G c k [] tgNil := fun X U F => PGs.imp pgs_nil fun v σ H Q ⟨ws, ε, ρ, S, ε', r, ev, sr, e, h⟩ => by
  cases r with
  | nil => cases e; exact ⟨rfl, h _ ev⟩
  | cons _ _ => cases e
theorem gs_cons {e : Expr} {es : List Expr} {t : DT} {ts : DTs} (h1 : GOk G c k e t) (h2 : GsOk G c k es ts) (hs : ∀ env, (assignEach (e :: es) env).map (·.2) = assign e env :: (assignEach es env).map (·.2) := by intro _; rfl) : GsOk G c k (e :: es) (tgCons t ts) := fun X U F =>
  PGs.imp (pgs_cons (h1 X U F) (h2 X U F) (hs _)) fun v σ H Q ⟨ws, ε, ρ, S, ε', r, ev, sr, q, h⟩ => by
    cases r with
    | nil => cases q
    | @cons w v' ws' vs' r0 rr =>
      unfold tgCons at q
      cases z : t w ε S with
      | none => simp only [z] at q; cases q
      | some ε1 =>
        simp only [z] at q
        exact ⟨_, _, rfl, w, ε, ρ, S, ε1, r0, ev, sr, z, fun σ1 ev1 => ⟨ws', ε1, ρ, S, ε', rr, ev1, sr, q, h⟩⟩
theorem g_tup {es : List Expr} {j : Nat} {ts : DTs} {n : Nat} {pos : Pos} (h : GsOk G c k es ts) (hn : ∀ env, (assignEach es env).length = n := by intro _; rfl) (hst : ∀ env, (assignEach es env).findIdx? (·.1) = none := by intro _; rfl) : GOk G c k (.Tuple es j pos) (tgTup n ts) := fun X U F =>
  PG.imp (pg_tup F.calm (h X U F) (hn _) (hst _)) fun v σ H Q ⟨w, ε, ρ, S, ε', r, ev, sr, q, h⟩ => by
    cases r with
    | @tup ws a vs s t =>
      unfold tgTup at q
      simp only at q
      split at q
      · rename_i hl
        refine ⟨a, vs, rfl, by rw [F.K]; exact s, by rw [← t.length]; exact hl, ws, ε, ρ, S, ε', t, ev, sr, q, h⟩
      · cases q
    | bl b => cases q
    | non => cases q
    | int i => cases q
    | str x => cases q
    | ref _ => cases q
    | rl _ _ => cases q
def dSet (i : Nat) (d : DE) : DS := fun ε S => sBind (d ε) ε S fun w S' => .nx (ε.set i (some w)) S'
theorem s_set (i : Nat) {x : Str} {e : Expr} {d : DE} {pos pos' : Pos} (he : EOk G c k e d) (hN : c.N[i]? = some x := by rfl) (hx : Loc c.sc x := by first | exact Or.inl rfl | exact Or.inr rfl) (hs : ∀ env, swapsWith e (some (.Name x pos')) pos.line env = pure false := by intro _; rfl)
    (hf : c.fn x = true ∨ c.sc.names.lookup x = some .local := by first | exact .inl rfl | exact .inr rfl) : SOk G c k (.Assign [.Name x pos'] e pos) (dSet i d) := fun X U F =>
  PS.imp (ps_set (i := i) F.nd (by rw [F.N]; exact hN) (by rw [F.sc]; exact hx) (he X U F) (hs _) (hf.elim (fun z => .inl (F.fn x z)) fun z => .inr (by rw [F.sc]; exact z))) fun D σ H ⟨ρ, ε, S, ev, sr, h⟩ => ⟨ρ, ε, S, ev, sr, (Rg_sBind ev h).mono fun v H' ⟨w, S', ρ', e', s', r', q⟩ =>
    q H' ρ' _ Ext.refl s' ((ev.mono e').set i r')⟩
def dAsg (t : DT) (d : DE) : DS := fun ε S => sBind (d ε) ε S fun w S' => match t w ε S' with
  | some ε' => .nx ε' S'
  | none => .bad
theorem s_asg {tg e : Expr} {t : DT} {d : DE} {pos : Pos} (he : EOk G c k e d) (hg : GOk G c k tg t) (hs : ∀ env, swapsWithSole [tg] e pos.line env = pure false := by intro _; rfl) (hw : ∀ env, swappedStores [tg] e env = pure none := by intro _; rfl)
    (h1 : ∀ env, (assignEach [tg] env).map (·.2) = [assign tg env] := by intro _; rfl) : SOk G c k (.Assign [tg] e pos) (dAsg t d) := fun X U F =>
  PS.imp (ps_asg (he X U F) (hg X U F) (hs _) (hw _) (h1 _)) fun D σ H ⟨ρ, ε, S, ev, sr, h⟩ => ⟨ρ, ε, S, ev, sr, (Rg_sBind ev h).mono fun v H' ⟨w, S', ρ', e', s', r', q⟩ => by
    cases z : t w ε S' with
    | none => simp only [z] at q; exact q.elim
    | some ε' =>
      simp only [z] at q
      exact ⟨w, ε, ρ', S', ε', r', ev.mono e', s', z, fun σ' ev' => q H' ρ' σ' Ext.refl s' ev'⟩⟩
/-- a, b = x, y (both sides written, the names plain locals): stored from the right -/
def dPar (i j : Nat) (a : DA) : DS := fun ε S => sBind (a ε) ε S fun ws S' => match ws with
  | [w, u] => .nx ((ε.set i (some w)).set j (some u)) S'
  | _ => .bad
def dPar3 (i j l : Nat) (a : DA) : DS := fun ε S => sBind (a ε) ε S fun ws S' => match ws with
  | [w, u, z] => .nx (((ε.set i (some w)).set j (some u)).set l (some z)) S'
  | _ => .bad
def stdEnv (sc : Scope) : Env := envOfC "" sc 0 0 .none
theorem swapped_std {ts : List Expr} {v : Expr} {env : Env} {sc : Scope} (h : env.scope = sc) (hk : sc.kind = .function) : swappedStores ts v env = swappedStores ts v (stdEnv sc) := by
  have e1 : env.blockKind = (stdEnv sc).blockKind := by
    have e0 : (stdEnv sc).scope = sc := rfl
    unfold Env.blockKind
    rw [h, e0]
  have e2 : ∀ x, env.kindOf x = (stdEnv sc).kindOf x := fun x => by
    unfold Env.kindOf
    rw [h]; rfl
  unfold swappedStores
  simp only [e1, e2]
theorem s_par (i j : Nat) {x y : Str} {a b : Expr} {da : DA} {px py pt pos : Pos} {kt k2 : Nat} {pt2 : Pos} (ha : AOk G c k [a, b] da) (hi : c.N[i]? = some x := by rfl) (hj : c.N[j]? = some y := by rfl) (hij : i ≠ j := by decide)
    (hx : c.sc.names.lookup x = some .local := by rfl) (hy : c.sc.names.lookup y = some .local := by rfl) (hk : c.sc.kind = .function := by rfl)
    (hw : swappedStores [.Tuple [.Name x px, .Name y py] kt pt] (.Tuple [a, b] k2 pt2) (stdEnv c.sc) = pure (some [x, y]) := by rfl)
    (hs : ∀ env, swapsWithSole [.Tuple [.Name x px, .Name y py] kt pt] (.Tuple [a, b] k2 pt2) pos.line env = pure false := by intro _; rfl) : SOk G c k (.Assign [.Tuple [.Name x px, .Name y py] kt pt] (.Tuple [a, b] k2 pt2) pos) (dPar i j da) := fun X U F =>
  PS.imp (ps_par F.calm F.nd (by rw [F.N]; exact hi) (by rw [F.N]; exact hj) hij (by rw [F.sc]; exact hx) (by rw [F.sc]; exact hy) (ha X U F) (by rw [swapped_std F.sc hk]; exact hw) (hs _)) fun D σ H ⟨ρ, ε, S, ev, sr, h⟩ => ⟨ρ, ε, S, ev, sr, (Rg_sBind ev h).mono fun vs H' ⟨ws, S', ρ', e', s', r', q⟩ => by
    cases r' with
    | nil => exact q.elim
    | cons r1 r' =>
      cases r' with
      | nil => exact q.elim
      | cons r2 r' =>
        cases r' with
        | nil => exact ⟨_, _, rfl, q H' ρ' _ Ext.refl s' (((ev.mono e').set i r1).set j r2)⟩
        | cons _ _ => exact q.elim⟩
end
end N
namespace N
open PySem L2
open PyProof.Rows (envOfC)
noncomputable section
open Classical in
def grd (g : Store → Prop) : M Unit := fun S => if g S then .ok () S else .bad
theorem grd_ok {g : Store → Prop} {S : Store} (h : g S) : grd g S = .ok () S := if_pos h
theorem Rg.ext {α β : Type} {G : Top} {U : WX} {σ : St} {rel : Hp → List Addr → α → β → Prop} {r : R α} {H H' : Hp} {ρ ρ' : List Addr} {Q : β → Hp → Prop} (e : Ext G.K H ρ H' ρ') (h : Rg G U σ rel r H ρ Q) : Rg G U σ rel r H' ρ' Q :=
  wp_mono h (fun _ _ q _ _ _ a b c => q _ _ _ (e.trans a) b c) fun _ _ q _ _ _ _ a b c => q _ _ _ _ (e.trans a) b c
/-- the source of a loop: its items, and what must stand while it is walked -/
structure Src where
  items : List W
  g : Store → Prop
def Good (G : Top) (H : Hp) (ρ : List Addr) (p : Src) (J : It) : Prop := ∀ H2 ρ2 S2, Ext G.K H ρ H2 ρ2 → SR G H2 ρ2 S2 → p.g S2 →
  (∀ (i : Nat) w, p.items[i]? = some w → J.go i H2 ∧ ∀ x H3, J.yld i H2 x H3 → Ext G.K H2 ρ2 H3 ρ2 ∧ SR G H3 ρ2 S2 ∧ VR G.K H3 ρ2 w x) ∧ J.stop p.items.length H2
abbrev DI := Ev → M Src
def tI (G : Top) (U : WX) (d : DI) : TI := fun σ H Q => ∃ ρ ε S, EvR G.K H ρ ε σ ∧ SR G H ρ S ∧ Rg G U σ (Good G) (d ε S) H ρ Q
def IOk (G : Top) (c : Ctx) (k : Nat) (tg e : Expr) (d : DI) : Prop := ∀ X U, Fit G c k X U → PI X tg e (tI G U d)
theorem PI.imp {X : Cx} {tg e : Expr} {t t' : TI} (h : PI X tg e t) (f : ∀ σ H Q, t' σ H Q → t σ H Q) : PI X tg e t' := ⟨fun pins s σ H R I q => h.run pins s σ H R I (f _ _ _ q)⟩
/-! ### for -/
open Classical in
def forL (t : DT) (body : DS) (g : Store → Prop) : List W → DS
  | [] => fun ε S => if g S then .nx ε S else .bad
  | x :: xs => fun ε S => if g S then (match t x ε S with
    | some ε1 => (match body ε1 S with
      | .nx ε2 S2 => forL t body g xs ε2 S2
      | .ct ε2 S2 => forL t body g xs ε2 S2
      | .bk ε2 S2 => .nx ε2 S2
      | r => r)
    | none => .bad) else .bad
def dFor (d : DI) (t : DT) (body : DS) : DS := fun ε S => sBind (d ε) ε S fun p S' => forL t body p.g p.items ε S'
section
variable {G : Top} {c : Ctx} {k : Nat}
theorem forL_ok {U : WX} {t : DT} {body : DS} {tg e : Expr} {D : Ends} {σ : St} {H1 : Hp} {ρ1 : List Addr} {p : Src} {J : It} {ε : Ev} {S : Store} (good : Good G H1 ρ1 p J) (ev : EvR G.K H1 ρ1 ε σ) (sr : SR G H1 ρ1 S) (h : wpS (forL t body p.g p.items ε S) (nE G U D H1 ρ1)) :
    ∃ W : Nat → Nat → St → Hp → Prop, (∃ m, W 0 m σ H1) ∧ ∀ i m σ H, W i m σ H →
      (J.stop i H ∧ D.nx σ H) ∨ (J.go i H ∧ ∃ N : St → Hp → Prop, (∀ σ' H', N σ' H' → ∃ m', m' < m ∧ W (i + 1) m' σ' H') ∧ ∀ x H', J.yld i H x H' → gN G t x σ H' fun σ2 H2 => tS G U body { D with nx := N, ct := N, bk := D.nx } σ2 H2) := by
  refine ⟨fun i m σ H => ∃ ρ ε S, Ext G.K H1 ρ1 H ρ ∧ EvR G.K H ρ ε σ ∧ SR G H ρ S ∧ m = p.items.length - i ∧ i ≤ p.items.length ∧ wpS (forL t body p.g (p.items.drop i) ε S) (nE G U D H ρ), ⟨p.items.length, ρ1, ε, S, Ext.refl, ev, sr, rfl, Nat.zero_le _, h⟩, ?_⟩
  rintro i m σ H ⟨ρ, ε, S, e, ev, sr, rfl, hi, h⟩
  by_cases hlt : i < p.items.length
  · have hd : p.items.drop i = p.items[i] :: p.items.drop (i + 1) := List.drop_eq_getElem_cons hlt
    rw [hd] at h
    unfold forL at h
    split at h
    · rename_i hg
      obtain ⟨hgo, _⟩ := good H ρ S e sr hg
      obtain ⟨go, yl⟩ := hgo i p.items[i] (List.getElem?_eq_getElem hlt)
      refine .inr ⟨go, _, fun σ' H' hN => hN, fun x H' hy => ?_⟩
      obtain ⟨e', sr', vr⟩ := yl x H' hy
      cases ht : t p.items[i] ε S with
      | none => simp only [ht] at h; exact h.elim
      | some ε1 =>
        simp only [ht] at h
        refine ⟨_, ε, ρ, S, ε1, vr, ev.mono e', sr', ht, fun σ2 ev2 => ⟨ρ, ε1, S, ev2, sr', ?_⟩⟩
        have step : ∀ ε2 S2, wpS (forL t body p.g (p.items.drop (i + 1)) ε2 S2) (nE G U D H ρ) → ∀ H4 ρ4 σ4, Ext G.K H' ρ H4 ρ4 → SR G H4 ρ4 S2 → EvR G.K H4 ρ4 ε2 σ4 →
            ∃ m', m' < p.items.length - i ∧ ∃ ρ ε S, Ext G.K H1 ρ1 H4 ρ ∧ EvR G.K H4 ρ ε σ4 ∧ SR G H4 ρ S ∧ m' = p.items.length - (i + 1) ∧ i + 1 ≤ p.items.length ∧ wpS (forL t body p.g (p.items.drop (i + 1)) ε S) (nE G U D H4 ρ) := fun ε2 S2 q H4 ρ4 σ4 e4 s4 v4 =>
          ⟨_, by omega, ρ4, ε2, S2, (e.trans e').trans e4, v4, s4, rfl, hlt, nE_ext (e'.trans e4) q⟩
        cases hb : body ε1 S with
        | nx ε2 S2 => simp only [hb] at h; exact step ε2 S2 h
        | ct ε2 S2 => simp only [hb] at h; exact step ε2 S2 h
        | bk ε2 S2 => simp only [hb] at h; exact (nE_ext e' h : wpS (.nx ε2 S2) (nE G U D H' ρ))
        | rt w S2 => simp only [hb] at h; exact (nE_ext e' h : wpS (.rt w S2) (nE G U D H' ρ))
        | exc x ε2 S2 => simp only [hb] at h; exact (nE_ext e' h : wpS (.exc x ε2 S2) (nE G U D H' ρ))
        | bad => simp only [hb] at h; exact h.elim
    · exact h.elim
  · obtain rfl : i = p.items.length := by omega
    rw [List.drop_length] at h
    unfold forL at h
    split at h
    · rename_i hg
      exact .inl ⟨(good H ρ S e sr hg).2, h H ρ σ Ext.refl sr ev⟩
    · exact h.elim
theorem s_for {tg e : Expr} {body : List Stmt} {d : DI} {t : DT} {db : DS} {pos : Pos} (hi : IOk G c k tg e d) (hg : GOk G c k tg t) (hb : SsOk G c k body db) (hs : ∀ env x, foldedSetIterable e env x = pure x := by intro _ _; rfl) : SOk G c k (.For tg e body [] pos) (dFor d t db) := fun X U F =>
  PS.imp (ps_for F.pass F.calm (hi X U F) (hg X U F) (hb X U F) (hs _)) fun D σ H ⟨ρ, ε, S, ev, sr, h⟩ => ⟨ρ, ε, S, ev, sr, (Rg_sBind ev h).mono fun J H1 ⟨p, S1, ρ1, e1, s1, r1, q1⟩ => forL_ok (tg := tg) (e := e) r1 (ev.mono e1) s1 q1⟩
/-! ### while -/
def whL (t : DB) (body : DS) : Nat → DS
  | 0 => fun _ _ => .bad
  | n + 1 => fun ε S => sBind (t ε) ε S fun b S1 => if b = true then (match body ε S1 with
    | .nx ε2 S2 => whL t body n ε2 S2
    | .ct ε2 S2 => whL t body n ε2 S2
    | .bk ε2 S2 => .nx ε2 S2
    | r => r) else .nx ε S1
/-- more turns than any loop here has -/
def fuel : Nat := 2 ^ 250
def dWhile (t : DB) (body : DS) : DS := whL t body fuel
theorem s_while {e : Expr} {body : List Stmt} {t : DB} {db : DS} {pos : Pos} (ht : BOk G c k e t) (hb : SsOk G c k body db) : SOk G c k (.While e body [] pos) (dWhile t db) := fun X U F =>
  PS.imp (ps_while F.pass (ht X U F) (hb X U F)) fun D σ H ⟨ρ, ε, S, ev, sr, h⟩ => by
    refine ⟨fun m σ H => ∃ ρ ε S, EvR G.K H ρ ε σ ∧ SR G H ρ S ∧ wpS (whL t db m ε S) (nE G U D H ρ), ⟨fuel, ρ, ε, S, ev, sr, h⟩, ?_⟩
    rintro m σ H ⟨ρ, ε, S, ev, sr, h⟩
    cases m with
    | zero => exact h.elim
    | succ n =>
      unfold whL at h
      refine ⟨ρ, ε, S, ev, sr, (Rg_sBind ev h).mono fun b' H1 ⟨b, S1, ρ1, e1, s1, r1, q1⟩ => ?_⟩
      obtain rfl : b = b' := r1
      cases b with
      | false => exact q1 H1 ρ1 σ Ext.refl s1 (ev.mono e1)
      | true =>
        refine ⟨_, fun σ' H' hN => hN, ρ1, ε, S1, ev.mono e1, s1, ?_⟩
        have step : ∀ ε2 S2, wpS (whL t db n ε2 S2) (nE G U D H1 ρ1) → ∀ H4 ρ4 σ4, Ext G.K H1 ρ1 H4 ρ4 → SR G H4 ρ4 S2 → EvR G.K H4 ρ4 ε2 σ4 →
            ∃ m', m' < n + 1 ∧ ∃ ρ ε S, EvR G.K H4 ρ ε σ4 ∧ SR G H4 ρ S ∧ wpS (whL t db m' ε S) (nE G U D H4 ρ) := fun ε2 S2 q H4 ρ4 σ4 e4 s4 v4 => ⟨n, by omega, ρ4, ε2, S2, v4, s4, nE_ext e4 q⟩
        rw [if_pos rfl] at q1
        cases hb : db ε S1 with
        | nx ε2 S2 => simp only [hb] at q1; exact step ε2 S2 q1
        | ct ε2 S2 => simp only [hb] at q1; exact step ε2 S2 q1
        | bk ε2 S2 => simp only [hb] at q1; exact q1
        | rt w S2 => simp only [hb] at q1; exact q1
        | exc x ε2 S2 => simp only [hb] at q1; exact q1
        | bad => simp only [hb] at q1; exact q1.elim
end
/-! ### comprehensions -/
def noX {α : Type} (m : M α) : M α := fun S => match m S with
  | .exc _ _ => .bad
  | r => r
theorem wp_noX {α : Type} {m : M α} {S : Store} {Q : α → Store → Prop} {E E' : Ex → Store → Prop} (h : wp (noX m S) Q E) : wp (m S) Q E' := by
  unfold noX at h
  cases q : m S with
  | ok a S' => rw [q] at h; exact h
  | exc x S' => rw [q] at h; exact h.elim
  | bad => rw [q] at h; exact h.elim
def tgt (t : DT) (w : W) (ε : Ev) : M Ev := fun S => match t w ε S with
  | some ε' => .ok ε' S
  | none => .bad
/-- the block's own slots forgotten -/
def wipeE (ε : Ev) : List Nat → Ev
  | [] => ε
  | v :: vs => (wipeE ε vs).set v none
def lcL (t : DT) (cnd : DB) (el : DE) (g : Store → Prop) (ε0 : Ev) : List W → M (List W)
  | [] => grd g >>= fun _ => M.ret []
  | x :: xs => grd g >>= fun _ => tgt t x ε0 >>= fun ε1 => noX (cnd ε1) >>= fun b => if b = true then noX (el ε1) >>= fun w => lcL t cnd el g ε0 xs >>= fun ws => M.ret (w :: ws) else lcL t cnd el g ε0 xs
def dLc (d : DI) (t : DT) (cnd : DB) (el : DE) (vs : List Nat) : DE := fun ε => d ε >>= fun p => chk (lenOk p.items.length) >>= fun _ => lcL t cnd el p.g (wipeE ε vs) p.items >>= fun ws => alloc (.lst ws)
def dYes : DB := fun _ => M.ret true
theorem M.assoc {α β γ : Type} (m : M α) (f : α → M β) (g : β → M γ) : (m >>= f) >>= g = m >>= fun a => f a >>= g := by
  funext S
  show M.bind (M.bind m f) g S = M.bind m (fun a => M.bind (f a) g) S
  unfold M.bind
  cases m S <;> rfl
theorem M.ret_bind {α β : Type} (a : α) (f : α → M β) : (M.ret a >>= f) = f a := rfl
theorem wipe_in {σ : St} {i : Nat} : ∀ {vs : List Nat}, i ∈ vs → (wipe σ vs)[i]? = if i < σ.length then some none else none
  | v :: vs, h => by
    unfold wipe
    by_cases hv : v = i
    · subst hv
      rw [List.getElem?_set]
      simp [wipe_length]
    · rw [List.getElem?_set_ne hv]
      exact wipe_in ((List.mem_cons.mp h).resolve_left fun z => hv z.symm)
theorem wipe_congr {σ σ' : St} {vs : List Nat} (hl : σ'.length = σ.length) (h : ∀ i, i ∉ vs → σ'[i]? = σ[i]?) : wipe σ' vs = wipe σ vs := by
  apply List.ext_getElem?
  intro i
  by_cases hi : i ∈ vs
  · rw [wipe_in hi, wipe_in hi, hl]
  · rw [wipe_out hi, wipe_out hi, h i hi]
theorem wipeE_some {ε : Ev} {i : Nat} {x : W} : ∀ {vs : List Nat}, (wipeE ε vs)[i]? = some (some x) → ε[i]? = some (some x) ∧ i ∉ vs
  | [], h => ⟨h, by simp⟩
  | v :: vs, h => by
    unfold wipeE at h
    by_cases hi : v = i
    · subst hi
      rw [List.getElem?_set] at h
      simp at h
    · rw [List.getElem?_set_ne hi] at h
      obtain ⟨h1, h2⟩ := wipeE_some h
      exact ⟨h1, by simp only [List.mem_cons, not_or]; exact ⟨fun e => hi e.symm, h2⟩⟩
theorem wipeE_length (ε : Ev) : ∀ vs : List Nat, (wipeE ε vs).length = ε.length
  | [] => rfl
  | v :: vs => by unfold wipeE; rw [List.length_set, wipeE_length ε vs]
theorem EvR.wipe {K : PySem.W.Frag} {H : Hp} {ρ : List Addr} {ε : Ev} {σ : St} (s : EvR K H ρ ε σ) (vs : List Nat) : EvR K H ρ (wipeE ε vs) (L2.wipe σ vs) :=
  ⟨by rw [wipeE_length, wipe_length]; exact s.len, fun i w h => by
    obtain ⟨h1, h2⟩ := wipeE_some h
    obtain ⟨v, a, b⟩ := s.at_ i w h1
    exact ⟨v, by rw [wipe_out h2]; exact a, b⟩⟩
theorem Rg.bindAt {α β γ δ : Type} {G : Top} {U U' : WX} {σ σ' : St} {rel : Hp → List Addr → α → β → Prop} {rel2 : Hp → List Addr → γ → δ → Prop} {m : M α} {f : α → M γ} {S : Store} {H H1 : Hp} {ρ ρ1 : List Addr} {Q : δ → Hp → Prop} (e : Ext G.K H1 ρ1 H ρ) (h : Rg G U σ rel2 ((noX m >>= f) S) H1 ρ1 Q) :
    Rg G U' σ' rel (m S) H ρ (fun b H' => ∃ a S' ρ', Ext G.K H ρ H' ρ' ∧ SR G H' ρ' S' ∧ rel H' ρ' a b ∧ Rg G U σ rel2 (f a S') H1 ρ1 Q) := by
  unfold Rg at h ⊢
  rw [wp_bind] at h
  exact wp_mono (wp_noX (E' := fun _ _ => False) h) (fun a S' q H' ρ' b e s v => ⟨a, S', ρ', e, s, v, q⟩) fun x S' q => q.elim
theorem Ext.bump {G : Top} {H1 H4 : Hp} {ρ1 ρ4 : List Addr} {D : Addr} {xs ys : List V} (e : Ext G.K H1 ρ1 H4 ρ4) (h1 : H1 D = none) (h4 : H4 D = some (.lst xs)) : Ext G.K H1 ρ1 (L2.upd H4 D (.lst ys)) ρ4 where
  pre := e.pre
  keep := fun a o ha h => by rw [upd_ne (fun z => by rw [z, h1] at h; cases h)]; exact e.keep a o ha h
  new := e.new
  tups := fun a vs h => tups_upd h4 trivial a vs (e.tups a vs h)
  frzs := fun a vs h => frzs_upd h4 trivial a vs (e.frzs a vs h)
theorem wipe_wipe (σ : L2.St) (vs : List Nat) : L2.wipe (L2.wipe σ vs) vs = L2.wipe σ vs := wipe_congr (wipe_length σ vs) fun i hi => wipe_out hi
theorem SR.track {G : Top} {H : Hp} {ρ : List Addr} {S : Store} {D : Addr} {vs : List V} {ws : List W} (sr : SR G H ρ S) (h : H D = some (.lst vs)) (hD : D ∉ ρ) (r : VRs G.K H ρ ws vs) : SR G H (ρ ++ [D]) (S ++ [.lst ws]) := by
  have pr : ∀ (n : Nat) (a : Addr), ρ[n]? = some a → (ρ ++ [D])[n]? = some a := fun n a h => by rw [List.getElem?_append_left (List.getElem?_eq_some_iff.mp h).1]; exact h
  have e : ∀ {w v}, VR G.K H ρ w v → VR G.K H (ρ ++ [D]) w v := fun {w v} r => VR.more pr r
  refine ⟨by simp [sr.len], ?_, fun n b o h1 h2 => ?_⟩
  · rw [List.nodup_append]
    exact ⟨sr.nd, by simp, fun x hx y hy z => by simp at hy; subst hy; subst z; exact hD hx⟩
  · by_cases hl : n < ρ.length
    · rw [List.getElem?_append_left hl] at h1
      rw [List.getElem?_append_left (by rw [← sr.len]; exact hl)] at h2
      have r := sr.ob n b o h1 h2
      cases o with
      | lst ws => obtain ⟨vs, z, q⟩ := r; exact ⟨vs, z, VRs.more pr q⟩
      | dct kvs => obtain ⟨vs, z, q⟩ := r; exact ⟨vs, z, Paired.mapP q fun _ _ z => ⟨z.1, e z.2⟩⟩
      | ins c fs => obtain ⟨dx, vs, z, q⟩ := r; exact ⟨dx, vs, z, Paired.mapP q fun _ _ z => ⟨z.1, e z.2⟩⟩
    · have hl2 : ρ.length ≤ n := Nat.le_of_not_lt hl
      rw [List.getElem?_append_right hl2] at h1
      rw [List.getElem?_append_right (by rw [← sr.len]; exact hl2)] at h2
      have e : n - ρ.length = 0 := by
        have := (List.getElem?_eq_some_iff.mp h1).1
        simp at this; omega
      rw [e] at h1
      rw [← sr.len, e] at h2
      simp at h1 h2
      subst h1; subst h2
      exact ⟨vs, h, VRs.more pr r⟩
/-- an untracked list of a comprehension grows -/
theorem SR.bump {G : Top} {H : Hp} {ρ : List Addr} {S : Store} {D : Addr} {xs ys : List V} (sr : SR G H ρ S) (hD : D ∉ ρ) (h : H D = some (.lst xs)) : SR G (L2.upd H D (.lst ys)) ρ S := by
  refine ⟨sr.len, sr.nd, fun n b o h1 h2 => ?_⟩
  have hne : b ≠ D := fun z => hD (by rw [← z]; exact List.mem_of_getElem? h1)
  have tu : ∀ {w v}, VR G.K H ρ w v → VR G.K (L2.upd H D (.lst ys)) ρ w v := fun {w v} r => VR.remap (tups_upd h trivial) (frzs_upd h trivial) r
  have tus : ∀ {w v}, VRs G.K H ρ w v → VRs G.K (L2.upd H D (.lst ys)) ρ w v := fun {w v} r => VRs.remap (tups_upd h trivial) (frzs_upd h trivial) r
  have r := sr.ob n b o h1 h2
  cases o with
  | lst ws => obtain ⟨vs, z, q⟩ := r; exact ⟨vs, by rw [upd_ne hne]; exact z, tus q⟩
  | dct kvs => obtain ⟨vs, z, q⟩ := r; exact ⟨vs, by rw [upd_ne hne]; exact z, Paired.mapP q fun _ _ z => ⟨z.1, tu z.2⟩⟩
  | ins c fs => obtain ⟨dx, vs, z, q⟩ := r; exact ⟨dx, vs, by rw [upd_ne hne]; exact z, Paired.mapP q fun _ _ z => ⟨z.1, tu z.2⟩⟩

section
variable {G : Top} {c : Ctx} {k : Nat}
/-- the context of a comprehension's block -/
def blkCtx (c : Ctx) (scope : Scope) : Ctx := ⟨c.N, relS scope c.sc, fun x => scope.names.lookup x == some .cell⟩
theorem Fit.blk {X : Cx} {U : WX} (F : Fit G c k X U) (scope : Scope) (s : Shared) (H : Hp) (C : Addr) (cl : List (Str × Addr)) (fp : List Addr) :
    Fit G (blkCtx c scope) k (X.blk s H scope (compEnvC scope cl C X.env) fp) (fun _ _ _ _ => False) where
  P := F.P
  w := F.w
  K := F.K
  mg := F.mg
  base := F.base
  N := F.N
  sc := by
    show relS scope X.env.scope = relS scope c.sc
    rw [F.sc]
  nd := F.nd
  calm := F.calm
  room := F.room
  gd := F.gd
  tk := takes0
  pass := PassesOwn.never
  fn := fun x h => h
/-- a block's targets are its own -/
def gW (G : Top) (vs : List Nat) (d : DT) : TG := fun v σ H Q => ∃ w ε ρ S ε', VR G.K H ρ w v ∧ EvR G.K H ρ ε σ ∧ SR G H ρ S ∧ d w ε S = some ε' ∧ ∀ σ' : L2.St, EvR G.K H ρ ε' σ' → σ'.length = σ.length → (∀ i, i ∉ vs → σ'[i]? = σ[i]?) → Q σ' H
def gsW (G : Top) (vs : List Nat) (d : DTs) : TGs := fun v σ H Q => ∃ w ε ρ S ε', VRs G.K H ρ w v ∧ EvR G.K H ρ ε σ ∧ SR G H ρ S ∧ d w ε S = some ε' ∧ ∀ σ' : L2.St, EvR G.K H ρ ε' σ' → σ'.length = σ.length → (∀ i, i ∉ vs → σ'[i]? = σ[i]?) → Q σ' H
def GWk (G : Top) (c : Ctx) (k : Nat) (vs : List Nat) (e : Expr) (d : DT) : Prop := ∀ X U, Fit G c k X U → PG X e (gW G vs d)
def GsWk (G : Top) (c : Ctx) (k : Nat) (vs : List Nat) (e : List Expr) (d : DTs) : Prop := ∀ X U, Fit G c k X U → PGs X e (gsW G vs d)
theorem gw_name (i : Nat) {x : Str} {pos : Pos} {vs : List Nat} (hN : c.N[i]? = some x := by rfl) (hv : i ∈ vs := by decide) (hx : Loc c.sc x := by first | exact Or.inl rfl | exact Or.inr rfl) (hf : c.fn x = true ∨ c.sc.names.lookup x = some .local := by first | exact .inr rfl | exact .inl rfl) : GWk G c k vs (.Name x pos) (tgN i) := fun X U F =>
  PG.imp (pg_name (i := i) F.nd (by rw [F.N]; exact hN) (by rw [F.sc]; exact hx) (hf.elim (fun z => .inl (F.fn x z)) fun z => .inr (by rw [F.sc]; exact z))) fun v σ H Q ⟨w, ε, ρ, S, ε', r, ev, sr, e, h⟩ => by
    cases e
    exact h _ (ev.set i r) (by simp) fun j hj => by rw [List.getElem?_set_ne (fun z => hj (by rw [← z]; exact hv))]
theorem gsw_nil {vs : List Nat} : GsWk G c k vs [] tgNil := fun X U F => PGs.imp pgs_nil fun v σ H Q ⟨ws, ε, ρ, S, ε', r, ev, sr, e, h⟩ => by
  cases r with
  | nil => cases e; exact ⟨rfl, h _ ev rfl fun _ _ => rfl⟩
  | cons _ _ => cases e
theorem gsw_cons {e : Expr} {es : List Expr} {t : DT} {ts : DTs} {vs : List Nat} (h1 : GWk G c k vs e t) (h2 : GsWk G c k vs es ts) (hs : ∀ env, (assignEach (e :: es) env).map (·.2) = assign e env :: (assignEach es env).map (·.2) := by intro _; rfl) : GsWk G c k vs (e :: es) (tgCons t ts) := fun X U F =>
  PGs.imp (pgs_cons (h1 X U F) (h2 X U F) (hs _)) fun v σ H Q ⟨ws, ε, ρ, S, ε', r, ev, sr, q, h⟩ => by
    cases r with
    | nil => cases q
    | @cons w v' ws' vs' r0 rr =>
      unfold tgCons at q
      cases z : t w ε S with
      | none => simp only [z] at q; cases q
      | some ε1 =>
        simp only [z] at q
        exact ⟨_, _, rfl, w, ε, ρ, S, ε1, r0, ev, sr, z, fun σ1 ev1 l1 a1 => ⟨ws', ε1, ρ, S, ε', rr, ev1, sr, q, fun σ2 ev2 l2 a2 => h σ2 ev2 (l2.trans l1) fun j hj => (a2 j hj).trans (a1 j hj)⟩⟩
theorem gw_tup {es : List Expr} {j : Nat} {ts : DTs} {n : Nat} {pos : Pos} {vs : List Nat} (h : GsWk G c k vs es ts) (hn : ∀ env, (assignEach es env).length = n := by intro _; rfl) (hst : ∀ env, (assignEach es env).findIdx? (·.1) = none := by intro _; rfl) : GWk G c k vs (.Tuple es j pos) (tgTup n ts) := fun X U F =>
  PG.imp (pg_tup F.calm (h X U F) (hn _) (hst _)) fun v σ H Q ⟨w, ε, ρ, S, ε', r, ev, sr, q, h⟩ => by
    cases r with
    | @tup ws a vs s t =>
      unfold tgTup at q
      simp only at q
      split at q
      · rename_i hl
        refine ⟨a, vs, rfl, by rw [F.K]; exact s, by rw [← t.length]; exact hl, ws, ε, ρ, S, ε', t, ev, sr, q, h⟩
      · cases q
    | bl b => cases q
    | non => cases q
    | int i => cases q
    | str x => cases q
    | ref _ => cases q
    | rl _ _ => cases q
/-- tests of a comprehension -/
def CsOk (G : Top) (c : Ctx) (k : Nat) (ifs : List Expr) (d : DB) : Prop := ∀ X U, Fit G c k X U → PTs X ifs (tB G U d)
theorem cs_nil : CsOk G c k [] dYes := fun X U F => ⟨fun pins s σ H Q I ⟨ρ, ε, S, ev, sr, h⟩ => pts_nil.run pins s σ H Q I (h H ρ true Ext.refl sr rfl)⟩
theorem cs_one {e : Expr} {d : DB} (h : BOk G c k e d) : CsOk G c k [e] d := fun X U F => pts_one (h X U F)
abbrev U0 : WX := fun _ _ _ _ => False
theorem lc_imp {U : WX} {d : DI} {t : DT} {cnd : DB} {el : DE} {vs : List Nat} {σ : L2.St} {H : Hp} {Q : VK} (h : tN G U (dLc d t cnd el vs) σ H Q) :
    tLc (tI G U d) (gW G vs t) (tB G U0 cnd) (tN G U0 el) vs σ H Q := by
  obtain ⟨ρ, ε, S, ev, sr, h⟩ := h
  refine ⟨ρ, ε, S, ev, sr, (Rg.bind h).mono fun J H1 ⟨p, S1, ρ1, e1, s1, r1, h1⟩ D hD => ?_⟩
  obtain ⟨hlen, h1⟩ := Rg.chk h1
  have hlen : p.items.length ≤ sizeLine := of_decide_eq_true hlen
  have ev1 : EvR G.K H1 ρ1 ε σ := ev.mono e1
  have eD : Ext G.K H1 ρ1 (L2.upd H1 D (.lst [])) ρ1 := Ext.fresh hD
  refine ⟨fun i m H => ∃ ρ S ws vs', Ext G.K H1 ρ1 H ρ ∧ SR G H ρ S ∧ H D = some (.lst vs') ∧ D ∉ ρ ∧ VRs G.K H ρ ws vs' ∧ m = p.items.length - i ∧ i ≤ p.items.length ∧ ws.length ≤ i ∧
    Rg G U σ (VR G.K) ((lcL t cnd el p.g (wipeE ε vs) (p.items.drop i) >>= fun rest => alloc (.lst (ws ++ rest))) S) H1 ρ1 Q,
    ⟨p.items.length, ρ1, S1, [], [], eD, s1.fresh hD, upd_same, s1.fresh_mem hD, .nil, rfl, Nat.zero_le _, Nat.zero_le _, h1⟩, ?_⟩
  rintro i m H2 ⟨ρ2, S2, ws, vs', e2, s2, hd, nD, rv, rfl, hi, hw, h2⟩
  by_cases hlt : i < p.items.length
  · rw [List.drop_eq_getElem_cons hlt] at h2
    unfold lcL at h2
    rw [M.assoc] at h2
    by_cases hg : p.g S2
    · have h3 : Rg G U σ (VR G.K) (((tgt t p.items[i] (wipeE ε vs) >>= fun ε1 => noX (cnd ε1) >>= fun b => if b = true then noX (el ε1) >>= fun w => lcL t cnd el p.g (wipeE ε vs) (p.items.drop (i + 1)) >>= fun ws => M.ret (w :: ws) else lcL t cnd el p.g (wipeE ε vs) (p.items.drop (i + 1))) >>= fun rest => alloc (.lst (ws ++ rest))) S2) H1 ρ1 Q := by
        have e : (grd p.g >>= fun _ => ((tgt t p.items[i] (wipeE ε vs) >>= fun ε1 => noX (cnd ε1) >>= fun b => if b = true then noX (el ε1) >>= fun w => lcL t cnd el p.g (wipeE ε vs) (p.items.drop (i + 1)) >>= fun ws => M.ret (w :: ws) else lcL t cnd el p.g (wipeE ε vs) (p.items.drop (i + 1))) >>= fun rest => alloc (.lst (ws ++ rest)))) S2 =
            ((tgt t p.items[i] (wipeE ε vs) >>= fun ε1 => noX (cnd ε1) >>= fun b => if b = true then noX (el ε1) >>= fun w => lcL t cnd el p.g (wipeE ε vs) (p.items.drop (i + 1)) >>= fun ws => M.ret (w :: ws) else lcL t cnd el p.g (wipeE ε vs) (p.items.drop (i + 1))) >>= fun rest => alloc (.lst (ws ++ rest))) S2 := by
          show M.bind (grd p.g) _ S2 = _
          unfold M.bind
          rw [grd_ok hg]
        rw [← e]
        exact h2
      obtain ⟨hgo, _⟩ := r1 H2 ρ2 S2 e2 s2 hg
      obtain ⟨go, yl⟩ := hgo i p.items[i] (List.getElem?_eq_getElem hlt)
      refine .inr ⟨go, _, fun H' hN => hN, fun x H3 hy => ?_⟩
      obtain ⟨e3, s3, vr⟩ := yl x H3 hy
      rw [M.assoc] at h3
      cases ht : t p.items[i] (wipeE ε vs) S2 with
      | none =>
        have e : tgt t p.items[i] (wipeE ε vs) S2 = .bad := by unfold tgt; rw [ht]
        have z : Rg G U σ (VR G.K) (M.bind (tgt t p.items[i] (wipeE ε vs)) _ S2) H1 ρ1 Q := h3
        unfold M.bind at z
        rw [e] at z
        exact z.elim
      | some ε1 =>
        have e : tgt t p.items[i] (wipeE ε vs) S2 = .ok ε1 S2 := by unfold tgt; rw [ht]
        have z : Rg G U σ (VR G.K) (M.bind (tgt t p.items[i] (wipeE ε vs)) _ S2) H1 ρ1 Q := h3
        unfold M.bind at z
        rw [e] at z
        have h4 : Rg G U σ (VR G.K) (((noX (cnd ε1) >>= fun b => if b = true then noX (el ε1) >>= fun w => lcL t cnd el p.g (wipeE ε vs) (p.items.drop (i + 1)) >>= fun ws => M.ret (w :: ws) else lcL t cnd el p.g (wipeE ε vs) (p.items.drop (i + 1))) >>= fun rest => alloc (.lst (ws ++ rest))) S2) H1 ρ1 Q := z
        clear z h3 h2
        have e23 := e2.trans e3
        refine ⟨_, wipeE ε vs, ρ2, S2, ε1, vr, ((ev1.mono e23).wipe vs), s3, ht, fun σ4 ev4 l4 a4 => ⟨wipe_congr (by rw [l4]) (fun j hj => (a4 j hj)) |>.trans ?_, ρ2, ε1, S2, ev4, s3, ?_⟩⟩
        · exact wipe_wipe σ vs
        · rw [M.assoc] at h4
          refine (Rg.bindAt e23 h4).mono fun b' H4 ⟨b, S4, ρ4, e4, s4, r4, h5⟩ => ?_
          obtain rfl : b = b' := r4
          have hd4 : H4 D = some (.lst vs') := e4.keep D _ nD (e3.keep D _ nD hd)
          have nD4 : D ∉ ρ4 := fun z => (e4.new D z).elim nD fun z => by rw [e3.keep D _ nD hd] at z; cases z
          cases b with
          | false =>
            rw [if_neg Bool.false_ne_true] at h5 ⊢
            exact ⟨_, by omega, ρ4, S4, ws, vs', e23.trans e4, s4, hd4, nD4, rv.mono (e3.trans e4), rfl, hlt, by omega, h5⟩
          | true =>
            rw [if_pos rfl] at h5 ⊢
            rw [M.assoc] at h5
            refine ⟨ρ4, ε1, S4, ev4.mono e4, s4, (Rg.bindAt (e23.trans e4) h5).mono fun y H5 ⟨w, S5, ρ5, e5, s5, r5, h6⟩ => ?_⟩
            have hd5 : H5 D = some (.lst vs') := e5.keep D _ nD4 hd4
            have nD5 : D ∉ ρ5 := fun z => (e5.new D z).elim nD4 fun z => by rw [hd4] at z; cases z
            have rv5 := rv.mono ((e3.trans e4).trans e5)
            refine ⟨vs', hd5, by rw [← rv.length]; omega, _, by omega, ρ5, S5, ws ++ [w], vs' ++ [y], ((e23.trans e4).trans e5).bump hD hd5, s5.bump nD5 hd5, upd_same, nD5, ?_, rfl, hlt, by simp; omega, ?_⟩
            · exact VRs.remap (tups_upd hd5 trivial) (frzs_upd hd5 trivial) (rv5.append (.cons r5 .nil))
            · rw [M.assoc] at h6
              simpa only [M.ret_bind, List.append_assoc, List.cons_append, List.nil_append] using h6
    · have e : ∀ (α : Type) (f : Unit → M α), (grd p.g >>= f) S2 = .bad := fun α f => by
        show M.bind (grd p.g) f S2 = _
        unfold M.bind grd
        rw [if_neg hg]
      rw [e] at h2
      exact h2.elim
  · obtain rfl : i = p.items.length := by omega
    rw [List.drop_length] at h2
    unfold lcL at h2
    rw [M.assoc] at h2
    by_cases hg : p.g S2
    · refine .inl ⟨(r1 H2 ρ2 S2 e2 s2 hg).2, ?_⟩
      have h3 : Rg G U σ (VR G.K) (M.bind (grd p.g) (fun _ => alloc (.lst (ws ++ []))) S2) H1 ρ1 Q := h2
      unfold M.bind at h3
      rw [grd_ok hg, List.append_nil] at h3
      have e' : Ext G.K H1 ρ1 H2 (ρ2 ++ [D]) := {
        pre := fun n a h => by rw [List.getElem?_append_left (List.getElem?_eq_some_iff.mp (e2.pre n a h)).1]; exact e2.pre n a h
        keep := e2.keep
        new := fun a h => (List.mem_append.mp h).elim (e2.new a) fun z => by simp at z; subst z; exact .inr hD
        tups := e2.tups
        frzs := e2.frzs }
      refine h3 H2 (ρ2 ++ [D]) (.ref D) e' (s2.track hd nD rv) (.ref ?_)
      rw [← s2.len, List.getElem?_append_right (Nat.le_refl _)]
      simp
    · have e : ∀ (α : Type) (f : Unit → M α), (grd p.g >>= f) S2 = .bad := fun α f => by
        show M.bind (grd p.g) f S2 = _
        unfold M.bind grd
        rw [if_neg hg]
      rw [e] at h2
      exact h2.elim
theorem e_lc {elt tg iter : Expr} {ifs : List Expr} {scope : Scope} (own : List (Str × Nat)) {pos : Pos} {d : DI} {t : DT} {cnd : DB} {el : DE} (hi : IOk G c k tg iter d) (hg : GWk G (blkCtx c scope) k (own.map (·.2)) tg t) (hc : CsOk G (blkCtx c scope) k ifs cnd) (he : EOk G (blkCtx c scope) k elt el)
    (ok : blkC c.N c.sc scope own = true := by decide +kernel) (hs : ∀ env x, foldedSetIterable iter env x = pure x := by intro _ _; rfl) : EOk G c k (.ListComp elt [⟨tg, iter, ifs, 0⟩] scope pos) (dLc d t cnd el (own.map (·.2))) := fun X U F =>
  PE.imp (pe_lc F.calm F.nd (hi X U F) (by rw [F.N, F.sc]; exact blkOk_by ok) (fun s H C cl fp => hg _ _ (F.blk scope s H C cl fp)) (fun s H C cl fp => hc _ _ (F.blk scope s H C cl fp)) (fun s H C cl fp => he _ _ (F.blk scope s H C cl fp)) (hs _)) fun σ H Q h => lc_imp h
/-- y = [..] on one line -/
theorem s_lc (i : Nat) {y : Str} {py : Pos} {elt tg iter : Expr} {ifs : List Expr} {scope : Scope} (own : List (Str × Nat)) {pos spos : Pos} {d : DI} {t : DT} {cnd : DB} {el : DE} (hi : IOk G c k tg iter d) (hg : GWk G (blkCtx c scope) k (own.map (·.2)) tg t) (hc : CsOk G (blkCtx c scope) k ifs cnd) (he : EOk G (blkCtx c scope) k elt el)
    (hy : c.N[i]? = some y := by rfl) (hyl : c.sc.names.lookup y = some .local := by rfl) (hk : c.sc.kind = .function := by rfl) (hl : (py.line == pos.line) = true := by decide) (ha : (scope.names.any fun (n, k) => n == y && (k == .local || k == .cell)) = false := by decide +kernel)
    (ok : blkC c.N c.sc scope own = true := by decide +kernel) (hs : ∀ env x, foldedSetIterable iter env x = pure x := by intro _ _; rfl) : SOk G c k (.Assign [.Name y py] (.ListComp elt [⟨tg, iter, ifs, 0⟩] scope pos) spos) (dSet i (dLc d t cnd el (own.map (·.2)))) := fun X U F =>
  PS.imp (ps_setLc (i := i) F.calm F.nd (by rw [F.N]; exact hy) (by rw [F.sc]; exact hyl) (sw_true (by rw [F.sc]; exact hk) (by rw [F.sc]; exact hyl) hl ha) (hi X U F) (by rw [F.N, F.sc]; exact blkOk_by ok) (fun s H C cl fp => hg _ _ (F.blk scope s H C cl fp)) (fun s H C cl fp => hc _ _ (F.blk scope s H C cl fp)) (fun s H C cl fp => he _ _ (F.blk scope s H C cl fp)) (hs _))
    fun D σ H ⟨ρ, ε, S, ev, sr, h⟩ => lc_imp ⟨ρ, ε, S, ev, sr, (Rg_sBind ev h).mono fun v H' ⟨w, S', ρ', e', s', r', q⟩ => q H' ρ' _ Ext.refl s' ((ev.mono e').set i r')⟩
/-- the same at a name that a block holds: no exchange -/
theorem sw_cell {elt : Expr} {gs : List Comprehension} {scope : Scope} {pos py : Pos} {y : Str} {l : Nat} {env : Env} (hy : env.scope.names.lookup y = some .cell) : swapsWith (.ListComp elt gs scope pos) (some (.Name y py)) l env = pure false := by
  have ky : env.kindOf y = some .cell := hy
  unfold swapsWith
  simp only [ky]
  cases hb : (env.blockKind == .function) <;> rfl
theorem s_setCell (i : Nat) {y : Str} {py : Pos} {elt : Expr} {gs : List Comprehension} {scope : Scope} {pos spos : Pos} {d : DE} (he : EOk G c k (.ListComp elt gs scope pos) d) (hN : c.N[i]? = some y := by rfl) (hyl : c.sc.names.lookup y = some .cell := by rfl)
    (hf : c.fn y = true := by rfl) : SOk G c k (.Assign [.Name y py] (.ListComp elt gs scope pos) spos) (dSet i d) := fun X U F =>
  PS.imp (ps_set (i := i) F.nd (by rw [F.N]; exact hN) (by rw [F.sc]; exact .inr hyl) (he X U F) (sw_cell (by rw [F.sc]; exact hyl)) (.inl (F.fn y hf))) fun D σ H ⟨ρ, ε, S, ev, sr, h⟩ => ⟨ρ, ε, S, ev, sr, (Rg_sBind ev h).mono fun v H' ⟨w, S', ρ', e', s', r', q⟩ =>
    q H' ρ' _ Ext.refl s' ((ev.mono e').set i r')⟩
end
end
end N
namespace N
open PySem L2
open PyProof.Rows (envOfC)
noncomputable section
/-- a def's promise by its function -/
def spN (G : Top) (d : List W → M W) : Sp := fun vs H Q E => ∃ ws S ρ, VRs G.K H ρ ws vs ∧ SR G H ρ S ∧ wp (d ws S) (fun w S' => ∀ H' ρ' v, Ext G.K H ρ H' ρ' → SR G H' ρ' S' → VR G.K H' ρ' w v → Q v H') (fun x S' => ∀ H' ρ' cls dd, Ext G.K H ρ H' ρ' → SR G H' ρ' S' → XR G H' ρ' x cls dd → E cls dd H')
def dfn (N n : Nat) (d : DS) (ws : List W) : M W := fun S => if ws.length = n then (match d (ws.map some ++ List.replicate (N - n) none) S with
  | .nx _ S' => .ok .non S'
  | .rt w S' => .ok w S'
  | .exc x _ S' => .exc x S'
  | _ => .bad) else .bad
/-- a def of the text as it stands behind the top, with or without defaults -/
structure FunX (K : PySem.W.Frag) (x qual : Str) (st : Stmt) (f : Addr) (fd : FuncData) : Prop where
  ex : ∃ (oc : Value) (od : Option Addr) (dV kV doc pm : Value) (an : Option Addr) (cdv ct : Value) (osl : Array (Option Value)),
    fd = PySem.W.fnOf x qual (defArgs st) (defBody st) (defScope st) dV kV doc pm an cdv ct ∧ K.lookup f = some ⟨oc, od, .func fd, osl⟩ ∧ PySem.W.codeIn K cdv qual = true
theorem funX_mk {K : PySem.W.Frag} {x qual : Str} {st : Stmt} {f : Addr} {oc dV kV doc pm cdv ct : Value} {od an : Option Addr} {osl : Array (Option Value)} (l : K.lookup f = some ⟨oc, od, .func (PySem.W.fnOf x qual (defArgs st) (defBody st) (defScope st) dV kV doc pm an cdv ct), osl⟩)
    (c : PySem.W.codeIn K cdv qual = true) : FunX K x qual st f (PySem.W.fnOf x qual (defArgs st) (defBody st) (defScope st) dV kV doc pm an cdv ct) := ⟨⟨oc, od, dV, kV, doc, pm, an, cdv, ct, osl, rfl, l, c⟩⟩
/-- a def keeps its promise, wherever no repr runs -/
structure FnG (G : Top) (k : Nat) (f : Addr) (fd : FuncData) (ps : List Str) (sp : Sp) : Prop where
  len : ∀ vs H Q E, sp vs H Q E → vs.length = ps.length
  run : ∀ (A : Around) (outer : List Env) (s : Shared) (H : Hp) (args : Args) (us : List Value) (vs : List V) (Q : VK) (E : XK), Room k A → A.guards = some [] → Env0 G.P G.w G.K G.mg G.base A outer s H → BindsTo s fd args (ps.zip us) → Vals vs us → sp vs H Q E →
    codeAny (model G.P G.w) A (.call (.ref f) args) (CR (L2.CX G.P G.w) outer G.P G.w H s Q E) s
theorem FnG.mono {G : Top} {j k : Nat} {f : Addr} {fd : FuncData} {ps : List Str} {sp : Sp} (F : FnG G j f fd ps sp) (h : j ≤ k) : FnG G k f fd ps sp :=
  ⟨F.len, fun A outer s H args us vs Q E hr => F.run A outer s H args us vs Q E (hr.mono h)⟩
/-- a body keeps the promise -/
theorem fnG_of {G : Top} {x qual : Str} {st : Stmt} {f : Addr} {fd : FuncData} {N ps : List Str} {k : Nat} {sp : Sp} (F : FunX G.K x qual st f fd) (S : FnScope N ps (defScope st)) (len : ∀ vs H Q E, sp vs H Q E → vs.length = ps.length)
    (hb : ∀ (cdv : Value) (A : Around) (outer : List Env) (s : Shared) (H : Hp) (vs : List V) (Q : VK) (E : XK), Room k (A.deeper (envOfC qual (defScope st) s.heap.objs.size f cdv)) → A.guards = some [] → sp vs H Q E →
      ∃ t, PSs (cxOf (L2.CX G.P G.w) G.P G.w G.K G.mg G.base N qual (defScope st) f cdv A outer s H E) (defBody st) t ∧ t { nx := fun _ H' => Q .non H', rt := Q } (L2.start N vs) H) : FnG G (k + 1) f fd ps sp := by
  obtain ⟨oc, od, dV, kV, doc, pm, an, cdv, ct, osl, rfl, lk, hcd⟩ := F.ex
  refine ⟨len, fun A outer s H args us vs Q E hr hgd e0 bd r h => ?_⟩
  have inK : G.K.In s.heap := e0.mod.kin.keeps fun b o e => (e0.bs b o e).1
  have lim : s.heap.NoLimit := e0.mod.nolimit.keeps fun b o e => (e0.bs b o e).1
  have kinds : ∀ y ∈ ps.zip us, (defScope st).names.lookup y.1 = some .local ∨ ((defScope st).names.lookup y.1 = some .cell ∧ ((cellsFrom (s.heap.objs.size + 1) (defScope st).names []).lookup y.1).isSome = true) := fun y hy =>
    (S.par y.1 (List.of_mem_zip hy).1).imp id fun q => ⟨q, PySem.W.cellsFrom_some _ _ _ (.inl q)⟩
  refine codeAny_call_function hr.depth (inK _ _ lk) rfl S.co S.gen rfl (PySem.W.codeRec_of inK hcd) (bd _ _ _ _ ?_)
  refine wpAny_newFunctionEnv_cells S.kind kinds fun env he s1 x => ?_
  subst he
  refine ⟨lim.keeps x.toInCall.keep, codeAny_func ?_⟩
  obtain ⟨t, ht, hq⟩ := hb cdv A outer s H vs Q E (hr.deeper _) hgd h
  refine wpAny_mono (ht.run [] s1 _ H _ (inv_start S hr.hd e0 (len _ _ _ _ h) r x) hq) (fun fl s' hs => ?_) fun e s' hs => hs
  cases fl with
  | ret u => obtain ⟨v, σ', H', J, rv, q⟩ := hs; exact ⟨v, H', J.os, J.bare, J.base, J.hok, rv, q⟩
  | next => obtain ⟨σ', H', J, q⟩ := hs; exact ⟨.non, H', J.os, J.bare, J.base, J.hok, rfl, q⟩
  | brk => obtain ⟨_, _, _, q⟩ := hs; exact q.elim
  | cont => obtain ⟨_, _, _, q⟩ := hs; exact q.elim
theorem fn_ok {G : Top} {x qual : Str} {st : Stmt} {f : Addr} {fd : FuncData} {N ps : List Str} {k n : Nat} {d : DS} (F : FunX G.K x qual st f fd) (S : FnScope N ps (defScope st)) (hn : ps.length = n) (hb : SsOk G ⟨N, defScope st, fun _ => true⟩ k (defBody st) d) :
    FnG G (k + 1) f fd ps (spN G (dfn N.length n d)) := by
  have len : ∀ vs H Q E, spN G (dfn N.length n d) vs H Q E → vs.length = n := fun vs H Q E ⟨ws, S, ρ, r, sr, h⟩ => by
    unfold dfn at h
    by_cases hl : ws.length = n
    · rw [← r.length]; exact hl
    · rw [if_neg hl] at h
      exact h.elim
  refine fnG_of F S (fun vs H Q E h => (len vs H Q E h).trans hn.symm) fun cdv A outer s H vs Q E hr hgd h => ?_
  have fit : Fit G ⟨N, defScope st, fun _ => true⟩ k (cxOf (L2.CX G.P G.w) G.P G.w G.K G.mg G.base N qual (defScope st) f cdv A outer s H E) (fun cls d _ H => E cls d H) := {
    P := rfl, w := rfl, K := rfl, mg := rfl, base := rfl, N := rfl, sc := rfl, nd := S.nd, calm := rfl, room := hr, gd := hgd, tk := takes_of rfl rfl rfl rfl, pass := passes_of rfl, fn := fun _ _ => rfl }
  refine ⟨_, hb _ _ fit, ?_⟩
  have hl := len _ _ _ _ h
  obtain ⟨ws, S0, ρ, r, sr, h⟩ := h
  have hw : ws.length = n := r.length.trans hl
  unfold dfn at h
  rw [if_pos hw] at h
  refine ⟨ρ, ws.map some ++ List.replicate (N.length - n) none, S0, ⟨?_, fun i w hi => ?_⟩, sr, ?_⟩
  · unfold L2.start
    simp [r.length, hl]
  · by_cases hlt : i < ws.length
    · rw [List.getElem?_append_left (by simpa using hlt), List.getElem?_map] at hi
      cases e : ws[i]? with
      | none => rw [e] at hi; cases hi
      | some w' =>
        rw [e] at hi
        cases hi
        obtain ⟨v, hv, rv⟩ := r.get e
        refine ⟨v, ?_, rv⟩
        unfold L2.start
        rw [List.getElem?_append_left (by rw [List.length_map, ← r.length]; exact hlt), List.getElem?_map, hv]
        rfl
    · rw [List.getElem?_append_right (by simpa using hlt), List.getElem?_replicate] at hi
      split at hi <;> cases hi
  · cases q : d (ws.map some ++ List.replicate (N.length - n) none) S0 with
    | nx ε S' => rw [q] at h; exact fun H' ρ' σ' e s v => h H' ρ' .non e s .non
    | rt w S' => rw [q] at h; exact fun H' ρ' v e s r => h H' ρ' v e s r
    | exc x ε S' => rw [q] at h; exact fun H' ρ' σ' cls dd e s v xr => h H' ρ' cls dd e s xr
    | bk ε S' => rw [q] at h; exact h.elim
    | ct ε S' => rw [q] at h; exact h.elim
    | bad => rw [q] at h; exact h.elim
/-- a def of the text, with its function; na: how many parameters -/
structure Def (G : Top) (k : Nat) (x : Str) (ps : List Str) (d : List W → M W) : Prop where
  ex : ∃ f fd, G.mg x = some (.ref f) ∧ PySem.W.keepIn G.K (.ref f) = true ∧ FnG G k f fd ps (spN G d) ∧ Binds G.K fd ps []
theorem Def.mono {G : Top} {j k : Nat} {x : Str} {ps : List Str} {d : List W → M W} (D : Def G j x ps d) (h : j ≤ k) : Def G k x ps d := by
  obtain ⟨f, fd, a, b, c, e⟩ := D.ex
  exact ⟨f, fd, a, b, c.mono h, e⟩
section
variable {G : Top} {c : Ctx} {k : Nat}
def dCall (d : List W → M W) (a : DA) : DE := fun ε => a ε >>= fun ws => d ws
/-- what a promise asks, from a reading's wish -/
theorem call_sp {U : WX} {σ : L2.St} {d : List W → M W} {ws : List W} {vs : List V} {S : Store} {H : Hp} {ρ : List Addr} {Q : VK} (h : Rg G U σ (VR G.K) (d ws S) H ρ Q) (sr : SR G H ρ S) (r : VRs G.K H ρ ws vs) : spN G d vs H Q (fun cls dd H' => U cls dd σ H') := ⟨ws, S, ρ, r, sr, h⟩
/-- the callee runs -/
theorem run_G {X : Cx} {U : WX} (F : Fit G c k X U) {j : Nat} {f : Addr} {fd : FuncData} {ps : List Str} {sp : Sp} (hf : FnG G j f fd ps sp) (hj : j ≤ k) {pins : List (Addr × Obj)} {σ : L2.St} {H : Hp} {s : Shared} {Q : VK} {args : Args} {us : List Value} {vs : List V} (I : Inv X pins σ H s)
    (b : BindsTo s fd args (ps.zip us)) (r : Vals vs us) (h : sp vs H Q (fun cls dd H' => U cls dd σ H')) : wpAny (model X.prog X.w) X.A (call (.ref f) args.pos args.kw) (EP X pins σ Q) X.xe s := by
  have e0 := I.env0
  rw [F.P, F.w, F.K, F.mg, F.base] at e0
  have z := hf.run X.A X.stack s H args us vs Q (fun cls dd H' => U cls dd σ H') (F.room.mono hj) F.gd e0 b r h
  rw [← F.P, ← F.w] at z
  refine wpAny_call (codeAny_mono z fun r s' hq => ?_)
  cases r with
  | error e => exact passAt F.tk σ pins H s e s' I hq
  | ok fl =>
    cases fl with
    | ret u => exact I.after hq
    | next => exact False.elim hq
    | brk => exact False.elim hq
    | cont => exact False.elim hq
theorem binds0 {K : PySem.W.Frag} {fd : FuncData} {ps : List Str} (hb : Binds K fd ps []) {s : Shared} {us : List Value} (inK : K.In s.heap) (hl : us.length = ps.length) : BindsTo s fd ⟨us, []⟩ (ps.zip us) := by
  have b := hb s us inK (by rw [List.append_nil]; exact hl)
  rw [List.append_nil] at b
  exact b
theorem e_call {j : Nat} {x : Str} {ps : List Str} {d : List W → M W} {e : Expr} {es : List Expr} {a : DA} {p pos : Pos} (D : Def G j x ps d) (hj : j ≤ k) (ha : AOk G c k (e :: es) a) (hg : c.sc.names.lookup x = some .globalImplicit := by rfl)
    (hdb : (x == ("__debug__" : Str)) = false := by decide) (he : ∀ env, starEach (e :: es) env = (false, eval e env) :: starEach es env := by intro _; rfl) (hpl : ∀ env, (backTo pos (starEach es env)).any (·.1) = false := by intro _; rfl) : EOk G c k (.Call (.Name x p) (e :: es) [] pos) (dCall d a) := fun X U F => by
  obtain ⟨f, fd, hm, hk, hf, hb⟩ := D.ex
  refine ⟨fun pins s σ H Q I h => ?_⟩
  obtain ⟨ρ, ε, S, ev, sr, h⟩ := h
  refine wpAny_Call_Name_kw (ld_glob I (glob_of F hg) (by rw [F.mg]; exact hm) ?_ hdb)
  refine PySem.W.callWith_K (h₀ := X.base) I.ok.mod.kin (by rw [F.K]; exact hk) (thn ((ha X U F).run pos pins s σ H _ I ⟨ρ, ε, S, ev, sr, Rg.bind h⟩) fun us s1 ⟨vs, H1, I1, r, ws, S1, ρ1, e1, s1', r1, h1⟩ => ⟨I1.kIn, ?_⟩) (he _) (hpl _)
  have sp := call_sp h1 s1' r1
  exact run_G F hf hj (args := ⟨us, []⟩) I1 (binds0 hb (by rw [← F.K]; exact I1.kIn) (by rw [← r.length]; exact hf.len _ _ _ _ sp)) r sp
/-- a call without arguments -/
theorem e_call0 {j : Nat} {x : Str} {ps : List Str} {d : List W → M W} {p pos : Pos} (D : Def G j x ps d) (hj : j ≤ k) (hg : c.sc.names.lookup x = some .globalImplicit := by rfl) (hdb : (x == ("__debug__" : Str)) = false := by decide) : EOk G c k (.Call (.Name x p) [] [] pos) (dCall d aNil) := fun X U F => by
  obtain ⟨f, fd, hm, hk, hf, hb⟩ := D.ex
  refine ⟨fun pins s σ H Q I h => ?_⟩
  obtain ⟨ρ, ε, S, ev, sr, h⟩ := h
  refine wpAny_Call_Name_kw (ld_glob I (glob_of F hg) (by rw [F.mg]; exact hm) ?_ hdb)
  have sp : spN G d [] H Q (fun cls dd H' => U cls dd σ H') := ⟨[], S, ρ, .nil, sr, h⟩
  exact PySem.W.callWith_K0 I.kIn (by rw [F.K]; exact hk) (run_G F hf hj (args := ⟨[], []⟩) (us := []) I (binds0 hb (by rw [← F.K]; exact I.kIn) (hf.len _ _ _ _ sp)) .nil sp)
/-- a call with keywords: perm tells the parameters' order: the places among the positional values and then the keywords' -/
def permW {α : Type} (perm : List Nat) (xs : List α) : Option (List α) := perm.mapM fun i => xs[i]?
/-- how a def binds a call: na positional values, the keywords ks; perm: the parameters' places among the positional values, the keywords' and the defaults -/
structure KB (K : PySem.W.Frag) (fd : FuncData) (ps ks : List Str) (na : Nat) (dW : List W) (perm : List Nat) : Prop where
  ex : ∃ (ds : List Value) (dV : List V), (∀ H ρ, VRs K H ρ dW dV) ∧ Vals dV ds ∧ ∀ (s : Shared) (us ws zs : List Value), K.In s.heap → us.length = na → ws.length = ks.length → permW perm (us ++ ws ++ ds) = some zs → BindsTo s fd ⟨us, ks.zip ws⟩ (ps.zip zs)
def dCallK (d : List W → M W) (na nk : Nat) (dW : List W) (perm : List Nat) (a b : DA) : DE := fun ε => a ε >>= fun ws => b ε >>= fun us => fun S => if ws.length = na ∧ us.length = nk then (match permW perm (ws ++ us ++ dW) with
  | some zs => d zs S
  | none => .bad) else .bad
def KOk (G : Top) (c : Ctx) (k : Nat) (kws : List Keyword) (d : DA) : Prop := ∀ X U, Fit G c k X U → PK X kws (tA G U d)
theorem PK.imp {X : Cx} {e : List Keyword} {t t' : TA} (h : PK X e t) (f : ∀ σ H Q, t' σ H Q → t σ H Q) : PK X e t' := ⟨fun p pins s σ H Q I q => h.run p pins s σ H Q I (f _ _ _ q)⟩
theorem k_nil : KOk G c k [] aNil := fun X U F => PK.imp pk_nil fun σ H Q ⟨ρ, ε, S, ev, sr, h⟩ => h H ρ [] Ext.refl sr .nil
theorem k_cons {nm : Option Str} {e : Expr} {kpos : Pos} {kws : List Keyword} {d : DE} {da : DA} (he : EOk G c k e d) (ha : KOk G c k kws da) : KOk G c k (⟨nm, e, kpos⟩ :: kws) (aCons d da) := fun X U F =>
  PK.imp (pk_cons (he X U F) (ha X U F)) fun σ H Q ⟨ρ, ε, S, ev, sr, h⟩ => ⟨ρ, ε, S, ev, sr, (Rg.bind h).mono fun v H1 ⟨w, S1, ρ1, e1, s1, r1, h1⟩ =>
    ⟨ρ1, ε, S1, ev.mono e1, s1, (Rg.bind h1).mono fun vs H2 ⟨ws, S2, ρ2, e2, s2, r2, h2⟩ => Rg.ret (rel := VRs G.K) h2 s2 (.cons (r1.mono e2) r2)⟩⟩
/-- values in another order -/
theorem permW_rel {α β : Type} {P : α → β → Prop} {xs : List α} {ys : List β} (hl : xs.length = ys.length) (h : ∀ (i : Nat) a, xs[i]? = some a → ∃ b, ys[i]? = some b ∧ P a b) : ∀ {perm : List Nat} {zs : List α}, permW perm xs = some zs → ∃ zs', permW perm ys = some zs' ∧ Paired P zs zs' := by
  intro perm
  induction perm with
  | nil =>
    intro zs e
    cases e
    exact ⟨[], rfl, .nil⟩
  | cons i perm ih =>
    intro zs e
    unfold permW at e
    rw [List.mapM_cons] at e
    cases hi : xs[i]? with
    | none => rw [hi] at e; cases e
    | some a =>
      rw [hi] at e
      cases hr : permW perm xs with
      | none =>
        have e' : (do let b ← permW perm xs; some (a :: b)) = some zs := e
        rw [hr] at e'
        cases e'
      | some r =>
        have e' : (do let b ← permW perm xs; some (a :: b)) = some zs := e
        rw [hr] at e'
        cases e'
        obtain ⟨b, hb, p⟩ := h i a hi
        obtain ⟨r', hr', q⟩ := ih hr
        refine ⟨b :: r', ?_, .cons p q⟩
        unfold permW
        rw [List.mapM_cons, hb]
        show (do let b' ← permW perm ys; some (b :: b')) = some (b :: r')
        rw [hr']
        rfl
theorem VRs.of_paired {K : PySem.W.Frag} {H : Hp} {ρ : List Addr} : ∀ {ws : List W} {vs : List V}, Paired (VR K H ρ) ws vs → VRs K H ρ ws vs
  | _, _, .nil => .nil
  | _, _, .cons h t => .cons h (VRs.of_paired t)
theorem vals_of_paired : ∀ {vs : List V} {us : List Value}, Paired RelV vs us → Vals vs us := fun h => h

/-- a def of the text that is called with keywords or defaults -/
structure DefK (G : Top) (k : Nat) (x : Str) (ps : List Str) (d : List W → M W) (ks : List Str) (na : Nat) (dW : List W) (perm : List Nat) : Prop where
  ex : ∃ f fd, G.mg x = some (.ref f) ∧ PySem.W.keepIn G.K (.ref f) = true ∧ FnG G k f fd ps (spN G d) ∧ KB G.K fd ps ks na dW perm
theorem VRs.paired {K : PySem.W.Frag} {H : Hp} {ρ : List Addr} : ∀ {ws : List W} {vs : List V}, VRs K H ρ ws vs → Paired (VR K H ρ) ws vs
  | _, _, .nil => .nil
  | _, _, .cons h t => .cons h (VRs.paired t)
theorem paired_get {α β : Type} {P : α → β → Prop} : ∀ {xs : List α} {ys : List β}, Paired P xs ys → ∀ (i : Nat) a, xs[i]? = some a → ∃ b, ys[i]? = some b ∧ P a b
  | _, _, .nil, i, a, e => by simp at e
  | _, _, .cons r _, 0, a, e => by simp at e; subst e; exact ⟨_, rfl, r⟩
  | _, _, .cons _ t, i + 1, a, e => by
    obtain ⟨b, h1, h2⟩ := paired_get t i a (by simpa using e)
    exact ⟨b, by simpa using h1, h2⟩
theorem run_K {X : Cx} {U : WX} (F : Fit G c k X U) {j : Nat} {f : Addr} {fd : FuncData} {ps ks : List Str} {na : Nat} {dW : List W} {perm : List Nat} {d : List W → M W} (hf : FnG G j f fd ps (spN G d)) (hj : j ≤ k) (hb : KB G.K fd ps ks na dW perm)
    {pins : List (Addr × Obj)} {σ : L2.St} {H : Hp} {ρ : List Addr} {S : Store} {s : Shared} {Q : VK} {ws us : List W} {vs zs : List V} {uv uz : List Value} (I : Inv X pins σ H s) (sr : SR G H ρ S) (r1 : VRs G.K H ρ ws vs) (r2 : VRs G.K H ρ us zs) (v1 : Vals vs uv) (v2 : Vals zs uz)
    (h : Rg G U σ (VR G.K) ((fun S => if ws.length = na ∧ us.length = ks.length then (match permW perm (ws ++ us ++ dW) with | some zs => d zs S | none => .bad) else .bad : M W) S) H ρ Q) :
    wpAny (model X.prog X.w) X.A (call (.ref f) uv (ks.zip uz)) (EP X pins σ Q) X.xe s := by
  obtain ⟨ds, dV, rd, vd, to⟩ := hb.ex
  by_cases hl : ws.length = na ∧ us.length = ks.length
  · simp only [if_pos hl] at h
    cases hp : permW perm (ws ++ us ++ dW) with
    | none => simp only [hp] at h; exact h.elim
    | some z =>
      simp only [hp] at h
      have ra := (r1.append r2).append (rd H ρ)
      have va := (v1.append v2).append vd
      obtain ⟨zv, e1, p1⟩ := permW_rel ra.length (paired_get ra.paired) hp
      obtain ⟨zu, e2, p2⟩ := permW_rel va.length (paired_get va) e1
      have sp := call_sp h sr (VRs.of_paired p1)
      have b := to s uv uz zu (by rw [← F.K]; exact I.kIn) (by rw [← v1.length, ← r1.length]; exact hl.1) (by rw [← v2.length, ← r2.length]; exact hl.2) e2
      exact run_G F hf hj (args := ⟨uv, ks.zip uz⟩) I b p2 sp
  · simp only [if_neg hl] at h
    exact h.elim
theorem e_callK {j : Nat} {x : Str} {ps ks : List Str} {na : Nat} {dW : List W} {perm : List Nat} {d : List W → M W} {e : Expr} {es : List Expr} {kws : List Keyword} {a b : DA} {p pos : Pos} (D : DefK G j x ps d ks na dW perm) (hj : j ≤ k) (ha : AOk G c k (e :: es) a) (hkw : KOk G c k kws b) (hg : c.sc.names.lookup x = some .globalImplicit := by rfl)
    (hall : ∀ env, (backToKw pos (keywordEach kws env)).all (·.1.isSome) = true := by intro _; rfl) (hks : ∀ env, (backToKw pos (keywordEach kws env)).filterMap (·.1) = ks := by intro _; rfl)
    (hdb : (x == ("__debug__" : Str)) = false := by decide) (he : ∀ env, starEach (e :: es) env = (false, eval e env) :: starEach es env := by intro _; rfl)
    (hpl : ∀ env, ((backTo pos (starEach (e :: es) env)).any (·.1) || (backToKw pos (keywordEach kws env)).any (·.1.isNone)) = false := by intro _; rfl) : EOk G c k (.Call (.Name x p) (e :: es) kws pos) (dCallK d na ks.length dW perm a b) := fun X U F => by
  obtain ⟨f, fd, hm, hk, hf, hb⟩ := D.ex
  refine ⟨fun pins s σ H Q I h => ?_⟩
  obtain ⟨ρ, ε, S, ev, sr, h⟩ := h
  refine wpAny_Call_Name_kw (ld_glob I (glob_of F hg) (by rw [F.mg]; exact hm) ?_ hdb)
  refine PySem.W.callWith_KW (h₀ := X.base) I.ok.mod.kin (by rw [F.K]; exact hk) (hall _) (thn ((ha X U F).run pos pins s σ H _ I ⟨ρ, ε, S, ev, sr, Rg.bind h⟩) fun us s1 ⟨vs, H1, I1, r, ws, S1, ρ1, e1, s1', r1, q1⟩ => ?_) (hpl _) (he _)
  refine thn ((hkw X U F).run pos pins s1 σ H1 _ I1 ⟨ρ1, ε, S1, ev.mono e1, s1', Rg.bind q1⟩) fun uz s2 ⟨zs, H2, I2, rz, us', S2, ρ2, e2, s2', r2, q2⟩ => ⟨I2.kIn, ?_⟩
  rw [hks]
  exact run_K F hf hj hb I2 s2' (r1.mono e2) r2 r rz q2
theorem e_callK0 {j : Nat} {x : Str} {ps ks : List Str} {dW : List W} {perm : List Nat} {d : List W → M W} {kws : List Keyword} {b : DA} {p pos : Pos} (D : DefK G j x ps d ks 0 dW perm) (hj : j ≤ k) (hkw : KOk G c k kws b) (hg : c.sc.names.lookup x = some .globalImplicit := by rfl)
    (hall : ∀ env, (backToKw pos (keywordEach kws env)).all (·.1.isSome) = true := by intro _; rfl) (hks : ∀ env, (backToKw pos (keywordEach kws env)).filterMap (·.1) = ks := by intro _; rfl)
    (hdb : (x == ("__debug__" : Str)) = false := by decide)
    (hpl : ∀ env, ((backTo pos (starEach [] env)).any (·.1) || (backToKw pos (keywordEach kws env)).any (·.1.isNone)) = false := by intro _; rfl) : EOk G c k (.Call (.Name x p) [] kws pos) (dCallK d 0 ks.length dW perm aNil b) := fun X U F => by
  obtain ⟨f, fd, hm, hk, hf, hb⟩ := D.ex
  refine ⟨fun pins s σ H Q I h => ?_⟩
  obtain ⟨ρ, ε, S, ev, sr, h⟩ := h
  refine wpAny_Call_Name_kw (ld_glob I (glob_of F hg) (by rw [F.mg]; exact hm) ?_ hdb)
  refine PySem.W.callWith_KW0 (h₀ := X.base) I.ok.mod.kin (by rw [F.K]; exact hk) (hall _) ?_ (hpl _)
  have h' : Rg G U σ (VR G.K) ((b ε >>= fun us => fun S => if ([] : List W).length = 0 ∧ us.length = ks.length then (match permW perm ([] ++ us ++ dW) with | some zs => d zs S | none => .bad) else .bad) S) H ρ Q := h
  refine thn ((hkw X U F).run pos pins s σ H _ I ⟨ρ, ε, S, ev, sr, Rg.bind h'⟩) fun uz s2 ⟨zs, H2, I2, rz, us', S2, ρ2, e2, s2', r2, q2⟩ => ⟨I2.kIn, ?_⟩
  rw [hks]
  exact run_K F hf hj hb I2 s2' .nil r2 (vs := []) (uv := []) .nil rz q2

end
/-! ### what a law's text gives -/
/-- a def of the module, by its statement -/
structure Mdef (G : Top) (x : Str) (st : Stmt) : Prop where
  ex : ∃ f fd, G.mg x = some (.ref f) ∧ PySem.W.keepIn G.K (.ref f) = true ∧ FunX G.K x x st f fd ∧ fd.defaults = .none
/-- .. with defaults -/
structure MdefD (G : Top) (x : Str) (st : Stmt) (its : List Value) : Prop where
  ex : ∃ f fd T o n, G.mg x = some (.ref f) ∧ PySem.W.keepIn G.K (.ref f) = true ∧ FunX G.K x x st f fd ∧ fd.defaults = .ref T ∧ G.K.lookup T = some o ∧ o.data = .seq its.toArray n
section
variable {G : Top}
theorem def_mk {x : Str} {st : Stmt} {N ps : List Str} {k n : Nat} {d : DS} (D : Mdef G x st) (S : FnScope N ps (defScope st)) (hn : ps.length = n) (hb : SsOk G ⟨N, defScope st, fun _ => true⟩ k (defBody st) d)
    (bind : ∀ (kV doc pm : Value) (an : Option Addr) (cdv ct : Value) (us : List Value), us.length = ps.length → bindArgs (PySem.W.fnOf x x (defArgs st) (defBody st) (defScope st) .none kV doc pm an cdv ct) ⟨us, []⟩ = pure (ps.zip us)) : Def G (k + 1) x ps (dfn N.length n d) := by
  obtain ⟨f, fd, h1, h2, F, hd⟩ := D.ex
  have hf := fn_ok F S hn hb
  obtain ⟨oc, od, dV, kV, doc, pm, an, cdv, ct, osl, rfl, lk, hcd⟩ := F.ex
  obtain rfl : dV = .none := hd
  exact ⟨f, _, h1, h2, hf, .all (bind kV doc pm an cdv ct)⟩
/-- a def that is never called so deep -/
theorem def_bad {x : Str} {st : Stmt} {ps : List Str} {k : Nat} (D : Mdef G x st) (bind : ∀ (kV doc pm : Value) (an : Option Addr) (cdv ct : Value) (us : List Value), us.length = ps.length → bindArgs (PySem.W.fnOf x x (defArgs st) (defBody st) (defScope st) .none kV doc pm an cdv ct) ⟨us, []⟩ = pure (ps.zip us)) : Def G k x ps (fun _ => bad) := by
  obtain ⟨f, fd, h1, h2, F, hd⟩ := D.ex
  obtain ⟨oc, od, dV, kV, doc, pm, an, cdv, ct, osl, rfl, lk, hcd⟩ := F.ex
  obtain rfl : dV = .none := hd
  refine ⟨f, _, h1, h2, ⟨fun vs H Q E h => ?_, fun A outer s H args us vs Q E hr hgd e0 bd r h => ?_⟩, .all (bind kV doc pm an cdv ct)⟩
  · obtain ⟨ws, S, ρ, h1, h2, h3⟩ := h
    exact h3.elim
  · obtain ⟨ws, S, ρ, h1, h2, h3⟩ := h
    exact h3.elim
/-- the same def called with keywords -/
theorem defK_mk {x : Str} {st : Stmt} {N ps ks : List Str} {k n na : Nat} {perm : List Nat} {d : DS} (D : Mdef G x st) (S : FnScope N ps (defScope st)) (hn : ps.length = n) (hb : SsOk G ⟨N, defScope st, fun _ => true⟩ k (defBody st) d)
    (bind : ∀ (kV doc pm : Value) (an : Option Addr) (cdv ct : Value) (us ws zs : List Value), us.length = na → ws.length = ks.length → permW perm (us ++ ws ++ []) = some zs → bindArgs (PySem.W.fnOf x x (defArgs st) (defBody st) (defScope st) .none kV doc pm an cdv ct) ⟨us, ks.zip ws⟩ = pure (ps.zip zs)) : DefK G (k + 1) x ps (dfn N.length n d) ks na [] perm := by
  obtain ⟨f, fd, h1, h2, F, hd⟩ := D.ex
  have hf := fn_ok F S hn hb
  obtain ⟨oc, od, dV, kV, doc, pm, an, cdv, ct, osl, rfl, lk, hcd⟩ := F.ex
  obtain rfl : dV = .none := hd
  exact ⟨f, _, h1, h2, hf, ⟨[], [], fun _ _ => .nil, .nil, fun s us ws zs _ l1 l2 e => .of_eq (bind kV doc pm an cdv ct us ws zs l1 l2 e)⟩⟩
/-- a def whose defaults are constants -/
theorem defD_mk {x : Str} {st : Stmt} {N ps ks : List Str} {k n na : Nat} {perm : List Nat} {d : DS} {its : List Value} {dV : List V} {dW : List W} (D : MdefD G x st its) (S : FnScope N ps (defScope st)) (hn : ps.length = n) (hb : SsOk G ⟨N, defScope st, fun _ => true⟩ k (defBody st) d)
    (rd : ∀ H ρ, VRs G.K H ρ dW dV) (vd : Vals dV its)
    (bind : ∀ (T : Addr) (kV doc pm : Value) (an : Option Addr) (cdv ct : Value) (us ws zs : List Value), us.length = na → ws.length = ks.length → permW perm (us ++ ws ++ its) = some zs → ∃ k, bindArgs (PySem.W.fnOf x x (defArgs st) (defBody st) (defScope st) (.ref T) kV doc pm an cdv ct) ⟨us, ks.zip ws⟩ = seqItems? (.ref T) >>= k ∧ k (some its.toArray) = pure (ps.zip zs)) : DefK G (k + 1) x ps (dfn N.length n d) ks na dW perm := by
  obtain ⟨f, fd, T, o, m, h1, h2, F, hd, lT, oT⟩ := D.ex
  have hf := fn_ok F S hn hb
  obtain ⟨oc, od, dV', kV, doc, pm, an, cdv, ct, osl, rfl, lk, hcd⟩ := F.ex
  obtain rfl : dV' = .ref T := hd
  refine ⟨f, _, h1, h2, hf, ⟨its, dV, rd, vd, fun s us ws zs inK l1 l2 e => ?_⟩⟩
  obtain ⟨k, e1, e2⟩ := bind T kV doc pm an cdv ct us ws zs l1 l2 e
  refine BindsTo.of_looks fun M => ?_
  rw [e1]
  exact looks_items inK lT oT (.of_pure e2)
variable {c : Ctx} {k : Nat}
theorem e_globS {x z : Str} {pos : Pos} (h : ∃ t, G.mg x = some (.str z t)) (hz : okS z = true := by decide +kernel) (hg : c.sc.names.lookup x = some .globalImplicit := by rfl) (hd : (x == ("__debug__" : Str)) = false := by decide) : EOk G c k (.Name x pos) (dC (.str z)) := by
  obtain ⟨t, h⟩ := h
  exact e_glob (w := .str z) (v := .str z) h (by simp [isC, hz]) ⟨t, rfl⟩ hg hd
theorem e_globI {x : Str} {z : Int} {pos : Pos} (h : ∃ t, G.mg x = some (.int z t)) (hg : c.sc.names.lookup x = some .globalImplicit := by rfl) (hd : (x == ("__debug__" : Str)) = false := by decide) : EOk G c k (.Name x pos) (dC (.int z)) := by
  obtain ⟨t, h⟩ := h
  exact e_glob (w := .int z) (v := .int z) h rfl ⟨t, rfl⟩ hg hd
/-! ### raise of an own class without __init__ -/
structure ExcC (G : Top) (x : Str) (i : Nat) : Prop where
  g : G.mg x = some (.ref (G.cl i))
  q : PySem.W.excIn G.K (G.cl i) [.type "ValueError", .type "Exception", .type "BaseException", .type "object"] "ValueError.__new__" = true
  kp : PySem.W.keepIn G.K (.ref (G.cl i)) = true
  sb : PySem.W.subIn G.K (.ref (G.cl i)) (.type "BaseException") = some true
  ty : PySem.W.typeIn G.K (.ref (G.cl i)) = some (.type "type")
def dRaise (i : Nat) : DS := fun ε S => .exc ⟨i, none⟩ ε S
theorem s_raise {x m : Str} {i j : Nat} {p p2 pos pos2 : Pos} (h : ExcC G x i) (hg : c.sc.names.lookup x = some .globalImplicit := by rfl) (hdb : (x == ("__debug__" : Str)) = false := by decide) : SOk G c k (.Raise (some (.Call (.Name x p) [.Constant (.str m) j p2] [] pos)) none pos2) (dRaise i) := fun X U F =>
  PS.imp (ps_raise F.calm F.tk (pmk_own (C := G.cl i) PySem.F.excBase_ValueError (by rw [F.K]; exact h.q) (by rw [F.mg]; exact h.g) (by rw [F.K]; exact h.kp) (raises_own (by rw [F.K]; exact h.sb) (by rw [F.K]; exact h.ty)) (glob_of F hg) hdb)) fun D σ H ⟨ρ, ε, S, ev, sr, q⟩ =>
    q H ρ σ _ _ Ext.refl sr ev ⟨rfl, rfl⟩
end
end
end N
namespace N
open PySem L2
noncomputable section
/-! ### ints -/
def mulOk (i j : Int) : Bool := decide (i.natAbs.log2 + j.natAbs.log2 < 100000000)
def powOk (i j : Int) : Bool := decide (0 ≤ j ∧ (i.natAbs.log2 + 1) * j.toNat ≤ 100000000)
def divOk (_ j : Int) : Bool := decide (0 < j ∧ j.natAbs.log2 < 9000)
theorem bits_le (i : Int) : Builtin.Int.intBits i ≤ i.natAbs.log2 + 1 := by
  unfold Builtin.Int.intBits
  split <;> omega
theorem mulOk_ok {i j : Int} (h : mulOk i j = true) : IntMulOk i j := by
  unfold IntMulOk
  have h1 := bits_le i
  have h2 := bits_le j
  have h3 : i.natAbs.log2 + j.natAbs.log2 < 100000000 := of_decide_eq_true h
  have e : bitsLine = 134217728 := by decide
  intro z
  have z2 := (Bool.and_eq_true_iff.mp z).2
  have z3 := of_decide_eq_true z2
  rw [e] at z3
  omega
def opAdd : Op2
  | .int i, .int j, S => some (.int (i + j), S)
  | .str x, .str y, S => if x.length + y.length ≤ sizeLine then some (.str (x ++ y), S) else none
  | .ref n, .ref m, S => match S[n]?, S[m]? with
    | some (.lst a), some (.lst b) => if a.length + b.length ≤ sizeLine then some (.ref S.length, S ++ [.lst (a ++ b)]) else none
    | _, _ => none
  | _, _, _ => none
def opSub : Op2
  | .int i, .int j, S => some (.int (i - j), S)
  | _, _, _ => none
def opMul : Op2
  | .int i, .int j, S => if mulOk i j then some (.int (i * j), S) else none
  | .ref n, .int k, S => match S[n]? with
    | some (.lst a) => if -(2 ^ 63) ≤ k ∧ k < 2 ^ 63 ∧ a.length * k.toNat ≤ sizeLine then some (.ref S.length, S ++ [.lst (List.replicate k.toNat a).flatten]) else none
    | _ => none
  | _, _, _ => none
def opFdiv : Op2
  | .int i, .int j, S => if divOk i j then some (.int (i / j), S) else none
  | _, _, _ => none
def opMod : Op2
  | .int i, .int j, S => if 0 < j then some (.int (i % j), S) else none
  | _, _, _ => none
def opPow : Op2
  | .int i, .int j, S => if powOk i j then some (.int (i ^ j.toNat), S) else none
  | _, _, _ => none
def opNeg : Op1
  | .int i, S => some (.int (-i), S)
  | _, _ => none
section
variable {G : Top} {c : Ctx} {k : Nat}
/-- the store as it was, a flat value -/
theorem Wish.flat {H : Hp} {ρ : List Addr} {S : Store} {w : W} {v : V} {Q : VK} (h : Wish G H ρ w S Q) (sr : SR G H ρ S) (r : VR G.K H ρ w v) : Q v H := h H ρ v Ext.refl sr r
theorem Wish.list {H : Hp} {ρ : List Addr} {S : Store} {ws : List W} {vs : List V} {Q : VK} (h : Wish G H ρ (.ref S.length) (S ++ [.lst ws]) Q) (sr : SR G H ρ S) (r : VRs G.K H ρ ws vs) {p : Addr} (hp : H p = none) : Q (.ref p) (upd H p (.lst vs)) := by
  have e : Ext G.K H ρ (upd H p (.lst vs)) (ρ ++ [p]) := Ext.snoc hp
  refine h _ _ _ e (sr.snoc hp ⟨vs, upd_same, r.mono e⟩) (.ref ?_)
  rw [← sr.len, List.getElem?_append_right (Nat.le_refl _)]
  simp
theorem Wish.tup {H : Hp} {ρ : List Addr} {S : Store} {ws : List W} {vs : List V} {Q : VK} (h : Wish G H ρ (.tup ws) S Q) (sr : SR G H ρ S) (r : VRs G.K H ρ ws vs) {p : Addr} (hp : H p = none) : Q (.ref p) (upd H p (.tup vs)) :=
  h _ _ _ (Ext.fresh hp) (sr.fresh hp) (.tup (.of upd_same) (r.mono (Ext.fresh hp)))
/-- the list at a reference -/
theorem VR.lst {H : Hp} {ρ : List Addr} {S : Store} {n : Nat} {v : V} {ws : List W} (r : VR G.K H ρ (.ref n) v) (sr : SR G H ρ S) (h : S[n]? = some (.lst ws)) : ∃ a vs, v = .ref a ∧ ρ[n]? = some a ∧ H a = some (.lst vs) ∧ VRs G.K H ρ ws vs := by
  cases r with
  | ref q =>
    obtain ⟨vs, z, t⟩ := sr.ob _ _ _ q h
    exact ⟨_, vs, rfl, q, z, t⟩
theorem okS_append {x y : Str} (hx : okS x = true) (hy : okS y = true) : okS (x ++ y) = true := by
  have e : (x ++ y).cps.toList = x.cps.toList ++ y.cps.toList := by
    show (x.cps ++ y.cps).toList = _
    simp
  unfold okS at *
  rw [e, List.all_append, hx, hy]
  rfl
theorem opAdd_ok : Op2Ok G (fun x y H Q => (∃ i j, x = .int i ∧ y = .int j ∧ Q (.int (i + j)) H) ∨ (∃ i j, x = .str i ∧ y = .str j ∧ i.length + j.length ≤ sizeLine ∧ Q (.str (i ++ j)) H) ∨ rCat x y H Q) opAdd := fun H ρ S a b x y w S' Q sr ra rb h q => by
  cases ra with
  | int i =>
    cases rb with
    | int j => cases h; exact .inl ⟨i, j, rfl, rfl, q.flat sr (.int _)⟩
    | _ => cases h
  | str hi =>
    cases rb with
    | str hj =>
      simp only [opAdd] at h
      split at h
      · cases h; exact .inr (.inl ⟨_, _, rfl, rfl, by assumption, q.flat sr (.str (okS_append hi hj))⟩)
      · cases h
    | _ => cases h
  | @ref n a hn =>
    cases rb with
    | @ref m b hm =>
      simp only [opAdd] at h
      split at h
      · rename_i l1 l2 e1 e2
        split at h
        · rename_i hz
          cases h
          obtain ⟨vs, z, t⟩ := sr.ob n a _ hn e1
          obtain ⟨us, z', t'⟩ := sr.ob m b _ hm e2
          exact .inr (.inr ⟨a, b, vs, us, rfl, rfl, z, z', by rw [← t.length, ← t'.length]; exact hz, fun p hp => q.list sr (t.append t') hp⟩)
        · cases h
      · cases h
    | _ => cases h
  | _ => cases h
theorem e_add {a b : Expr} {d e : DE} {pos : Pos} (ha : EOk G c k a d) (hb : EOk G c k b e) : EOk G c k (.BinOp a .Add b pos) (dOp opAdd d e) := e_bin (fun X U F => (op_add).or ((op_add_str).or op_cat)) opAdd_ok ha hb
theorem int2 {op : Op2} {C : Int → Int → Prop} {g : Int → Int → Int} (h : ∀ a b S w S', op a b S = some (w, S') → ∃ i j, a = .int i ∧ b = .int j ∧ C i j ∧ w = .int (g i j) ∧ S' = S) : Op2Ok G (rI C fun i j => .int (g i j)) op := fun H ρ S a b x y w S' Q sr ra rb e q => by
  obtain ⟨i, j, rfl, rfl, hc, rfl, rfl⟩ := h _ _ _ _ _ e
  cases ra
  cases rb
  exact ⟨i, j, rfl, rfl, hc, q.flat sr (.int _)⟩
theorem e_sub {a b : Expr} {d e : DE} {pos : Pos} (ha : EOk G c k a d) (hb : EOk G c k b e) : EOk G c k (.BinOp a .Sub b pos) (dOp opSub d e) :=
  e_bin (r := rI (fun _ _ => True) fun i j => .int (i - j)) (fun X U F => L2.opI fun _ _ _ _ _ _ _ _ q => PyProof.Rows.sub_int q) (int2 fun a b S w S' h => by
    unfold opSub at h
    split at h
    · cases h; exact ⟨_, _, rfl, rfl, trivial, rfl, rfl⟩
    · cases h) ha hb
theorem e_fdiv {a b : Expr} {d e : DE} {pos : Pos} (ha : EOk G c k a d) (hb : EOk G c k b e) : EOk G c k (.BinOp a .FloorDiv b pos) (dOp opFdiv d e) :=
  e_bin (r := rI CDivW fun i j => .int (i / j)) (fun X U F => op_fdivW) (int2 fun a b S w S' h => by
    unfold opFdiv at h
    split at h
    · split at h
      · rename_i hd
        cases h; exact ⟨_, _, rfl, rfl, by have z := of_decide_eq_true hd; exact z, rfl, rfl⟩
      · cases h
    · cases h) ha hb
theorem e_mod {a b : Expr} {d e : DE} {pos : Pos} (ha : EOk G c k a d) (hb : EOk G c k b e) : EOk G c k (.BinOp a .Mod b pos) (dOp opMod d e) :=
  e_bin (r := rI (fun _ j => 0 < j) fun i j => .int (i % j)) (fun X U F => op_mod) (int2 fun a b S w S' h => by
    unfold opMod at h
    split at h
    · split at h
      · cases h; exact ⟨_, _, rfl, rfl, by assumption, rfl, rfl⟩
      · cases h
    · cases h) ha hb
theorem e_pow {a b : Expr} {d e : DE} {pos : Pos} (ha : EOk G c k a d) (hb : EOk G c k b e) : EOk G c k (.BinOp a .Pow b pos) (dOp opPow d e) :=
  e_bin (r := rI (fun i j => powOk i j = true) fun i j => .int (i ^ j.toNat)) (fun X U F => L2.opI fun i j _ _ _ _ _ hc q => by
    have h := of_decide_eq_true hc
    have hb := bits_le i
    refine PyProof.Rows.pow_int h.1 ?_ q
    have e : (j.toNat : Int) = j := Int.toNat_of_nonneg h.1
    have h1 : Builtin.Int.intBits i * j.toNat ≤ (i.natAbs.log2 + 1) * j.toNat := Nat.mul_le_mul_right _ hb
    have h2 : Builtin.Int.intBits i * j.toNat ≤ 134217728 := Nat.le_trans h1 (Nat.le_trans h.2 (by omega))
    have h3 : ((Builtin.Int.intBits i * j.toNat : Nat) : Int) ≤ 134217728 := by omega
    rw [Int.natCast_mul, e] at h3
    have e2 : (2 : Int) ^ 27 = 134217728 := by decide
    rw [e2]
    exact h3) (int2 fun a b S w S' h => by
    unfold opPow at h
    split at h
    · split at h
      · cases h; exact ⟨_, _, rfl, rfl, by assumption, rfl, rfl⟩
      · cases h
    · cases h) ha hb
theorem opMul_ok : Op2Ok G (fun x y H Q => rI (fun i j => mulOk i j = true) (fun i j => .int (i * j)) x y H Q ∨ rRep x y H Q) opMul := fun H ρ S a b x y w S' Q sr ra rb h q => by
  cases ra with
  | int i =>
    cases rb with
    | int j =>
      simp only [opMul] at h
      split at h
      · cases h; exact .inl ⟨i, j, rfl, rfl, by assumption, q.flat sr (.int _)⟩
      · cases h
    | _ => cases h
  | @ref n a hn =>
    cases rb with
    | int j =>
      simp only [opMul] at h
      split at h
      · rename_i l1 e1
        split at h
        · rename_i hz
          cases h
          obtain ⟨vs, z, t⟩ := sr.ob n a _ hn e1
          refine .inr ⟨a, j, vs, rfl, rfl, z, hz.1, hz.2.1, by rw [← t.length]; exact hz.2.2, fun p hp => q.list sr ?_ hp⟩
          have : ∀ m : Nat, VRs G.K H ρ (List.replicate m l1).flatten (List.replicate m vs).flatten := fun m => by
            induction m with
            | zero => exact .nil
            | succ m ih => rw [List.replicate_succ, List.replicate_succ, List.flatten_cons, List.flatten_cons]; exact t.append ih
          exact this _
        · cases h
      · cases h
    | _ => cases h
  | _ => cases h
theorem e_mul {a b : Expr} {d e : DE} {pos : Pos} (ha : EOk G c k a d) (hb : EOk G c k b e) : EOk G c k (.BinOp a .Mult b pos) (dOp opMul d e) :=
  e_bin (fun X U F => OpR.or (L2.opI fun _ _ _ _ _ _ _ hc q => PyProof.Rows.mul_int q (mulOk_ok hc)) op_rep) opMul_ok ha hb
theorem e_neg {a : Expr} {d : DE} {pos : Pos} (ha : EOk G c k a d) : EOk G c k (.UnaryOp .USub a pos) (dUn opNeg d) :=
  e_un (fun X U F => un_neg) (fun H ρ S a x w S' Q sr ra h q => by
    cases ra with
    | int i => cases h; exact ⟨i, rfl, q.flat sr (.int _)⟩
    | _ => cases h) ha
/-! ### order -/
def opCmp (p : Int → Int → Bool) (q : List Nat → List Nat → Bool) : Op2
  | .int i, .int j, S => some (.bl (p i j), S)
  | .str x, .str y, S => some (.bl (q x.cps.toList y.cps.toList), S)
  | _, _, _ => none
abbrev opLt : Op2 := opCmp (fun i j => decide (i < j)) fun x y => decide (x < y)
abbrev opLe : Op2 := opCmp (fun i j => decide (i ≤ j)) fun x y => !decide (y < x)
abbrev opGt : Op2 := opCmp (fun i j => decide (j < i)) fun x y => decide (y < x)
abbrev opGe : Op2 := opCmp (fun i j => decide (j ≤ i)) fun x y => !decide (x < y)
theorem opCmp_ok {p : Int → Int → Bool} {q : List Nat → List Nat → Bool} : Op2Ok G (fun x y H Q => (∃ i j, x = .int i ∧ y = .int j ∧ Q (.bl (p i j)) H) ∨ (∃ i j, x = .str i ∧ y = .str j ∧ Q (.bl (q i.cps.toList j.cps.toList)) H)) (opCmp p q) := fun H ρ S a b x y w S' Q sr ra rb h z => by
  cases ra with
  | int i =>
    cases rb with
    | int j => cases h; exact .inl ⟨i, j, rfl, rfl, z.flat sr (.bl _)⟩
    | _ => cases h
  | str hi =>
    cases rb with
    | str hj => cases h; exact .inr ⟨_, _, rfl, rfl, z.flat sr (.bl _)⟩
    | _ => cases h
  | _ => cases h
theorem r_lt : ∀ X W, Fit G c k X W → OpR X (compareOp .Lt) (fun x y H Q => (∃ i j, x = .int i ∧ y = .int j ∧ Q (.bl (decide (i < j))) H) ∨ (∃ i j, x = .str i ∧ y = .str j ∧ Q (.bl (decide (i.cps.toList < j.cps.toList))) H)) := fun X W F => op_lt.or op_lt_str
theorem r_le : ∀ X W, Fit G c k X W → OpR X (compareOp .LtE) (fun x y H Q => (∃ i j, x = .int i ∧ y = .int j ∧ Q (.bl (decide (i ≤ j))) H) ∨ (∃ i j, x = .str i ∧ y = .str j ∧ Q (.bl (!decide (j.cps.toList < i.cps.toList))) H)) := fun X W F => op_le.or op_le_str
theorem r_gt : ∀ X W, Fit G c k X W → OpR X (compareOp .Gt) (fun x y H Q => (∃ i j, x = .int i ∧ y = .int j ∧ Q (.bl (decide (j < i))) H) ∨ (∃ i j, x = .str i ∧ y = .str j ∧ Q (.bl (decide (j.cps.toList < i.cps.toList))) H)) := fun X W F => op_gt.or op_gt_str
theorem r_ge : ∀ X W, Fit G c k X W → OpR X (compareOp .GtE) (fun x y H Q => (∃ i j, x = .int i ∧ y = .int j ∧ Q (.bl (decide (j ≤ i))) H) ∨ (∃ i j, x = .str i ∧ y = .str j ∧ Q (.bl (!decide (i.cps.toList < j.cps.toList))) H)) := fun X W F => op_ge.or op_ge_str
theorem o_lt : Op2Ok G (fun x y H Q => (∃ i j, x = .int i ∧ y = .int j ∧ Q (.bl (decide (i < j))) H) ∨ (∃ i j, x = .str i ∧ y = .str j ∧ Q (.bl (decide (i.cps.toList < j.cps.toList))) H)) opLt := opCmp_ok
theorem o_le : Op2Ok G (fun x y H Q => (∃ i j, x = .int i ∧ y = .int j ∧ Q (.bl (decide (i ≤ j))) H) ∨ (∃ i j, x = .str i ∧ y = .str j ∧ Q (.bl (!decide (j.cps.toList < i.cps.toList))) H)) opLe := opCmp_ok
theorem o_gt : Op2Ok G (fun x y H Q => (∃ i j, x = .int i ∧ y = .int j ∧ Q (.bl (decide (j < i))) H) ∨ (∃ i j, x = .str i ∧ y = .str j ∧ Q (.bl (decide (j.cps.toList < i.cps.toList))) H)) opGt := opCmp_ok
theorem o_ge : Op2Ok G (fun x y H Q => (∃ i j, x = .int i ∧ y = .int j ∧ Q (.bl (decide (j ≤ i))) H) ∨ (∃ i j, x = .str i ∧ y = .str j ∧ Q (.bl (!decide (i.cps.toList < j.cps.toList))) H)) opGe := opCmp_ok
end
end
end N
namespace N
open PySem L2
noncomputable section
/-! ### what a value reads as -/
def mapO {α β : Type} (f : α → Option β) : List α → Option (List β)
  | [] => some []
  | x :: xs => match f x, mapO f xs with
    | some y, some ys => some (y :: ys)
    | _, _ => none
def toD (S : Store) : Nat → W → Option PyData
  | 0, _ => none
  | _ + 1, .non => some .none
  | _ + 1, .bl b => some (.bool b)
  | _ + 1, .int i => some (.int i)
  | _ + 1, .str x => some (.str x)
  | n + 1, .tup ws => (mapO (toD S n) ws).map .tuple
  | n + 1, .rl ws => (mapO (toD S n) ws).map .list
  | n + 1, .ref m => match S[m]? with
    | some (.lst ws) => (mapO (toD S n) ws).map .list
    | _ => none
theorem okS_strOk {x : Str} (h : okS x = true) : PyData.strOk x = true := by
  unfold okS at h
  unfold PyData.strOk
  rw [← Array.all_toList]
  exact h
section
variable {G : Top} {c : Ctx} {k : Nat}
theorem toD_ok {H : Hp} {ρ : List Addr} {S : Store} (sr : SR G H ρ S) : ∀ (n : Nat) {w : W} {v : V} {d : PyData}, VR G.K H ρ w v → toD S n w = some d → Dp G.K H v d ∧ d.canLay0 = true ∧ d.depth ≤ n
  | 0, w, v, d, r, e => by simp [toD] at e
  | n + 1, w, v, d, r, e => by
    have all : ∀ {ws : List W} {vs : List V} {ds : List PyData}, VRs G.K H ρ ws vs → mapO (toD S n) ws = some ds → DpAll G.K H vs ds ∧ PyData.canLayAll0 ds = true ∧ PyData.depthAll ds ≤ n := by
      intro ws
      induction ws with
      | nil =>
        intro vs ds r e
        cases r
        cases e
        exact ⟨.nil, rfl, by rw [PyData.depthAll]; omega⟩
      | cons w ws ih =>
        intro vs ds r e
        cases r with
        | cons r rs =>
          unfold mapO at e
          cases h1 : toD S n w with
          | none => simp [h1] at e
          | some d1 =>
            cases h2 : mapO (toD S n) ws with
            | none => simp [h1, h2] at e
            | some ds1 =>
              simp only [h1, h2, Option.some.injEq] at e
              subst e
              obtain ⟨a1, b1, c1⟩ := toD_ok sr n r h1
              obtain ⟨a2, b2, c2⟩ := ih rs h2
              refine ⟨.cons a1 a2, by simp [PyData.canLayAll0, b1, b2], ?_⟩
              rw [PyData.depthAll]
              omega
    cases r with
    | non => cases e; exact ⟨.non, rfl, by rw [PyData.depth]; omega⟩
    | bl b => cases e; exact ⟨.bl b, rfl, by rw [PyData.depth]; omega⟩
    | int i => cases e; exact ⟨.int i, rfl, by rw [PyData.depth]; omega⟩
    | str hx => cases e; exact ⟨.str _, by rw [PyData.canLay0]; exact okS_strOk hx, by rw [PyData.depth]; omega⟩
    | @tup ws a vs q t =>
      rw [toD] at e
      cases h : mapO (toD S n) ws with
      | none => rw [h] at e; cases e
      | some ds =>
        rw [h] at e
        cases e
        obtain ⟨x, y, z⟩ := all t h
        exact ⟨.tup q x, by rw [PyData.canLay0]; exact y, by rw [PyData.depth]; omega⟩
    | @rl ws a vs q t =>
      rw [toD] at e
      cases h : mapO (toD S n) ws with
      | none => rw [h] at e; cases e
      | some ds =>
        rw [h] at e
        cases e
        obtain ⟨x, y, z⟩ := all t h
        exact ⟨.lst q.sq x, by rw [PyData.canLay0]; exact y, by rw [PyData.depth]; omega⟩
    | @ref m a q =>
      rw [toD] at e
      cases ho : S[m]? with
      | none => rw [ho] at e; cases e
      | some o =>
        rw [ho] at e
        have ob := sr.ob m a o q ho
        cases o with
        | lst ws =>
          obtain ⟨vs, z, t⟩ := ob
          cases h : mapO (toD S n) ws with
          | none => simp only [h] at e; cases e
          | some ds =>
            simp only [h, Option.map_some, Option.some.injEq] at e
            cases e
            obtain ⟨x, y, z'⟩ := all t h
            exact ⟨.lst (.of z) x, by rw [PyData.canLay0]; exact y, by rw [PyData.depth]; omega⟩
        | dct kvs => cases e
        | ins c fs => cases e
/-- how deep data may lie -/
abbrev deep : Nat := 50
theorem toD_shaped {H : Hp} {ρ : List Addr} {S : Store} (sr : SR G H ρ S) {w : W} {v : V} {d : PyData} (r : VR G.K H ρ w v) (e : toD S deep w = some d) : Dp G.K H v d ∧ SeqAt.shaped d = true := by
  obtain ⟨a, b, c⟩ := toD_ok sr deep r e
  refine ⟨a, ?_⟩
  unfold SeqAt.shaped
  rw [b, Bool.true_and]
  exact decide_eq_true (Nat.le_trans c (by decide))
def opEq : Op2 := fun a b S => match toD S deep a, toD S deep b with
  | some d, some e => some (.bl (PyData.eqv d e), S)
  | _, _ => none
def opNe : Op2 := fun a b S => match toD S deep a, toD S deep b with
  | some d, some e => some (.bl (!PyData.eqv d e), S)
  | _, _ => none
theorem r_eq : ∀ X W, Fit G c k X W → OpR X (compareOp .Eq) (rEqD G.K) := fun X W F => by rw [← F.K]; exact op_eqD F.room.units
theorem r_ne : ∀ X W, Fit G c k X W → OpR X (compareOp .NotEq) (rNeD G.K) := fun X W F => by rw [← F.K]; exact op_neD F.room.units
theorem o_eq : Op2Ok G (rEqD G.K) opEq := fun H ρ S a b x y w S' Q sr ra rb h q => by
  unfold opEq at h
  split at h
  · rename_i d e hd he
    cases h
    obtain ⟨d1, d2⟩ := toD_shaped sr ra hd
    obtain ⟨e1, e2⟩ := toD_shaped sr rb he
    exact ⟨d, e, d1, e1, d2, e2, q.flat sr (.bl _)⟩
  · cases h
theorem o_ne : Op2Ok G (rNeD G.K) opNe := fun H ρ S a b x y w S' Q sr ra rb h q => by
  unfold opNe at h
  split at h
  · rename_i d e hd he
    cases h
    obtain ⟨d1, d2⟩ := toD_shaped sr ra hd
    obtain ⟨e1, e2⟩ := toD_shaped sr rb he
    exact ⟨d, e, d1, e1, d2, e2, q.flat sr (.bl _)⟩
  · cases h
/-! ### is None, is True -/
def isNon : W → Bool
  | .non => true
  | _ => false
def opIsN : Op2 := fun a b S => match b with
  | .non => some (.bl (isNon a), S)
  | _ => none
def opNotN : Op2 := fun a b S => match b with
  | .non => some (.bl (!isNon a), S)
  | _ => none
theorem isN_dec {H : Hp} {ρ : List Addr} {a : W} {x : V} (r : VR G.K H ρ a x) : decide (x = .non) = isNon a := by
  cases r <;> rfl
theorem r_isN : ∀ X W, Fit G c k X W → OpR X (compareOp .Is) (fun x y H Q => y = .non ∧ Q (.bl (decide (x = .non))) H) := fun X W F => op_isN
theorem r_notN : ∀ X W, Fit G c k X W → OpR X (compareOp .IsNot) (fun x y H Q => y = .non ∧ Q (.bl (!decide (x = .non))) H) := fun X W F => op_notN
theorem o_isN : Op2Ok G (fun x y H Q => y = .non ∧ Q (.bl (decide (x = .non))) H) opIsN := fun H ρ S a b x y w S' Q sr ra rb h q => by
  unfold opIsN at h
  split at h
  · cases rb
    cases h
    refine ⟨rfl, ?_⟩
    rw [isN_dec ra]
    exact q.flat sr (.bl _)
  · cases h
theorem o_notN : Op2Ok G (fun x y H Q => y = .non ∧ Q (.bl (!decide (x = .non))) H) opNotN := fun H ρ S a b x y w S' Q sr ra rb h q => by
  unfold opNotN at h
  split at h
  · cases rb
    cases h
    refine ⟨rfl, ?_⟩
    rw [isN_dec ra]
    exact q.flat sr (.bl _)
  · cases h
/-! ### in -/
def inStr (x y : Str) : Bool := !(Builtin.Str.occurrences y x 0 y.length 1).isEmpty
def inW (a b : W) (S : Store) : Option Bool := match a, b with
  | .str x, .str y => match x with
    | ⟨⟨[c]⟩⟩ => some (decide (c ∈ y.cps.toList))
    | _ => some (inStr x y)
  | a, b => match toD S deep a, toD S deep b with
    | some d, some (.list ds) => some (ds.any fun z => PyData.eqv z d)
    | _, _ => none
def opIn : Op2 := fun a b S => (inW a b S).map fun z => (.bl z, S)
def opNotIn : Op2 := fun a b S => (inW a b S).map fun z => (.bl (!z), S)
theorem r_in : ∀ X W, Fit G c k X W → OpR X (compareOp .In) (fun x y H Q => (∃ (c : Nat) (z : Str), x = .str ⟨#[c]⟩ ∧ y = .str z ∧ Q (.bl (decide (c ∈ z.cps.toList))) H) ∨ (∃ i j, x = .str i ∧ y = .str j ∧ Q (.bl (inStr i j)) H) ∨ rInD G.K x y H Q) := fun X W F => by
  rw [← F.K]
  exact op_in_sign.or (op_in_str.or (op_inD (by have := F.room.un; omega)))
theorem r_notIn : ∀ X W, Fit G c k X W → OpR X (compareOp .NotIn) (fun x y H Q => (∃ (c : Nat) (z : Str), x = .str ⟨#[c]⟩ ∧ y = .str z ∧ Q (.bl (!decide (c ∈ z.cps.toList))) H) ∨ (∃ i j, x = .str i ∧ y = .str j ∧ Q (.bl (!inStr i j)) H) ∨ rNotInD G.K x y H Q) := fun X W F => by
  rw [← F.K]
  exact op_notIn_sign.or (op_notIn_str.or (op_notInD (by have := F.room.un; omega)))
theorem inW_ok {H : Hp} {ρ : List Addr} {S : Store} {a b : W} {x y : V} {z : Bool} (sr : SR G H ρ S) (ra : VR G.K H ρ a x) (rb : VR G.K H ρ b y) (h : inW a b S = some z) :
    (∃ (c : Nat) (s : Str), x = .str ⟨#[c]⟩ ∧ y = .str s ∧ z = decide (c ∈ s.cps.toList)) ∨ (∃ i j, x = .str i ∧ y = .str j ∧ z = inStr i j) ∨ ∃ d ds, Dp G.K H x d ∧ Dp G.K H y (.list ds) ∧ SeqAt.shaped d = true ∧ SeqAt.shaped (.list ds) = true ∧ z = ds.any fun z => PyData.eqv z d := by
  unfold inW at h
  split at h
  · rename_i s1 s2
    cases ra
    cases rb
    split at h
    · rename_i ch _
      cases h
      exact .inl ⟨ch, s2, rfl, rfl, rfl⟩
    · cases h
      exact .inr (.inl ⟨_, _, rfl, rfl, rfl⟩)
  · split at h
    · rename_i d ds hd hds
      cases h
      obtain ⟨a1, a2⟩ := toD_shaped sr ra hd
      obtain ⟨b1, b2⟩ := toD_shaped sr rb hds
      exact .inr (.inr ⟨d, ds, a1, b1, a2, b2, rfl⟩)
    · cases h
theorem o_in : Op2Ok G (fun x y H Q => (∃ (c : Nat) (z : Str), x = .str ⟨#[c]⟩ ∧ y = .str z ∧ Q (.bl (decide (c ∈ z.cps.toList))) H) ∨ (∃ i j, x = .str i ∧ y = .str j ∧ Q (.bl (inStr i j)) H) ∨ rInD G.K x y H Q) opIn := fun H ρ S a b x y w S' Q sr ra rb h q => by
  unfold opIn at h
  cases e : inW a b S with
  | none => rw [e] at h; cases h
  | some z =>
    rw [e] at h
    cases h
    rcases inW_ok sr ra rb e with ⟨c, s, rfl, rfl, rfl⟩ | ⟨i, j, rfl, rfl, rfl⟩ | ⟨d, ds, h1, h2, h3, h4, rfl⟩
    · exact .inl ⟨c, s, rfl, rfl, q.flat sr (.bl _)⟩
    · exact .inr (.inl ⟨i, j, rfl, rfl, q.flat sr (.bl _)⟩)
    · exact .inr (.inr ⟨d, ds, h1, h2, h3, h4, q.flat sr (.bl _)⟩)
theorem o_notIn : Op2Ok G (fun x y H Q => (∃ (c : Nat) (z : Str), x = .str ⟨#[c]⟩ ∧ y = .str z ∧ Q (.bl (!decide (c ∈ z.cps.toList))) H) ∨ (∃ i j, x = .str i ∧ y = .str j ∧ Q (.bl (!inStr i j)) H) ∨ rNotInD G.K x y H Q) opNotIn := fun H ρ S a b x y w S' Q sr ra rb h q => by
  unfold opNotIn at h
  cases e : inW a b S with
  | none => rw [e] at h; cases h
  | some z =>
    rw [e] at h
    cases h
    rcases inW_ok sr ra rb e with ⟨c, s, rfl, rfl, rfl⟩ | ⟨i, j, rfl, rfl, rfl⟩ | ⟨d, ds, h1, h2, h3, h4, rfl⟩
    · exact .inl ⟨c, s, rfl, rfl, q.flat sr (.bl _)⟩
    · exact .inr (.inl ⟨i, j, rfl, rfl, q.flat sr (.bl _)⟩)
    · exact .inr (.inr ⟨d, ds, h1, h2, h3, h4, q.flat sr (.bl _)⟩)
/-! ### subscripts and slices -/
def seqW (w : W) (S : Store) : Option (List W) := match w with
  | .tup ws => some ws
  | .rl ws => some ws
  | .ref n => match S[n]? with
    | some (.lst ws) => some ws
    | _ => none
  | _ => none
theorem seqW_ok {H : Hp} {ρ : List Addr} {S : Store} {w : W} {v : V} {ws : List W} (sr : SR G H ρ S) (r : VR G.K H ρ w v) (h : seqW w S = some ws) : ∃ a vs, v = .ref a ∧ VRs G.K H ρ ws vs ∧ (SqL G.K H a vs ∨ SqT G.K H a vs) := by
  unfold seqW at h
  cases r with
  | tup q t => cases h; exact ⟨_, _, rfl, t, .inr q⟩
  | rl q t => cases h; exact ⟨_, _, rfl, t, .inl q.sq⟩
  | @ref n a q =>
    simp only at h
    split at h
    · rename_i e
      cases h
      obtain ⟨vs, z, t⟩ := sr.ob n a _ q e
      exact ⟨_, vs, rfl, t, .inl (.of z)⟩
    · cases h
  | _ => cases h
def opIx : Op2 := fun a i S => match i with
  | .int i => match a with
    | .str x => if x.length ≤ sizeLine then (atI x.cps.toList i).map fun c => (.str ⟨#[c]⟩, S) else none
    | a => (seqW a S).bind fun ws => (atI ws i).map fun w => (w, S)
  | _ => none
theorem VRs.atI {H : Hp} {ρ : List Addr} {ws : List W} {vs : List V} {i : Int} {w : W} (r : VRs G.K H ρ ws vs) (h : L2.atI ws i = some w) : ∃ v, L2.atI vs i = some v ∧ VR G.K H ρ w v := by
  unfold L2.atI at *
  rw [← r.length]
  cases e : ixN ws.length i with
  | none => rw [e] at h; cases h
  | some j =>
    rw [e] at h
    exact r.get h
theorem okS_sign {x : Str} {i : Int} {ch : Nat} (hx : okS x = true) (h : L2.atI x.cps.toList i = some ch) : okS ⟨#[ch]⟩ = true := by
  unfold okS at *
  obtain ⟨j, _, h2, _⟩ := L2.atI_get h
  have := List.all_eq_true.mp hx ch (List.mem_of_getElem? h2)
  simp only [List.all_cons, List.all_nil, Bool.and_true]
  exact this
theorem o_ix : Op2Ok G (rIx G.K) opIx := fun H ρ S a b x y w S' Q sr ra rb h q => by
  unfold opIx at h
  cases rb with
  | int i =>
    simp only at h
    split at h
    · rename_i st
      cases ra with
      | str hx =>
        split at h
        · rename_i hz
          cases e : L2.atI st.cps.toList i with
          | none => rw [e] at h; cases h
          | some ch =>
            rw [e] at h
            cases h
            exact .inr (.inr ⟨st, i, ch, rfl, rfl, hz, e, q.flat sr (.str (okS_sign hx e))⟩)
        · cases h
    · cases e : seqW a S with
      | none => rw [e] at h; cases h
      | some ws =>
        rw [e] at h
        simp only [Option.bind_some] at h
        cases e2 : L2.atI ws i with
        | none => rw [e2] at h; cases h
        | some w1 =>
          rw [e2] at h
          cases h
          obtain ⟨p, vs, rfl, t, hs⟩ := seqW_ok sr ra e
          obtain ⟨v, hv, rv⟩ := t.atI e2
          rcases hs with hs | hs
          · exact .inl ⟨p, vs, i, v, rfl, rfl, hs, hv, q.flat sr rv⟩
          · exact .inr (.inl ⟨p, vs, i, v, rfl, rfl, hs, hv, q.flat sr rv⟩)
  | _ => cases h
theorem e_ix {a b : Expr} {d e : DE} {pos : Pos} (ha : EOk G c k a d) (hb : EOk G c k b e) (hs : PlainIx b := by intro _ _; rfl) : EOk G c k (.Subscript a b pos) (dOp opIx d e) := fun X U F =>
  PE.imp (pe_ix ix_seq (ha X U F) (hb X U F) hs) fun σ H Q q => by rw [F.K]; exact op_imp o_ix q
end
end
end N
namespace N
open PySem L2
noncomputable section
theorem char_lt (ch : Char) : ch.toNat < 1114112 := by
  have := ch.valid
  unfold UInt32.isValidChar Nat.isValidChar at this
  show ch.val.toNat < _
  omega
theorem okS_cps {x : Str} (h : ∀ c ∈ x.cps.toList, c < 1114112) : okS x = true := by
  unfold okS
  rw [List.all_eq_true]
  exact fun c hc => decide_eq_true (h c hc)
theorem okS_mem {x : Str} (h : okS x = true) : ∀ c ∈ x.cps.toList, c < 1114112 := fun c hc => by
  unfold okS at h
  exact of_decide_eq_true (List.all_eq_true.mp h c hc)
theorem okS_of (s : String) : okS (Str.ofString s) = true := okS_cps fun c hc => by
  rw [Str.ofString_eq_toList] at hc
  simp only [List.mem_map] at hc
  obtain ⟨ch, _, rfl⟩ := hc
  exact char_lt ch
theorem digits_lt (n : Nat) : ∀ d ∈ (Nat.toDigits 16 n).map Char.toNat, d < 1114112 := fun d hd => by
  obtain ⟨ch, _, rfl⟩ := List.mem_map.mp hd
  exact char_lt ch
theorem reprChar_ok {q c : Nat} (hc : c < 1114112) : ∀ d ∈ Builtin.Str.reprChar q c, d < 1114112 := fun d hd => by
  unfold Builtin.Str.reprChar at hd
  have hx : ∀ m, d ∈ List.replicate m 48 ++ (Nat.toDigits 16 c).map Char.toNat → d < 1114112 := fun m h => by
    rcases List.mem_append.mp h with h | h
    · rw [List.eq_of_mem_replicate h]; omega
    · exact digits_lt c d h
  simp only at hd
  split at hd
  · simp at hd; omega
  split at hd
  · simp at hd; omega
  split at hd
  · simp at hd; omega
  split at hd
  · simp at hd; omega
  split at hd
  · simp at hd; omega
  split at hd
  · rcases List.mem_append.mp hd with h | h
    · simp at h; omega
    · exact hx _ h
  split at hd
  · rcases List.mem_append.mp hd with h | h
    · simp at h; omega
    · exact hx _ h
  · rcases List.mem_append.mp hd with h | h
    · simp at h; omega
    · exact hx _ h
theorem reprFold_ok {q : Nat} : ∀ (l : List Nat) (acc : Array Nat), (∀ c ∈ l, c < 1114112) → (∀ c ∈ acc.toList, c < 1114112) → ∀ c ∈ (l.foldl (fun out c => out ++ (Builtin.Str.reprChar q c).toArray) acc).toList, c < 1114112
  | [], acc, _, h => h
  | x :: l, acc, hl, h => by
    refine reprFold_ok l _ (fun c hc => hl c (List.mem_cons_of_mem _ hc)) fun c hc => ?_
    rw [Array.toList_append] at hc
    rcases List.mem_append.mp hc with z | z
    · exact h c z
    · exact reprChar_ok (hl x List.mem_cons_self) c z
theorem okS_repr {x : Str} (h : okS x = true) : okS (PySem.reprText x) = true := okS_cps fun c hc => by
  have hq : PySem.reprQuote x < 1114112 := by
    unfold PySem.reprQuote
    split <;> omega
  unfold PySem.reprText at hc
  rw [Array.toList_push] at hc
  rcases List.mem_append.mp hc with z | z
  · rw [← Array.foldl_toList] at z
    exact reprFold_ok _ _ (okS_mem h) (fun c hc => by simp at hc; omega) c z
  · simp at z; omega
theorem okS_from : ∀ (ts : List Str) (j : Nat) (acc : Str), okS acc = true → (∀ t ∈ ts, okS t = true) → okS (textFrom j acc ts) = true
  | [], _, _, h, _ => h
  | t :: ts, j, acc, h, ht => by
    unfold textFrom
    refine okS_from ts _ _ (okS_append (okS_append h ?_) (ht t List.mem_cons_self)) fun u hu => ht u (List.mem_cons_of_mem _ hu)
    split <;> exact okS_of _
theorem okS_join {sep : Str} (hs : okS sep = true) : ∀ ts : List Str, (∀ t ∈ ts, okS t = true) → okS (Str.join sep ts) = true
  | [], _ => rfl
  | [t], h => h t List.mem_cons_self
  | t :: u :: ts, h => by
    rw [Str.join]
    exact okS_append (okS_append (h t List.mem_cons_self) hs) (okS_join hs (u :: ts) fun z hz => h z (List.mem_cons_of_mem _ hz))
    intro z; cases z
theorem strOk_okS {x : Str} (h : PyData.strOk x = true) : okS x = true := by
  unfold PyData.strOk at h
  rw [← Array.all_toList] at h
  exact h
mutual
theorem okS_shown : ∀ d : PyData, d.canLay0 = true → okS d.shown = true
  | .none, _ => by rw [PyData.shown_none]; exact okS_of _
  | .bool b, _ => by rw [PyData.shown_bool]; split <;> exact okS_of _
  | .int i, _ => by rw [PyData.shown_int]; exact okS_of _
  | .str x, h => by rw [PyData.shown_str]; exact okS_repr (strOk_okS (by rw [PyData.canLay0] at h; exact h))
  | .list xs, h => by
    rw [PyData.shown_list]
    exact okS_append (okS_append (okS_of _) (okS_join (okS_of _) _ (okS_shownAll xs (by rw [PyData.canLay0] at h; exact h)))) (okS_of _)
  | .tuple xs, h => by
    rw [PyData.shown_tuple]
    refine okS_append (okS_append (okS_of _) (okS_join (okS_of _) _ (okS_shownAll xs (by rw [PyData.canLay0] at h; exact h)))) ?_
    split <;> exact okS_of _
  | .dict _, h => by rw [PyData.canLay0] at h; cases h
theorem okS_shownAll : ∀ ds : List PyData, PyData.canLayAll0 ds = true → ∀ t ∈ PyData.shownAll ds, okS t = true
  | [], _ => fun t ht => by rw [PyData.shownAll_nil] at ht; cases ht
  | d :: ds, h => fun t ht => by
    rw [PyData.canLayAll0, Bool.and_eq_true] at h
    rw [PyData.shownAll_cons] at ht
    rcases List.mem_cons.mp ht with e | ht
    · rw [e]; exact okS_shown d h.1
    · exact okS_shownAll ds h.2 t ht
end
/-! ### repr -/
def opRepr : OpA := fun ws S => match ws with
  | [w] => (toD S deep w).bind fun d => if d.showable = true ∧ d.shown.length ≤ sizeLine then some (.str d.shown, S) else none
  | _ => none
def rRepr (K : PySem.W.Frag) : List V → Hp → VK → Prop := fun xs H Q => ∃ v d, xs = [v] ∧ Dp K H v d ∧ d.canLay0 = true ∧ d.depth ≤ 60 ∧ d.showable = true ∧ d.shown.length ≤ sizeLine ∧ Q (.str d.shown) H
section
variable {G : Top} {c : Ctx} {k : Nat}
theorem cr_repr {X : Cx} {U : WX} (F : Fit G c k X U) : CallR X (.builtin "repr") (rRepr X.K) := by
  intro pins s σ H xs us Q I r h
  obtain ⟨v, d, rfl, hd, hc, hdep, hs, hz, q⟩ := h
  obtain ⟨u, rfl, ru⟩ := vals1 r
  obtain ⟨as, rd⟩ := Dp.reads I d v u hd ru
  have nd := PyData.hasDict_of_canLay d hc
  have un := F.room.un
  cases hd with
  | non =>
    cases ru
    refine PySem.P.repr_of_none ⟨.str _, H, I.tok _, ⟨_, rfl⟩, ?_⟩
    rw [PyData.shown_none] at q; exact q
  | bl b =>
    cases ru
    refine PySem.P.repr_of_bool ⟨.str _, H, I.tok _, ⟨_, rfl⟩, ?_⟩
    rw [PyData.shown_bool] at q; exact q
  | int i =>
    obtain ⟨t, rfl⟩ := ru
    refine PySem.P.repr_of_int (of_decide_eq_true (by rw [PyData.showable] at hs; exact hs)) ⟨.str _, H, I.tok _, ⟨_, rfl⟩, ?_⟩
    rw [PyData.shown_int] at q; exact q
  | str x =>
    obtain ⟨t, rfl⟩ := ru
    rw [PyData.shown_str] at q hz
    exact PySem.P.repr_of_str ⟨.str _, H, I.tok _, ⟨_, rfl⟩, q⟩ hz
  | lst hl ha =>
    cases ru
    exact PySem.repr_of_reads' rd hs (PyData.noDict_hsm nd) F.gd (by omega) (fun _ _ e => e) (fun h' u tk hk => ⟨.str _, H, I.kept hk, ⟨_, rfl⟩, q⟩) hz
  | tup hl ha =>
    cases ru
    exact PySem.repr_of_reads' rd hs (PyData.noDict_hsm nd) F.gd (by omega) (fun _ _ e => e) (fun h' u tk hk => ⟨.str _, H, I.kept hk, ⟨_, rfl⟩, q⟩) hz
theorem o_repr : OpAOk G (rRepr G.K) opRepr := fun H ρ S ws vs w S' Q sr r h q => by
  unfold opRepr at h
  split at h
  · rename_i w0
    cases r with
    | cons r rs =>
      cases rs
      cases e : toD S deep w0 with
      | none => rw [e] at h; cases h
      | some d =>
        rw [e] at h
        simp only [Option.bind_some] at h
        split at h
        · rename_i hh
          cases h
          obtain ⟨a, b, c⟩ := toD_ok sr deep r e
          exact ⟨_, d, rfl, a, b, Nat.le_trans c (by decide), hh.1, hh.2, q.flat sr (.str (okS_shown d b))⟩
        · cases h
  · cases h
theorem e_repr {e : Expr} {d : DE} {p pos : Pos} (he : EOk G c k e d) (hm : G.mg "repr" = none) (hg : c.sc.names.lookup ("repr" : Str) = some .globalImplicit := by rfl) (hp : plainE e = true := by rfl) : EOk G c k (.Call (.Name "repr" p) [e] [] pos) (dFn opRepr (aCons d aNil)) :=
  e_blt (fun X U F => by rw [← F.K]; exact cr_repr F) o_repr hm (by decide +kernel) (a_cons he a_nil hp) hg (by decide) (by decide) (fun env => starEach_plain hp _ _)
/-! ### len, abs, max, min, sum, any, all -/
def lenW (w : W) (S : Store) : Option Nat := match w with
  | .str x => if x.length ≤ sizeLine then some x.length else none
  | .ref n => match S[n]? with
    | some (.lst ws) => some ws.length
    | some (.dct kvs) => some kvs.length
    | _ => none
  | w => (seqW w S).map (·.length)
def opLen : OpA := fun ws S => match ws with
  | [w] => (lenW w S).map fun n => (.int n, S)
  | _ => none
theorem paired_len {α β : Type} {P : α → β → Prop} {xs : List α} {ys : List β} (h : Paired P xs ys) : xs.length = ys.length := Paired.length h
theorem o_len : OpAOk G (fun xs H Q => (∃ x n, xs = [x] ∧ LenV G.K x H n ∧ Q (.int n) H) ∨ ∃ d kvs, xs = [.ref d] ∧ H d = some (.dK kvs) ∧ Q (.int kvs.length) H) opLen := fun H ρ S ws vs w S' Q sr r h q => by
  unfold opLen at h
  split at h
  · rename_i w0
    cases r with
    | cons r rs =>
      cases rs
      unfold lenW at h
      cases r with
      | str hx =>
        simp only at h
        split at h
        · rename_i hz
          cases h
          exact .inl ⟨_, _, rfl, ⟨hz, rfl⟩, q.flat sr (.int _)⟩
        · cases h
      | @ref n a hn =>
        simp only at h
        split at h
        · rename_i l e
          cases h
          obtain ⟨vs, z, t⟩ := sr.ob n a _ hn e
          exact .inl ⟨_, vs.length, rfl, .inl ⟨vs, .of z, rfl⟩, by rw [← t.length]; exact q.flat sr (.int _)⟩
        · rename_i l e
          cases h
          obtain ⟨vs, z, t⟩ := sr.ob n a _ hn e
          exact .inr ⟨a, vs, rfl, z, by rw [← paired_len t]; exact q.flat sr (.int _)⟩
        · cases h
      | tup hq t => cases h; exact .inl ⟨_, _, rfl, .inr ⟨_, hq, rfl⟩, by rw [← t.length]; exact q.flat sr (.int _)⟩
      | rl hq t => cases h; exact .inl ⟨_, _, rfl, .inl ⟨_, hq.sq, rfl⟩, by rw [← t.length]; exact q.flat sr (.int _)⟩
      | _ => cases h
  · cases h
theorem e_len {e : Expr} {d : DE} {p pos : Pos} (he : EOk G c k e d) (hm : G.mg "len" = none) (hg : c.sc.names.lookup ("len" : Str) = some .globalImplicit := by rfl) (hp : plainE e = true := by rfl) : EOk G c k (.Call (.Name "len" p) [e] [] pos) (dFn opLen (aCons d aNil)) :=
  e_blt (fun X U F => by rw [← F.K]; exact call_len.or (by
    intro pins s σ H xs us Q I r ⟨d, kvs, e, hd, q⟩
    exact call_lenD pins s σ H xs us Q I r ⟨d, kvs, e, hd, q⟩)) o_len hm boot_len (a_cons he a_nil hp) hg (by decide) (by decide) (fun env => starEach_plain hp _ _)
def opAbs : OpA := fun ws S => match ws with
  | [.int i] => some (.int (if i < 0 then -i else i), S)
  | _ => none
def opMax2 : OpA := fun ws S => match ws with
  | [.int i, .int j] => some (.int (if j > i then j else i), S)
  | _ => none
def opMin2 : OpA := fun ws S => match ws with
  | [.int i, .int j] => some (.int (if j < i then j else i), S)
  | _ => none
theorem o_abs : OpAOk G (fun xs H Q => ∃ i, xs = [.int i] ∧ Q (.int (if i < 0 then -i else i)) H) opAbs := fun H ρ S ws vs w S' Q sr r h q => by
  unfold opAbs at h
  split at h
  · cases h
    cases r with
    | cons r rs =>
      cases rs
      cases r
      exact ⟨_, rfl, q.flat sr (.int _)⟩
  · cases h
theorem o_max2 : OpAOk G (fun xs H Q => ∃ i j, xs = [.int i, .int j] ∧ Q (.int (if j > i then j else i)) H) opMax2 := fun H ρ S ws vs w S' Q sr r h q => by
  unfold opMax2 at h
  split at h
  · cases h
    cases r with
    | cons r rs =>
      cases rs with
      | cons r2 rs =>
        cases rs
        cases r
        cases r2
        exact ⟨_, _, rfl, q.flat sr (.int _)⟩
  · cases h
theorem o_min2 : OpAOk G (fun xs H Q => ∃ i j, xs = [.int i, .int j] ∧ Q (.int (if j < i then j else i)) H) opMin2 := fun H ρ S ws vs w S' Q sr r h q => by
  unfold opMin2 at h
  split at h
  · cases h
    cases r with
    | cons r rs =>
      cases rs with
      | cons r2 rs =>
        cases rs
        cases r
        cases r2
        exact ⟨_, _, rfl, q.flat sr (.int _)⟩
  · cases h
theorem e_abs {e : Expr} {d : DE} {p pos : Pos} (he : EOk G c k e d) (hm : G.mg "abs" = none) (hg : c.sc.names.lookup ("abs" : Str) = some .globalImplicit := by rfl) (hp : plainE e = true := by rfl) : EOk G c k (.Call (.Name "abs" p) [e] [] pos) (dFn opAbs (aCons d aNil)) :=
  e_blt (fun X U F => call_abs) o_abs hm (by decide +kernel) (a_cons he a_nil hp) hg (by decide) (by decide) (fun env => starEach_plain hp _ _)
theorem e_max2 {e f : Expr} {d g : DE} {p pos : Pos} (he : EOk G c k e d) (hf : EOk G c k f g) (hm : G.mg "max" = none) (hg : c.sc.names.lookup ("max" : Str) = some .globalImplicit := by rfl) (hp : plainE e = true := by rfl) (hq : plainE f = true := by rfl) : EOk G c k (.Call (.Name "max" p) [e, f] [] pos) (dFn opMax2 (aCons d (aCons g aNil))) :=
  e_blt (fun X U F => call_max2 F.calm) o_max2 hm (by decide +kernel) (a_cons he (a_cons hf a_nil hq) hp) hg (by decide) (by decide) (fun env => starEach_plain hp _ _) (fun env => by rw [starEach_plain hq]; rfl)
theorem e_min2 {e f : Expr} {d g : DE} {p pos : Pos} (he : EOk G c k e d) (hf : EOk G c k f g) (hm : G.mg "min" = none) (hg : c.sc.names.lookup ("min" : Str) = some .globalImplicit := by rfl) (hp : plainE e = true := by rfl) (hq : plainE f = true := by rfl) : EOk G c k (.Call (.Name "min" p) [e, f] [] pos) (dFn opMin2 (aCons d (aCons g aNil))) :=
  e_blt (fun X U F => call_min2 F.calm) o_min2 hm (by decide +kernel) (a_cons he (a_cons hf a_nil hq) hp) hg (by decide) (by decide) (fun env => starEach_plain hp _ _) (fun env => by rw [starEach_plain hq]; rfl)
/-- items that are bools, ints -/
def blsOf : List W → Option (List Bool) := mapO fun w => match w with
  | .bl b => some b
  | _ => none
def intsOf : List W → Option (List Int) := mapO fun w => match w with
  | .int b => some b
  | _ => none
def strsOf : List W → Option (List Str) := mapO fun w => match w with
  | .str b => some b
  | _ => none
theorem blsOf_ok {H : Hp} {ρ : List Addr} : ∀ {ws : List W} {vs : List V} {bs : List Bool}, VRs G.K H ρ ws vs → blsOf ws = some bs → vs = bs.map V.bl
  | _, _, _, .nil, e => by cases e; rfl
  | _, _, bs, @VRs.cons _ _ _ w v ws vs r rs, e => by
    unfold blsOf mapO at e
    cases r with
    | bl b =>
      cases h2 : mapO (fun w => match w with | .bl b => some b | _ => none) ws with
      | none => simp only [h2] at e; cases e
      | some bs' =>
        simp only [h2, Option.some.injEq] at e
        subst e
        rw [blsOf_ok rs h2]
        rfl
    | _ => cases e
theorem intsOf_ok {H : Hp} {ρ : List Addr} : ∀ {ws : List W} {vs : List V} {bs : List Int}, VRs G.K H ρ ws vs → intsOf ws = some bs → vs = bs.map V.int
  | _, _, _, .nil, e => by cases e; rfl
  | _, _, bs, @VRs.cons _ _ _ w v ws vs r rs, e => by
    unfold intsOf mapO at e
    cases r with
    | int b =>
      cases h2 : mapO (fun w => match w with | .int b => some b | _ => none) ws with
      | none => simp only [h2] at e; cases e
      | some bs' =>
        simp only [h2, Option.some.injEq] at e
        subst e
        rw [intsOf_ok rs h2]
        rfl
    | _ => cases e
theorem strsOf_ok {H : Hp} {ρ : List Addr} : ∀ {ws : List W} {vs : List V} {bs : List Str}, VRs G.K H ρ ws vs → strsOf ws = some bs → vs = bs.map V.str ∧ ∀ x ∈ bs, okS x = true
  | _, _, _, .nil, e => by cases e; exact ⟨rfl, fun x h => by cases h⟩
  | _, _, bs, @VRs.cons _ _ _ w v ws vs r rs, e => by
    unfold strsOf mapO at e
    cases r with
    | str hx =>
      cases h2 : mapO (fun w => match w with | .str b => some b | _ => none) ws with
      | none => simp only [h2] at e; cases e
      | some bs' =>
        simp only [h2, Option.some.injEq] at e
        subst e
        obtain ⟨e1, e2⟩ := strsOf_ok rs h2
        refine ⟨by rw [e1]; rfl, fun x h => ?_⟩
        rcases List.mem_cons.mp h with z | z
        · rw [z]; exact hx
        · exact e2 x z
    | _ => cases e
def listW (w : W) (S : Store) : Option (List W) := match w with
  | .rl ws => some ws
  | .ref n => match S[n]? with
    | some (.lst ws) => some ws
    | _ => none
  | _ => none
theorem listW_ok {H : Hp} {ρ : List Addr} {S : Store} {w : W} {v : V} {ws : List W} (sr : SR G H ρ S) (r : VR G.K H ρ w v) (h : listW w S = some ws) : ∃ a vs, v = .ref a ∧ VRs G.K H ρ ws vs ∧ SqL G.K H a vs := by
  unfold listW at h
  cases r with
  | rl q t => cases h; exact ⟨_, _, rfl, t, q.sq⟩
  | @ref n a q =>
    simp only at h
    split at h
    · rename_i e
      cases h
      obtain ⟨vs, z, t⟩ := sr.ob n a _ q e
      exact ⟨_, vs, rfl, t, .of z⟩
    · cases h
  | _ => cases h
def opAll : OpA := fun ws S => match ws with
  | [w] => (listW w S).bind fun l => (blsOf l).map fun bs => (.bl (bs.all id), S)
  | _ => none
def opAny : OpA := fun ws S => match ws with
  | [w] => (listW w S).bind fun l => (blsOf l).map fun bs => (.bl (bs.any id), S)
  | _ => none
def opSum : OpA := fun ws S => match ws with
  | [w] => (listW w S).bind fun l => (intsOf l).map fun bs => (.int bs.sum, S)
  | _ => none
theorem bools_op {g : List Bool → Bool} {r : List V → Hp → VK → Prop} {op : OpA} (hr : ∀ H Q a bs, SqL G.K H a (bs.map V.bl) → Q (.bl (g bs)) H → r [.ref a] H Q) (ho : ∀ ws S, op ws S = match ws with | [w] => (listW w S).bind fun l => (blsOf l).map fun bs => (.bl (g bs), S) | _ => none) : OpAOk G r op := fun H ρ S ws vs w S' Q sr ra h q => by
  rw [ho] at h
  split at h
  · rename_i w0
    cases ra with
    | cons r rs =>
      cases rs
      cases e : listW w0 S with
      | none => rw [e] at h; cases h
      | some l =>
        rw [e] at h
        simp only [Option.bind_some] at h
        cases e2 : blsOf l with
        | none => rw [e2] at h; cases h
        | some bs =>
          rw [e2] at h
          cases h
          obtain ⟨a, us, rfl, t, hs⟩ := listW_ok sr r e
          rw [blsOf_ok t e2] at hs
          exact hr H Q a bs hs (q.flat sr (.bl _))
  · cases h
theorem o_all : OpAOk G (rAll G.K) opAll := bools_op (g := fun bs => bs.all id) (fun H Q a bs hs q => ⟨a, bs, rfl, hs, q⟩) fun ws S => rfl
theorem o_any : OpAOk G (rAny G.K) opAny := bools_op (g := fun bs => bs.any id) (fun H Q a bs hs q => ⟨a, bs, rfl, hs, q⟩) fun ws S => rfl
theorem e_all {e : Expr} {d : DE} {p pos : Pos} (he : EOk G c k e d) (hm : G.mg "all" = none) (hg : c.sc.names.lookup ("all" : Str) = some .globalImplicit := by rfl) (hp : plainE e = true := by rfl) : EOk G c k (.Call (.Name "all" p) [e] [] pos) (dFn opAll (aCons d aNil)) :=
  e_blt (fun X U F => by rw [← F.K]; exact cr_all F.calm) o_all hm (by decide +kernel) (a_cons he a_nil hp) hg (by decide) (by decide) (fun env => starEach_plain hp _ _)
theorem e_any {e : Expr} {d : DE} {p pos : Pos} (he : EOk G c k e d) (hm : G.mg "any" = none) (hg : c.sc.names.lookup ("any" : Str) = some .globalImplicit := by rfl) (hp : plainE e = true := by rfl) : EOk G c k (.Call (.Name "any" p) [e] [] pos) (dFn opAny (aCons d aNil)) :=
  e_blt (fun X U F => by rw [← F.K]; exact cr_any F.calm) o_any hm (by decide +kernel) (a_cons he a_nil hp) hg (by decide) (by decide) (fun env => starEach_plain hp _ _)
end
end
end N
namespace N
open PySem L2
noncomputable section
theorem PI.or {X : Cx} {tg e : Expr} {t t' : TI} (h : PI X tg e t) (h' : PI X tg e t') : PI X tg e (fun σ H R => t σ H R ∨ t' σ H R) := ⟨fun pins s σ H R I q => q.elim (h.run pins s σ H R I) (h'.run pins s σ H R I)⟩
/-- the value of a reading, ahead of its walk -/
theorem Rg.okD {α β : Type} {G : Top} {U : WX} {σ : L2.St} {rel : Hp → List Addr → α → β → Prop} {r : R α} {H : Hp} {ρ : List Addr} {Q : β → Hp → Prop} {a : α} {S' : Store} (e : r = .ok a S') (h : ∀ H' ρ' b, Ext G.K H ρ H' ρ' → SR G H' ρ' S' → rel H' ρ' a b → Q b H') : Rg G U σ rel r H ρ Q := by
  subst e
  exact h
section
variable {G : Top} {c : Ctx} {k : Nat}
/-! ### sequences and texts -/
def srcW (w : W) (S : Store) : Option Src := match w with
  | .str x => some ⟨x.cps.toList.map fun c => .str ⟨#[c]⟩, fun _ => True⟩
  | .tup ws => some ⟨ws, fun _ => True⟩
  | .rl ws => some ⟨ws, fun _ => True⟩
  | .ref n => match S[n]? with
    | some (.lst ws) => some ⟨ws, fun S' => S'[n]? = some (.lst ws)⟩
    | _ => none
  | _ => none
def dSrc (d : DE) : DI := fun ε => d ε >>= fun w => fun S => match srcW w S with
  | some p => .ok p S
  | none => .bad
theorem good_list {H : Hp} {ρ : List Addr} {n : Nat} {a : Addr} {ws : List W} (hn : ρ[n]? = some a) : Good G H ρ ⟨ws, fun S' => S'[n]? = some (.lst ws)⟩ (Itl G.K a) := fun H2 ρ2 S2 e sr g => by
  obtain ⟨vs, z, t⟩ := sr.ob n a _ (e.pre n a hn) g
  refine ⟨fun i w hi => ?_, ⟨vs, .of z, by rw [← t.length]; exact Nat.le_refl _⟩⟩
  obtain ⟨v, hv, r⟩ := t.get hi
  refine ⟨⟨vs, v, .of z, hv⟩, fun x H3 hy => ?_⟩
  obtain ⟨rfl, hx⟩ := hy
  have := hx vs (.of z)
  rw [hv] at this
  cases this
  exact ⟨Ext.refl, sr, r⟩
theorem good_rl {H : Hp} {ρ : List Addr} {a : Addr} {ws : List W} {vs : List V} (q : FzL G.K H a vs) (t : VRs G.K H ρ ws vs) : Good G H ρ ⟨ws, fun _ => True⟩ (Itl G.K a) := fun H2 ρ2 S2 e sr g => by
  have q2 := (e.frzs _ _ q).sq
  have t2 := t.mono e
  refine ⟨fun i w hi => ?_, ⟨vs, q2, by rw [← t2.length]; exact Nat.le_refl _⟩⟩
  obtain ⟨v, hv, r⟩ := t2.get hi
  refine ⟨⟨vs, v, q2, hv⟩, fun x H3 hy => ?_⟩
  obtain ⟨rfl, hx⟩ := hy
  have := hx vs q2
  rw [hv] at this
  cases this
  exact ⟨Ext.refl, sr, r⟩
theorem good_tup {H : Hp} {ρ : List Addr} {a : Addr} {ws : List W} {vs : List V} (q : SqT G.K H a vs) (t : VRs G.K H ρ ws vs) : Good G H ρ ⟨ws, fun _ => True⟩ (Itt G.K a) := fun H2 ρ2 S2 e sr g => by
  have q2 := e.tups _ _ q
  have t2 := t.mono e
  refine ⟨fun i w hi => ?_, ⟨vs, q2, by rw [← t2.length]; exact Nat.le_refl _⟩⟩
  obtain ⟨v, hv, r⟩ := t2.get hi
  refine ⟨⟨vs, v, q2, hv⟩, fun x H3 hy => ?_⟩
  obtain ⟨rfl, hx⟩ := hy
  have := hx vs q2
  rw [hv] at this
  cases this
  exact ⟨Ext.refl, sr, r⟩
theorem good_str {H : Hp} {ρ : List Addr} {x : Str} (hx : okS x = true) : Good G H ρ ⟨x.cps.toList.map fun c => .str ⟨#[c]⟩, fun _ => True⟩ (Its x) := fun H2 ρ2 S2 e sr g => by
  refine ⟨fun i w hi => ?_, ?_⟩
  · rw [List.getElem?_map] at hi
    cases ee : x.cps.toList[i]? with
    | none => rw [ee] at hi; cases hi
    | some ch =>
      rw [ee] at hi
      cases hi
      have hl : i < x.cps.size := by
        have := (List.getElem?_eq_some_iff.mp ee).1
        simpa using this
      refine ⟨hl, fun v H3 hy => ?_⟩
      obtain ⟨rfl, c', hc, rfl⟩ := hy
      have e' : x.cps[i]? = some ch := by
        rw [← Array.getElem?_toList]; exact ee
      rw [e'] at hc
      cases hc
      refine ⟨Ext.refl, sr, .str ?_⟩
      unfold okS
      simp only [List.all_cons, List.all_nil, Bool.and_true]
      exact decide_eq_true (okS_mem hx ch (List.mem_of_getElem? ee))
  · show x.cps.size ≤ (List.map _ x.cps.toList).length
    simp
theorem i_seq {tg e : Expr} {d : DE} (he : EOk G c k e d) : IOk G c k tg e (dSrc d) := fun X U F =>
  PI.imp (PI.or (pi_list (he X U F)) (PI.or (pi_tup (he X U F)) (pi_str (he X U F)))) fun σ H Q ⟨ρ, ε, S, ev, sr, h⟩ => by
    have h' : Rg G U σ (Good G) (M.bind (d ε) (fun w => fun S => match srcW w S with | some p => R.ok p S | none => R.bad) S) H ρ Q := h
    unfold M.bind at h'
    cases q : d ε S with
    | bad => rw [q] at h'; exact h'.elim
    | exc x S1 =>
      rw [q] at h'
      exact .inl ⟨ρ, ε, S, ev, sr, by rw [q]; exact h'⟩
    | ok w S1 =>
      rw [q] at h'
      simp only at h'
      cases hs : srcW w S1 with
      | none => rw [hs] at h'; exact h'.elim
      | some p =>
        rw [hs] at h'
        have h2 : ∀ H' ρ' b, Ext G.K H ρ H' ρ' → SR G H' ρ' S1 → Good G H' ρ' p b → Q b H' := h'
        unfold srcW at hs
        cases w with
        | str x =>
          cases hs
          refine .inr (.inr ⟨ρ, ε, S, ev, sr, Rg.okD q fun H' ρ' v e' s' r => ?_⟩)
          cases r with
          | str hx => exact ⟨x, rfl, h2 H' ρ' _ e' s' (good_str hx)⟩
        | tup ws =>
          cases hs
          refine .inr (.inl ⟨ρ, ε, S, ev, sr, Rg.okD q fun H' ρ' v e' s' r => ?_⟩)
          rw [F.K]
          cases r with
          | tup z t => exact ⟨_, rfl, ⟨_, z⟩, h2 H' ρ' _ e' s' (good_tup z t)⟩
        | rl ws =>
          cases hs
          refine .inl ⟨ρ, ε, S, ev, sr, Rg.okD q fun H' ρ' v e' s' r => ?_⟩
          rw [F.K]
          cases r with
          | rl z t => exact ⟨_, rfl, ⟨_, z.sq⟩, h2 H' ρ' _ e' s' (good_rl z t)⟩
        | ref n =>
          simp only at hs
          split at hs
          · rename_i ws eo
            cases hs
            refine .inl ⟨ρ, ε, S, ev, sr, Rg.okD q fun H' ρ' v e' s' r => ?_⟩
            rw [F.K]
            cases r with
            | ref hn =>
              obtain ⟨vs, z, t⟩ := s'.ob _ _ _ hn eo
              exact ⟨_, rfl, ⟨_, .of z⟩, h2 H' ρ' _ e' s' (good_list hn)⟩
          · cases hs
        | non => cases hs
        | bl b => cases hs
        | int i => cases hs
/-! ### ranges -/
def bnd (i : Int) : Bool := decide (-(2 ^ 62) ≤ i ∧ i < 2 ^ 62)
def rngW (lo : Int) (n : Nat) : List W := (List.range n).map fun i : Nat => W.int (lo + (i : Int))
def dRng1 (a : DA) : DI := fun ε => a ε >>= fun ws => fun S => match ws with
  | [.int j] => if bnd j then .ok ⟨rngW 0 j.toNat, fun _ => True⟩ S else .bad
  | _ => .bad
def dRng2 (a : DA) : DI := fun ε => a ε >>= fun ws => fun S => match ws with
  | [.int i, .int j] => if bnd i && bnd j then .ok ⟨rngW i (j - i).toNat, fun _ => True⟩ S else .bad
  | _ => .bad
theorem good_rng {H : Hp} {ρ : List Addr} (lo : Int) (n : Nat) : Good G H ρ ⟨rngW lo n, fun _ => True⟩ (Itr lo n) := fun H2 ρ2 S2 e sr g => by
  refine ⟨fun i w hi => ?_, ?_⟩
  · unfold rngW at hi
    rw [List.getElem?_map] at hi
    have hl : i < n := by
      have := (List.getElem?_eq_some_iff.mp (show ((List.range n).map fun i : Nat => W.int (lo + (i : Int)))[i]? = some w by rw [List.getElem?_map]; exact hi)).1
      simpa using this
    rw [List.getElem?_range hl] at hi
    cases hi
    refine ⟨hl, fun v H3 hy => ?_⟩
    obtain ⟨rfl, rfl⟩ := hy
    exact ⟨Ext.refl, sr, .int _⟩
  · show n ≤ (rngW lo n).length
    simp [rngW]
theorem i_rng1 {tg e : Expr} {d : DE} {p pos : Pos} (he : EOk G c k e d) (hm : G.mg "range" = none) (hg : c.sc.names.lookup ("range" : Str) = some .globalImplicit := by rfl) (hp : plainE e = true := by rfl) : IOk G c k tg (.Call (.Name "range" p) [e] [] pos) (dRng1 (aCons d aNil)) := fun X U F =>
  PI.imp (pi_range1 (glob_of F hg) (by rw [F.mg]; exact hm) (a_cons he a_nil hp X U F) (starEach_plain hp _ _)) fun σ H Q ⟨ρ, ε, S, ev, sr, h⟩ => ⟨ρ, ε, S, ev, sr, (Rg.bind h).mono fun vs H1 ⟨ws, S1, ρ1, e1, s1, r1, h1⟩ => by
    split at h1
    · rename_i j
      cases r1 with
      | cons r rs =>
        cases rs
        cases r
        split at h1
        · rename_i hb
          have hb := of_decide_eq_true hb
          exact ⟨j, rfl, hb.1, hb.2, h1 H1 ρ1 _ Ext.refl s1 (good_rng 0 j.toNat)⟩
        · exact h1.elim
    · exact h1.elim⟩
theorem i_rng2 {tg e f : Expr} {d g : DE} {p pos : Pos} (he : EOk G c k e d) (hf : EOk G c k f g) (hm : G.mg "range" = none) (hg : c.sc.names.lookup ("range" : Str) = some .globalImplicit := by rfl) (hp : plainE e = true := by rfl) (hq : plainE f = true := by rfl) : IOk G c k tg (.Call (.Name "range" p) [e, f] [] pos) (dRng2 (aCons d (aCons g aNil))) := fun X U F =>
  PI.imp (pi_range2 (glob_of F hg) (by rw [F.mg]; exact hm) (a_cons he (a_cons hf a_nil hq) hp X U F) (by rw [starEach_plain hp, starEach_plain hq]; rfl) (by rw [starEach_plain hq]; rfl)) fun σ H Q ⟨ρ, ε, S, ev, sr, h⟩ => ⟨ρ, ε, S, ev, sr, (Rg.bind h).mono fun vs H1 ⟨ws, S1, ρ1, e1, s1, r1, h1⟩ => by
    split at h1
    · rename_i i j
      cases r1 with
      | cons r rs =>
        cases rs with
        | cons r2 rs =>
          cases rs
          cases r
          cases r2
          split at h1
          · rename_i hb
            rw [Bool.and_eq_true] at hb
            have h2 := of_decide_eq_true hb.1
            have h3 := of_decide_eq_true hb.2
            exact ⟨i, j, rfl, ⟨h2.1, h2.2, h3.1, h3.2⟩, h1 H1 ρ1 _ Ext.refl s1 (good_rng i (j - i).toNat)⟩
          · exact h1.elim
    · exact h1.elim⟩
/-! ### enumerate, zip of lists (zip of tuples) -/
def enumL (ws : List W) : List W := (List.range ws.length).zipWith (fun i w => .tup [.int (i : Nat), w]) ws
def dEnum (a : DA) : DI := fun ε => a ε >>= fun ws => fun S => match ws with
  | [.ref n] => (match S[n]? with
    | some (.lst l) => .ok ⟨enumL l, fun S' => S'[n]? = some (.lst l)⟩ S
    | _ => .bad)
  | _ => .bad
theorem enumL_get {ws : List W} {i : Nat} {w : W} (h : (enumL ws)[i]? = some w) : ∃ x, ws[i]? = some x ∧ w = .tup [.int (i : Nat), x] := by
  unfold enumL at h
  rw [List.getElem?_zipWith] at h
  cases e : ws[i]? with
  | none => rw [e] at h; simp at h
  | some x =>
    have hl := (List.getElem?_eq_some_iff.mp e).1
    rw [e, List.getElem?_range hl] at h
    simp at h
    exact ⟨x, rfl, h.symm⟩
theorem good_enum {H : Hp} {ρ : List Addr} {n : Nat} {a : Addr} {ws : List W} (hn : ρ[n]? = some a) : Good G H ρ ⟨enumL ws, fun S' => S'[n]? = some (.lst ws)⟩ (Ite G.K a) := fun H2 ρ2 S2 e sr g => by
  obtain ⟨vs, z, t⟩ := sr.ob n a _ (e.pre n a hn) g
  refine ⟨fun i w hi => ?_, ⟨vs, .of z, by rw [← t.length]; simp [enumL]⟩⟩
  obtain ⟨x, hx, rfl⟩ := enumL_get hi
  obtain ⟨v, hv, r⟩ := t.get hx
  refine ⟨⟨vs, v, .of z, hv⟩, fun y H3 hy => ?_⟩
  obtain ⟨T, x', rfl, hT, rfl, hx'⟩ := hy
  have := hx' vs (.of z)
  rw [hv] at this
  cases this
  exact ⟨Ext.fresh hT, sr.fresh hT, .tup (.of upd_same) (.cons (.int _) (.cons (r.mono (Ext.fresh hT)) .nil))⟩
theorem i_enum {e : Expr} {elts : List Expr} {kk : Nat} {tpos : Pos} {d : DE} {p pos : Pos} (he : EOk G c k e d) (hm : G.mg "enumerate" = none) (hg : c.sc.names.lookup ("enumerate" : Str) = some .globalImplicit := by rfl) (hp : plainE e = true := by rfl) : IOk G c k (.Tuple elts kk tpos) (.Call (.Name "enumerate" p) [e] [] pos) (dEnum (aCons d aNil)) := fun X U F =>
  PI.imp (pi_enum (glob_of F hg) (by rw [F.mg]; exact hm) (a_cons he a_nil hp X U F) (starEach_plain hp _ _)) fun σ H Q ⟨ρ, ε, S, ev, sr, h⟩ => ⟨ρ, ε, S, ev, sr, (Rg.bind h).mono fun vs H1 ⟨ws, S1, ρ1, e1, s1, r1, h1⟩ => by
    rw [F.K]
    split at h1
    · rename_i n
      cases r1 with
      | cons r rs =>
        cases rs
        cases r with
        | ref hn =>
          split at h1
          · rename_i l eo
            obtain ⟨us, z, t⟩ := s1.ob _ _ _ hn eo
            exact ⟨_, us, rfl, .of z, h1 H1 ρ1 _ Ext.refl s1 (good_enum hn)⟩
          · exact h1.elim
    · exact h1.elim⟩
def zipL (xs ys : List W) : List W := xs.zipWith (fun x y => .tup [x, y]) ys
def gdW (w : W) (ws : List W) (S : Store) : Prop := match w with
  | .ref n => S[n]? = some (.lst ws)
  | _ => True
def zipW (a b : W) (S : Store) : Option Src := match a, b with
  | .tup xs, .tup ys => some ⟨zipL xs ys, fun _ => True⟩
  | .ref n, .ref m => match S[n]?, S[m]? with
    | some (.lst xs), some (.lst ys) => some ⟨zipL xs ys, fun S' => S'[n]? = some (.lst xs) ∧ S'[m]? = some (.lst ys)⟩
    | _, _ => none
  | _, _ => none
def dZip (a : DA) : DI := fun ε => a ε >>= fun ws => fun S => match ws with
  | [x, y] => (match zipW x y S with
    | some p => .ok p S
    | none => .bad)
  | _ => .bad
theorem zipL_get {xs ys : List W} {i : Nat} {w : W} (h : (zipL xs ys)[i]? = some w) : ∃ x y, xs[i]? = some x ∧ ys[i]? = some y ∧ w = .tup [x, y] := by
  unfold zipL at h
  rw [List.getElem?_zipWith] at h
  cases e : xs[i]? with
  | none => rw [e] at h; simp at h
  | some x =>
    cases e2 : ys[i]? with
    | none => rw [e, e2] at h; simp at h
    | some y =>
      rw [e, e2] at h
      simp at h
      exact ⟨x, y, rfl, rfl, h.symm⟩
theorem good_zipT {H : Hp} {ρ : List Addr} {a b : Addr} {ws us : List W} {vs zs : List V} (q : SqT G.K H a vs) (t : VRs G.K H ρ ws vs) (q' : SqT G.K H b zs) (t' : VRs G.K H ρ us zs) : Good G H ρ ⟨zipL ws us, fun _ => True⟩ (RZ.ItzT G.K a b) := fun H2 ρ2 S2 e sr g => by
  have q2 := e.tups _ _ q
  have t2 := t.mono e
  have q2' := e.tups _ _ q'
  have t2' := t'.mono e
  refine ⟨fun i w hi => ?_, ⟨vs, zs, q2, q2', ?_⟩⟩
  · obtain ⟨x, y, hx, hy, rfl⟩ := zipL_get hi
    obtain ⟨v, hv, r⟩ := t2.get hx
    obtain ⟨z, hz, r'⟩ := t2'.get hy
    refine ⟨⟨vs, zs, v, z, q2, q2', hv, hz⟩, fun u H3 hu => ?_⟩
    obtain ⟨T, x', y', rfl, hT, rfl, h1, h2⟩ := hu
    have e1 := h1 vs q2
    have e2 := h2 zs q2'
    rw [hv] at e1
    rw [hz] at e2
    cases e1
    cases e2
    exact ⟨Ext.fresh hT, sr.fresh hT, .tup (.of upd_same) (.cons (r.mono (Ext.fresh hT)) (.cons (r'.mono (Ext.fresh hT)) .nil))⟩
  · rw [← t2.length, ← t2'.length]
    simp only [zipL, List.length_zipWith]
    omega
theorem good_zipL {H : Hp} {ρ : List Addr} {n m : Nat} {a b : Addr} {ws us : List W} (hn : ρ[n]? = some a) (hm : ρ[m]? = some b) : Good G H ρ ⟨zipL ws us, fun S' => S'[n]? = some (.lst ws) ∧ S'[m]? = some (.lst us)⟩ (Itz G.K a b) := fun H2 ρ2 S2 e sr g => by
  obtain ⟨vs, z1, t2⟩ := sr.ob n a _ (e.pre n a hn) g.1
  obtain ⟨zs, z2, t2'⟩ := sr.ob m b _ (e.pre m b hm) g.2
  refine ⟨fun i w hi => ?_, ⟨vs, zs, .of z1, .of z2, ?_⟩⟩
  · obtain ⟨x, y, hx, hy, rfl⟩ := zipL_get hi
    obtain ⟨v, hv, r⟩ := t2.get hx
    obtain ⟨z, hz, r'⟩ := t2'.get hy
    refine ⟨⟨vs, zs, v, z, .of z1, .of z2, hv, hz⟩, fun u H3 hu => ?_⟩
    obtain ⟨T, x', y', rfl, hT, rfl, h1, h2⟩ := hu
    have e1 := h1 vs (.of z1)
    have e2 := h2 zs (.of z2)
    rw [hv] at e1
    rw [hz] at e2
    cases e1
    cases e2
    exact ⟨Ext.fresh hT, sr.fresh hT, .tup (.of upd_same) (.cons (r.mono (Ext.fresh hT)) (.cons (r'.mono (Ext.fresh hT)) .nil))⟩
  · rw [← t2.length, ← t2'.length]
    simp only [zipL, List.length_zipWith]
    omega
theorem i_zip {e f : Expr} {elts : List Expr} {kk : Nat} {tpos : Pos} {d g : DE} {p pos : Pos} (he : EOk G c k e d) (hf : EOk G c k f g) (hm : G.mg "zip" = none) (hg : c.sc.names.lookup ("zip" : Str) = some .globalImplicit := by rfl) (hp : plainE e = true := by rfl) (hq : plainE f = true := by rfl) : IOk G c k (.Tuple elts kk tpos) (.Call (.Name "zip" p) [e, f] [] pos) (dZip (aCons d (aCons g aNil))) := fun X U F =>
  PI.imp (RZ.pi_zipA (glob_of F hg) (by rw [F.mg]; exact hm) (a_cons he (a_cons hf a_nil hq) hp X U F) (starEach_plain hp _ _) (by rw [starEach_plain hq]; rfl)) fun σ H Q ⟨ρ, ε, S, ev, sr, h⟩ => ⟨ρ, ε, S, ev, sr, (Rg.bind h).mono fun vs H1 ⟨ws, S1, ρ1, e1, s1, r1, h1⟩ => by
    rw [F.K]
    split at h1
    · rename_i x y
      split at h1
      · rename_i p0 hz
        cases r1 with
        | cons r rs =>
          cases rs with
          | cons r2 rs =>
            cases rs
            unfold zipW at hz
            split at hz
            · cases hz
              cases r with
              | tup q t =>
                cases r2 with
                | tup q' t' => exact ⟨_, _, _, _, rfl, .inr ⟨q, q', h1 H1 ρ1 _ Ext.refl s1 (good_zipT q t q' t')⟩⟩
            · split at hz
              · rename_i l1 l2 e3 e4
                cases hz
                cases r with
                | ref hn =>
                  cases r2 with
                  | ref hm =>
                    obtain ⟨us, z, t⟩ := s1.ob _ _ _ hn e3
                    obtain ⟨us', z', t'⟩ := s1.ob _ _ _ hm e4
                    exact ⟨_, _, us, us', rfl, .inl ⟨.of z, .of z', h1 H1 ρ1 _ Ext.refl s1 (good_zipL hn hm)⟩⟩
              · cases hz
            · cases hz
      · exact h1.elim
    · exact h1.elim⟩
end
end
end N
namespace N
open PySem L2
noncomputable section
section
variable {G : Top} {c : Ctx} {k : Nat}
/-! ### slices -/
abbrev DO := Ev → M (Option Int)
def tOp (G : Top) (U : WX) (d : DO) : TO := fun σ H Q => ∃ ρ ε S, EvR G.K H ρ ε σ ∧ SR G H ρ S ∧ Rg G U σ (fun _ _ (a b : Option Int) => a = b) (d ε S) H ρ Q
def OOk (G : Top) (c : Ctx) (k : Nat) (e : Option Expr) (d : DO) : Prop := ∀ X U, Fit G c k X U → PO X e (tOp G U d)
theorem PO.imp {X : Cx} {e : Option Expr} {t t' : TO} (h : PO X e t) (f : ∀ σ H Q, t' σ H Q → t σ H Q) : PO X e t' := ⟨fun pins s σ H R I q => h.run pins s σ H R I (f _ _ _ q)⟩
def oN : DO := fun _ => M.ret none
def oS (d : DE) : DO := fun ε => d ε >>= fun w => match w with
  | .int i => M.ret (some i)
  | _ => bad
theorem o_none : OOk G c k none oN := fun X U F => PO.imp po_none fun σ H Q ⟨ρ, ε, S, ev, sr, h⟩ => h H ρ none Ext.refl sr rfl
theorem o_some {e : Expr} {d : DE} (he : EOk G c k e d) : OOk G c k (some e) (oS d) := fun X U F => PO.imp (po_some (he X U F)) fun σ H Q ⟨ρ, ε, S, ev, sr, h⟩ => ⟨ρ, ε, S, ev, sr, (Rg.bind h).mono fun x H1 ⟨w, S1, ρ1, e1, s1, r1, h1⟩ => by
  cases r1 with
  | int i => exact ⟨i, rfl, h1 H1 ρ1 _ Ext.refl s1 rfl⟩
  | _ => exact h1.elim⟩
/-- xs[lo:hi] -/
def cutL {α : Type} (xs : List α) (lo hi : Option Int) : List α := (xs.drop (HT.sIx xs.length 0 lo)).take (HT.sIx xs.length xs.length hi - HT.sIx xs.length 0 lo)
theorem VRs.cut {H : Hp} {ρ : List Addr} {ws : List W} {vs : List V} (r : VRs G.K H ρ ws vs) (lo hi : Option Int) : VRs G.K H ρ (cutL ws lo hi) (cutV vs lo hi) := by
  unfold cutL cutV
  rw [r.length]
  exact (r.drop _).take _
def opSl (w : W) (lo hi : Option Int) (S : Store) : Option (W × Store) := match w with
  | .str z => if z.length ≤ sizeLine then some (.str (cutS z lo hi), S) else none
  | .tup ws => if HT.sIx ws.length 0 lo = 0 ∧ HT.sIx ws.length ws.length hi = ws.length then none else some (.tup (cutL ws lo hi), S)
  | w => (listW w S).map fun ws => (.ref S.length, S ++ [.lst (cutL ws lo hi)])
def dSl (d : DE) (l h : DO) : DE := fun ε => d ε >>= fun w => l ε >>= fun lo => h ε >>= fun hi => lift (opSl w lo hi)
theorem okS_cut {z : Str} (h : okS z = true) (lo hi : Option Int) : okS (cutS z lo hi) = true := okS_cps fun c hc => okS_mem h c (by
  unfold cutS at hc
  exact List.mem_of_mem_drop (List.mem_of_mem_take hc))
theorem SlR.or3 {X : Cx} {r r' r'' : V → Option Int → Option Int → Hp → VK → Prop} (h : SlR X r) (h' : SlR X r') (h'' : SlR X r'') : SlR X (fun x lo hi H Q => r x lo hi H Q ∨ r' x lo hi H Q ∨ r'' x lo hi H Q) := h.or (h'.or h'')
theorem o_sl {H : Hp} {ρ : List Addr} {S : Store} {a w : W} {x : V} {lo hi : Option Int} {S' : Store} {Q : VK} (sr : SR G H ρ S) (ra : VR G.K H ρ a x) (h : opSl a lo hi S = some (w, S')) (q : Wish G H ρ w S' Q) : rSlS x lo hi H Q ∨ rSlT G.K x lo hi H Q ∨ rSlL G.K x lo hi H Q := by
  unfold opSl at h
  cases ra with
  | str hx =>
    simp only at h
    split at h
    · rename_i hz
      cases h
      exact .inl ⟨_, rfl, hz, q.flat sr (.str (okS_cut hx lo hi))⟩
    · cases h
  | tup z t =>
    simp only at h
    split at h
    · cases h
    · rename_i hn
      cases h
      refine .inr (.inl ⟨_, _, rfl, z, by rw [← t.length]; exact hn, fun p hp => q.tup sr (t.cut lo hi) hp⟩)
  | rl z t =>
    cases h
    exact .inr (.inr ⟨_, _, rfl, z.sq, fun p hp => q.list sr (t.cut lo hi) hp⟩)
  | @ref n a hn =>
    simp only [listW] at h
    split at h
    · rename_i ws eo
      cases h
      obtain ⟨vs, z, t⟩ := sr.ob _ _ _ hn eo
      exact .inr (.inr ⟨_, _, rfl, .of z, fun p hp => q.list sr (t.cut lo hi) hp⟩)
    · cases h
  | _ => cases h
theorem e_sl {e : Expr} {lo hi : Option Expr} {d : DE} {l h : DO} {p2 pos : Pos} (he : EOk G c k e d) (hl : OOk G c k lo l) (hh : OOk G c k hi h) : EOk G c k (.Subscript e (.Slice lo hi none p2) pos) (dSl d l h) := fun X U F =>
  PE.imp (pe_slice (SlR.or3 sl_str sl_tup sl_list) (he X U F) (hl X U F) (hh X U F)) fun σ H Q ⟨ρ, ε, S, ev, sr, q⟩ => ⟨ρ, ε, S, ev, sr, (Rg.bind q).mono fun x H1 ⟨w, S1, ρ1, e1, s1, r1, q1⟩ =>
    ⟨ρ1, ε, S1, ev.mono e1, s1, (Rg.bind q1).mono fun a H2 ⟨a', S2, ρ2, e2, s2, r2, q2⟩ => by
      obtain rfl : a' = a := r2
      refine ⟨ρ2, ε, S2, ev.mono (e1.trans e2), s2, (Rg.bind q2).mono fun b H3 ⟨b', S3, ρ3, e3, s3, r3, q3⟩ => ?_⟩
      obtain rfl : b' = b := r3
      obtain ⟨w', S4, hw, q4⟩ := Rg.lift q3
      rw [F.K]
      exact o_sl s3 (r1.mono (e2.trans e3)) hw q4⟩⟩
/-! ### types -/
def tyN (w : W) (S : Store) : Option String := match w with
  | .non => some "NoneType"
  | .bl _ => some "bool"
  | .int _ => some "int"
  | .str _ => some "str"
  | .tup _ => some "tuple"
  | .rl _ => some "list"
  | .ref n => match S[n]? with
    | some (.lst _) => some "list"
    | some (.dct _) => some "dict"
    | _ => none
theorem tyN_ok {H : Hp} {ρ : List Addr} {S : Store} {w : W} {v : V} {T : String} (sr : SR G H ρ S) (r : VR G.K H ρ w v) (h : tyN w S = some T) : TyX G.K H v (.type T) := by
  unfold tyN at h
  cases r with
  | non => cases h; exact .base .non
  | bl b => cases h; exact .base (.bl b)
  | int i => cases h; exact .base (.int i)
  | str hx => cases h; exact .base (.str _)
  | tup q t =>
    cases h
    rcases q with (q | ⟨o, q⟩) | ⟨o, its, n, q1, q2, _⟩
    · exact .base (.tup q)
    · exact .fTuple q
    · exact .kTuple q1 q2
  | rl q t =>
    cases h
    rcases q with ⟨o, q⟩ | ⟨o, its, n, q1, q2, _⟩
    · exact .base (.frz q)
    · exact .kList q1 q2
  | ref hn =>
    simp only at h
    split at h
    · rename_i e
      cases h
      obtain ⟨vs, z, t⟩ := sr.ob _ _ _ hn e
      exact .base (.lst z)
    · rename_i e
      cases h
      obtain ⟨vs, z, t⟩ := sr.ob _ _ _ hn e
      exact .base (.dK z)
    · cases h
/-- is a value of the type a one of the type b (types that stand here) -/
def isT (a b : String) : Bool := a == b || (a == "bool" && b == "int")
def kitOk (b : String) : Bool := ["NoneType", "bool", "int", "str", "tuple", "list", "dict"].all fun a => decide (kitB a b = some (isT a b))
theorem tyN_mem {w : W} {S : Store} {T : String} (h : tyN w S = some T) : T ∈ ["NoneType", "bool", "int", "str", "tuple", "list", "dict"] := by
  unfold tyN at h
  split at h <;> first | (cases h; decide) | skip
  split at h <;> first | (cases h; decide) | cases h
def dIsi (T : String) (d : DE) : DE := fun ε => d ε >>= fun w => lift fun S => (tyN w S).map fun t => (.bl (isT t T), S)
theorem e_isi (T : String) {x : Str} {e : Expr} {d : DE} {p p2 pos : Pos} (he : EOk G c k e d) (hm : G.mg "isinstance" = none) (hx : G.mg x = none) (hb : bootBuiltins x = some (.type T) := by decide +kernel) (hk : kitOk T = true := by decide +kernel) (hg : c.sc.names.lookup ("isinstance" : Str) = some .globalImplicit := by rfl) (hgx : c.sc.names.lookup x = some .globalImplicit := by rfl)
    (hp : plainE e = true := by rfl) (hn : x ≠ "__name__" := by decide) (hd : (x == ("__debug__" : Str)) = false := by decide) : EOk G c k (.Call (.Name "isinstance" p) [e, .Name x p2] [] pos) (dIsi T d) := fun X U F =>
  PE.imp (pe_callB (call_isi) (glob_of F hg) (by rw [F.mg]; exact hm) (by decide +kernel) (pa_cons (he X U F) (pa_cons (pe_bltn (v := .ty T) (glob_of F hgx) (by rw [F.mg]; exact hx) hb rfl hn hd) pa_nil) (starEach_plain hp _ _)) (by decide) (by decide) (starEach_plain hp _ _)) fun σ H Q ⟨ρ, ε, S, ev, sr, q⟩ => ⟨ρ, ε, S, ev, sr, (Rg.bind q).mono fun v H1 ⟨w, S1, ρ1, e1, s1, r1, q1⟩ => by
    obtain ⟨w', S2, hw, q2⟩ := Rg.lift q1
    cases et : tyN w S1 with
    | none => rw [et] at hw; cases hw
    | some t =>
      rw [et] at hw
      cases hw
      have hk2 := of_decide_eq_true (List.all_eq_true.mp hk t (tyN_mem et))
      refine ⟨v, .ty T, .type t, .type T, isT t T, rfl, .ty T, ?_, ?_, q2 H1 ρ1 _ Ext.refl s1 (.bl _)⟩
      · rw [F.K]; exact tyN_ok s1 r1 et
      · exact kit_ty hk2⟩
/-- isinstance(e, (T1, T2)) -/
def dIsi2 (T1 T2 : String) (d : DE) : DE := fun ε => d ε >>= fun w => lift fun S => (tyN w S).map fun t => (.bl (isT t T1 || isT t T2), S)
theorem e_isi2 (T1 T2 : String) {x y : Str} {e : Expr} {d : DE} {p p2 p3 pt pos : Pos} {kt : Nat} (he : EOk G c k e d) (hm : G.mg "isinstance" = none) (hx : G.mg x = none) (hy : G.mg y = none) (hb : bootBuiltins x = some (.type T1) := by decide +kernel) (hb2 : bootBuiltins y = some (.type T2) := by decide +kernel)
    (hk : kitOk T1 = true := by decide +kernel) (hk2 : kitOk T2 = true := by decide +kernel) (hg : c.sc.names.lookup ("isinstance" : Str) = some .globalImplicit := by rfl) (hgx : c.sc.names.lookup x = some .globalImplicit := by rfl) (hgy : c.sc.names.lookup y = some .globalImplicit := by rfl)
    (hp : plainE e = true := by rfl) (hn : x ≠ "__name__" := by decide) (hd : (x == ("__debug__" : Str)) = false := by decide) (hn2 : y ≠ "__name__" := by decide) (hd2 : (y == ("__debug__" : Str)) = false := by decide) :
    EOk G c k (.Call (.Name "isinstance" p) [e, .Tuple [.Name x p2, .Name y p3] kt pt] [] pos) (dIsi2 T1 T2 d) := fun X U F =>
  PE.imp (pe_callB (call_isiT) (glob_of F hg) (by rw [F.mg]; exact hm) (by decide +kernel) (pa_cons (he X U F) (pa_cons (pe_tup (pa_cons (pe_bltn (v := .ty T1) (glob_of F hgx) (by rw [F.mg]; exact hx) hb rfl hn hd) (pa_cons (pe_bltn (v := .ty T2) (glob_of F hgy) (by rw [F.mg]; exact hy) hb2 rfl hn2 hd2) pa_nil))) pa_nil) (starEach_plain hp _ _)) (by decide) (by decide) (starEach_plain hp _ _)) fun σ H Q ⟨ρ, ε, S, ev, sr, q⟩ => ⟨ρ, ε, S, ev, sr, (Rg.bind q).mono fun v H1 ⟨w, S1, ρ1, e1, s1, r1, q1⟩ => by
    obtain ⟨w', S2, hw, q2⟩ := Rg.lift q1
    cases et : tyN w S1 with
    | none => rw [et] at hw; cases hw
    | some t =>
      rw [et] at hw
      cases hw
      have h1 := of_decide_eq_true (List.all_eq_true.mp hk t (tyN_mem et))
      have h2 := of_decide_eq_true (List.all_eq_true.mp hk2 t (tyN_mem et))
      refine ⟨by show 2 ≤ sizeLine; decide, fun p0 hp0 => ?_⟩
      have ex : Ext G.K H1 ρ1 (upd H1 p0 (.tup [.ty T1, .ty T2])) ρ1 := Ext.fresh hp0
      refine ⟨v, p0, [.ty T1, .ty T2], .type t, [.type T1, .type T2], isT t T1 || isT t T2, rfl, upd_same, .cons (.ty T1) (.cons (.ty T2) .nil), ?_, ?_, q2 _ ρ1 _ ex (s1.fresh hp0) (.bl _)⟩
      · rw [F.K]; exact tyN_ok (s1.fresh hp0) (r1.mono ex) et
      · refine kitAny_cons (kit_ty h1) (fun hb => ?_) fun hb => by rw [hb]; rfl
        rw [hb, Bool.false_or]
        exact kitAny_cons (kit_ty h2) (fun hb => by rw [hb]; exact kitAny_nil) fun hb => hb⟩
/-! ### int, str, list, tuple -/
def opInt : OpA := fun ws S => match ws with
  | [.int i] => some (.int i, S)
  | [.bl b] => some (.int (if b then 1 else 0), S)
  | _ => none
theorem o_int : OpAOk G (fun xs H Q => (∃ i, xs = [.int i] ∧ Q (.int i) H) ∨ ∃ k, xs = [.bl k] ∧ Q (.int (if k then 1 else 0)) H) opInt := fun H ρ S ws vs w S' Q sr r h q => by
  unfold opInt at h
  split at h
  · cases h
    cases r with
    | cons r rs =>
      cases rs
      cases r
      exact .inl ⟨_, rfl, q.flat sr (.int _)⟩
  · cases h
    cases r with
    | cons r rs =>
      cases rs
      cases r
      exact .inr ⟨_, rfl, q.flat sr (.int _)⟩
  · cases h
theorem e_intC {e : Expr} {d : DE} {p pos : Pos} (he : EOk G c k e d) (hm : G.mg "int" = none) (hg : c.sc.names.lookup ("int" : Str) = some .globalImplicit := by rfl) (hp : plainE e = true := by rfl) : EOk G c k (.Call (.Name "int" p) [e] [] pos) (dFn opInt (aCons d aNil)) :=
  e_ty (fun X U F => call_int1) o_int hm (by decide +kernel) (a_cons he a_nil hp) hg (by decide) (by decide) (fun env => starEach_plain hp _ _)
def opList : OpA := fun ws S => match ws with
  | [w] => (seqW w S).map fun l => (.ref S.length, S ++ [.lst l])
  | _ => none
theorem o_list : OpAOk G (fun xs H Q => ∃ p ys, xs = [.ref p] ∧ (SqL G.K H p ys ∨ SqT G.K H p ys) ∧ ∀ l, H l = none → Q (.ref l) (upd H l (.lst ys))) opList := fun H ρ S ws vs w S' Q sr r h q => by
  unfold opList at h
  split at h
  · rename_i w0
    cases r with
    | cons r rs =>
      cases rs
      cases e : seqW w0 S with
      | none => rw [e] at h; cases h
      | some l =>
        rw [e] at h
        cases h
        obtain ⟨a, us, rfl, t, hs⟩ := seqW_ok sr r e
        exact ⟨a, us, rfl, hs, fun p hp => q.list sr t hp⟩
  · cases h
theorem e_listC {e : Expr} {d : DE} {p pos : Pos} (he : EOk G c k e d) (hm : G.mg "list" = none) (hg : c.sc.names.lookup ("list" : Str) = some .globalImplicit := by rfl) (hp : plainE e = true := by rfl) : EOk G c k (.Call (.Name "list" p) [e] [] pos) (dFn opList (aCons d aNil)) :=
  e_ty (fun X U F => by rw [← F.K]; exact call_list_of) o_list hm (by decide +kernel) (a_cons he a_nil hp) hg (by decide) (by decide) (fun env => starEach_plain hp _ _)
def opTuple : OpA := fun ws S => match ws with
  | [w] => (seqW w S).map fun l => (.tup l, S)
  | _ => none
theorem o_tuple : OpAOk G (fun xs H Q => ∃ p ys, xs = [.ref p] ∧ ((SqL G.K H p ys ∧ ∀ l, H l = none → Q (.ref l) (upd H l (.tup ys))) ∨ (SqT G.K H p ys ∧ Q (.ref p) H))) opTuple := fun H ρ S ws vs w S' Q sr r h q => by
  unfold opTuple at h
  split at h
  · rename_i w0
    cases r with
    | cons r rs =>
      cases rs
      cases e : seqW w0 S with
      | none => rw [e] at h; cases h
      | some l =>
        rw [e] at h
        cases h
        obtain ⟨a, us, rfl, t, hs⟩ := seqW_ok sr r e
        rcases hs with hs | hs
        · exact ⟨a, us, rfl, .inl ⟨hs, fun p hp => q.tup sr t hp⟩⟩
        · exact ⟨a, us, rfl, .inr ⟨hs, q.flat sr (.tup hs t)⟩⟩
  · cases h
theorem e_tupleC {e : Expr} {d : DE} {p pos : Pos} (he : EOk G c k e d) (hm : G.mg "tuple" = none) (hg : c.sc.names.lookup ("tuple" : Str) = some .globalImplicit := by rfl) (hp : plainE e = true := by rfl) : EOk G c k (.Call (.Name "tuple" p) [e] [] pos) (dFn opTuple (aCons d aNil)) :=
  e_ty (fun X U F => by rw [← F.K]; exact call_tuple_of) o_tuple hm (by decide +kernel) (a_cons he a_nil hp) hg (by decide) (by decide) (fun env => starEach_plain hp _ _)
def opStrI : OpA := fun ws S => match ws with
  | [.int i] => if i.natAbs.log2 < 1920 then some (.str (Str.ofString (toString i)), S) else none
  | _ => none
theorem o_strI : OpAOk G (fun xs H Q => ∃ i, xs = [.int i] ∧ i.natAbs.log2 < 1920 ∧ Q (.str (toString i)) H) opStrI := fun H ρ S ws vs w S' Q sr r h q => by
  unfold opStrI at h
  split at h
  · split at h
    · rename_i hz
      cases h
      cases r with
      | cons r rs =>
        cases rs
        cases r
        exact ⟨_, rfl, hz, q.flat sr (.str (okS_of _))⟩
    · cases h
  · cases h
theorem e_strC {e : Expr} {d : DE} {p pos : Pos} (he : EOk G c k e d) (hm : G.mg "str" = none) (hg : c.sc.names.lookup ("str" : Str) = some .globalImplicit := by rfl) (hp : plainE e = true := by rfl) : EOk G c k (.Call (.Name "str" p) [e] [] pos) (dFn opStrI (aCons d aNil)) :=
  e_ty (fun X U F => call_str_int) o_strI hm (by decide +kernel) (a_cons he a_nil hp) hg (by decide) (by decide) (fun env => starEach_plain hp _ _)
/-! ### methods -/
abbrev OpM := W → List W → Store → Option (W × Store)
def tyM (T : String) (w : W) (S : Store) : Bool := match w with
  | .str _ => T == "str"
  | .rl _ => T == "list"
  | .ref n => match S[n]? with
    | some (.lst _) => T == "list"
    | some (.dct _) => T == "dict"
    | _ => false
  | _ => false
theorem tyM_ok {H : Hp} {ρ : List Addr} {S : Store} {w : W} {v : V} {T : String} (sr : SR G H ρ S) (r : VR G.K H ρ w v) (h : tyM T w S = true) : tyV G.K T v H := by
  unfold tyM at h
  cases r with
  | str hx => exact eq_of_beq h
  | rl q t => exact .inl ⟨eq_of_beq h, _, q.sq⟩
  | ref hn =>
    simp only at h
    split at h
    · rename_i e
      obtain ⟨vs, z, t⟩ := sr.ob _ _ _ hn e
      exact .inl ⟨eq_of_beq h, vs, .of z⟩
    · rename_i e
      obtain ⟨vs, z, t⟩ := sr.ob _ _ _ hn e
      exact .inr (.inr (.inl ⟨eq_of_beq h, .inl ⟨vs, z⟩⟩))
    · cases h
  | _ => cases h
def chkT (T : String) (w : W) : M Unit := fun S => if tyM T w S = true then .ok () S else .bad
theorem Rg.chkT {α β : Type} {U : WX} {σ : L2.St} {rel : Hp → List Addr → α → β → Prop} {T : String} {w : W} {f : Unit → M α} {S : Store} {H : Hp} {ρ : List Addr} {Q : β → Hp → Prop} (h : Rg G U σ rel ((N.chkT T w >>= f) S) H ρ Q) : tyM T w S = true ∧ Rg G U σ rel (f () S) H ρ Q := by
  have h' : Rg G U σ rel (M.bind (N.chkT T w) f S) H ρ Q := h
  unfold M.bind N.chkT at h'
  by_cases e : tyM T w S = true
  · rw [if_pos e] at h'
    exact ⟨e, h'⟩
  · rw [if_neg e] at h'
    exact h'.elim
def dMt (T : String) (op : OpM) (d : DE) (a : DA) : DE := fun ε => d ε >>= fun w => chkT T w >>= fun _ => a ε >>= fun ws => lift (op w ws)
def OpMOk (G : Top) (r : V → List V → Hp → VK → Prop) (op : OpM) : Prop := ∀ H ρ S a ws x xs w S' Q, SR G H ρ S → VR G.K H ρ a x → VRs G.K H ρ ws xs → op a ws S = some (w, S') → Wish G H ρ w S' Q → r x xs H Q
theorem e_mt {T id : String} {name : Str} {r : V → List V → Hp → VK → Prop} {op : OpM} {o e : Expr} {es : List Expr} {d : DE} {a : DA} {apos cpos : Pos} (pa : PlainAttrs T) (slot : Slot T name id) (hty : typeOf (.builtin id) = pure (.type "method_descriptor")) (hm : ∀ X U, Fit G c k X U → MtR X id r) (ho : OpMOk G r op) (he : EOk G c k o d) (ha : AOk G c k (e :: es) a)
    (hbase : ∀ env, attributeBase o name env (eval o env) = eval o env := by intro _; rfl)
    (hfew : ∀ env, ((backTo cpos (starEach (e :: es) env)).all (fun x => !x.1) && (backToKw cpos (keywordEach [] env)).all (fun x => x.1.isSome)
      && decide ((e :: es).length + ([] : List Keyword).length + (if ([] : List Keyword).isEmpty then 0 else 1) < 30)) = true := by intro _; rfl)
    (hline : (apos.endLine == cpos.line) = true := by rfl) (hs : ∀ env, starEach (e :: es) env = (false, eval e env) :: starEach es env := by intro _; rfl) (hpl : ∀ env, (backTo cpos (starEach es env)).any (·.1) = false := by intro _; rfl) :
    EOk G c k (.Call (.Attribute o name apos) (e :: es) [] cpos) (dMt T op d a) := fun X U F =>
  PE.imp (pe_bm pa slot hty (hm X U F) (he X U F) (ha X U F) (hbase _) (hfew _) hline (hs _) (hpl _)) fun σ H Q ⟨ρ, ε, S, ev, sr, q⟩ => ⟨ρ, ε, S, ev, sr, (Rg.bind q).mono fun x H1 ⟨w, S1, ρ1, e1, s1, r1, q1⟩ => by
    obtain ⟨ht, q2⟩ := Rg.chkT q1
    refine ⟨by rw [F.K]; exact tyM_ok s1 r1 ht, ρ1, ε, S1, ev.mono e1, s1, (Rg.bind q2).mono fun xs H2 ⟨ws, S2, ρ2, e2, s2, r2, q3⟩ => ?_⟩
    obtain ⟨w', S3, hw, q4⟩ := Rg.lift q3
    exact ho H2 ρ2 S2 w ws x xs w' S3 Q s2 (r1.mono e2) r2 hw q4⟩
theorem e_mt0 {T id : String} {name : Str} {r : V → List V → Hp → VK → Prop} {op : OpM} {o : Expr} {d : DE} {apos cpos : Pos} (pa : PlainAttrs T) (slot : Slot T name id) (hty : typeOf (.builtin id) = pure (.type "method_descriptor")) (hm : ∀ X U, Fit G c k X U → MtR X id r) (ho : OpMOk G r op) (he : EOk G c k o d)
    (hbase : ∀ env, attributeBase o name env (eval o env) = eval o env := by intro _; rfl) (hline : (apos.endLine == cpos.line) = true := by rfl) :
    EOk G c k (.Call (.Attribute o name apos) [] [] cpos) (dMt T op d aNil) := fun X U F =>
  PE.imp (pe_bm0 pa slot hty (hm X U F) (he X U F) (hbase _) hline) fun σ H Q ⟨ρ, ε, S, ev, sr, q⟩ => ⟨ρ, ε, S, ev, sr, (Rg.bind q).mono fun x H1 ⟨w, S1, ρ1, e1, s1, r1, q1⟩ => by
    obtain ⟨ht, q2⟩ := Rg.chkT q1
    have q3 : Rg G U σ (VR G.K) (lift (op w []) S1) H1 ρ1 Q := q2
    obtain ⟨w', S3, hw, q4⟩ := Rg.lift q3
    exact ⟨by rw [F.K]; exact tyM_ok s1 r1 ht, ho H1 ρ1 S1 w [] x [] w' S3 Q s1 r1 .nil hw q4⟩⟩
/-- a list of the store written -/
theorem Wish.put {H : Hp} {ρ : List Addr} {S : Store} {n : Nat} {a : Addr} {ws' : List W} {vs vs' : List V} {w : W} {v : V} {Q : VK} (q : Wish G H ρ w (S.set n (.lst ws')) Q) (sr : SR G H ρ S) (hn : ρ[n]? = some a) (h : H a = some (.lst vs)) (r' : VRs G.K H ρ ws' vs') (rw : VR G.K H ρ w v) : Q v (upd H a (.lst vs')) := by
  have e : Ext G.K H ρ (upd H a (.lst vs')) ρ := Ext.upd hn h trivial
  exact q _ ρ v e (sr.upd hn h trivial ⟨vs', upd_same, r'.mono e⟩) (rw.mono e)
def mAppend : OpM := fun a ws S => match a, ws with
  | .ref n, [w] => match S[n]? with
    | some (.lst l) => if l.length < sizeLine then some (.non, S.set n (.lst (l ++ [w]))) else none
    | _ => none
  | _, _ => none
theorem o_append : OpMOk G rAppend mAppend := fun H ρ S a ws x xs w S' Q sr ra rs h q => by
  unfold mAppend at h
  split at h
  · split at h
    · rename_i l eo
      split at h
      · rename_i hz
        cases h
        cases ra with
        | ref hn =>
          cases rs with
          | cons r rs =>
            cases rs
            obtain ⟨vs, z, t⟩ := sr.ob _ _ _ hn eo
            exact ⟨_, vs, _, rfl, rfl, z, by rw [← t.length]; exact hz, q.put sr hn z (t.append (.cons r .nil)) .non⟩
      · cases h
    · cases h
  · cases h
theorem e_append {o e : Expr} {d f : DE} {apos cpos : Pos} (he : EOk G c k o d) (ha : EOk G c k e f) (hbase : ∀ env, attributeBase o "append" env (eval o env) = eval o env := by intro _; rfl) (hline : (apos.endLine == cpos.line) = true := by rfl) (hp : plainE e = true := by rfl) :
    EOk G c k (.Call (.Attribute o "append" apos) [e] [] cpos) (dMt "list" mAppend d (aCons f aNil)) :=
  e_mt PySem.F.plainAttrs_list PySem.F.slot_list_append PySem.F.type_list_append (fun X U F => mt_append) o_append he (a_cons ha a_nil hp) hbase (fun env => by rw [starEach_plain hp]; rfl) hline (fun env => starEach_plain hp _ _)
/-- xs[i] = v -/
def setIx (o i v : W) (S : Store) : Option Store := match o, i with
  | .ref n, .int j => match S[n]? with
    | some (.lst l) => (ixN l.length j).map fun m => S.set n (.lst (l.set m v))
    | _ => none
  | _, _ => none
def dPut (d o i : DE) : DS := fun ε S => sBind (d ε) ε S fun v S1 => sBind (o ε) ε S1 fun w S2 => sBind (i ε) ε S2 fun j S3 => match setIx w j v S3 with
  | some S4 => .nx ε S4
  | none => .bad
theorem s_put {o i e : Expr} {d d0 di : DE} {spos pos : Pos} (he : EOk G c k e d) (ho : EOk G c k o d0) (hi : EOk G c k i di)
    (ha : ∀ env v, assign (.Subscript o i spos) env v = (do
      let ov ← holding [v] (eval o env)
      let iv ← holding [v, ov] (eval i env)
      standAt spos
      holding [v, ov, iv] (setItem ov iv v)
      release [v, ov, iv] []) := by intro _ _; rfl) (hs : ∀ env, swapsWithSole [.Subscript o i spos] e pos.line env = pure false := by intro _; rfl) (hw : ∀ env, swappedStores [.Subscript o i spos] e env = pure none := by intro _; rfl)
    (h1 : ∀ env, (assignEach [.Subscript o i spos] env).map (·.2) = [assign (.Subscript o i spos) env] := by intro _; rfl) : SOk G c k (.Assign [.Subscript o i spos] e pos) (dPut d d0 di) := fun X U F =>
  PS.imp (ps_asg (he X U F) (pg_sub (ho X U F) (hi X U F) set_list (ha _)) (hs _) (hw _) (h1 _)) fun D σ H ⟨ρ, ε, S, ev, sr, h⟩ => ⟨ρ, ε, S, ev, sr, (Rg_sBind ev h).mono fun v H1 ⟨wv, S1, ρ1, e1, s1, r1, q1⟩ =>
    ⟨ρ1, ε, S1, ev.mono e1, s1, (Rg_sBind (ev.mono e1) q1).mono fun x H2 ⟨wo, S2, ρ2, e2, s2, r2, q2⟩ =>
      ⟨ρ2, ε, S2, (ev.mono e1).mono e2, s2, (Rg_sBind ((ev.mono e1).mono e2) q2).mono fun y H3 ⟨wi, S3, ρ3, e3, s3, r3, q3⟩ => by
        cases hz : setIx wo wi wv S3 with
        | none => simp only [hz] at q3; exact q3.elim
        | some S4 =>
          simp only [hz] at q3
          unfold setIx at hz
          split at hz
          · split at hz
            · rename_i l eo
              cases hj : ixN l.length _ with
              | none => rw [hj] at hz; cases hz
              | some m =>
                rw [hj] at hz
                cases hz
                cases r3
                have r2' := r2.mono e3
                cases r2' with
                | ref hn =>
                  obtain ⟨vs, z, t⟩ := s3.ob _ _ _ hn eo
                  have rv := (r1.mono e2).mono e3
                  refine ⟨_, vs, _, m, rfl, rfl, z, by rw [← t.length]; exact hj, ?_⟩
                  have e : Ext G.K H3 ρ3 (upd H3 _ (.lst (vs.set m v))) ρ3 := Ext.upd hn z trivial
                  exact q3 _ ρ3 σ e (s3.upd hn z trivial ⟨_, upd_same, (t.set rv m).mono e⟩) (((ev.mono e1).mono e2).mono (e3.trans e))
            · cases hz
          · cases hz⟩⟩⟩
end
end
end N
namespace N
open PySem PySem.Spec PyProof.Rows L2
/-- the law's own call at the heap behind the top -/
theorem law_at {G : World → Heap → Top} {P : Program} {w : World} {K : PySem.W.Frag} {mg mb : Str → Option Value} {k : Nat} {fa a : Addr} {fd : FuncData} {x : Str} {s₁ : Shared} {vs : List Value} {ns : List Int} {den : List W → M W}
    (inK : K.In s₁.heap) (hns : s₁.heap.Ns mainGlobals mg) (hb : s₁.heap.Ns builtinsNs mb) (hbb : ∀ x : Str, x ≠ "__name__" → mb x = bootBuiltins x) (lim : s₁.heap.NoLimit) (hg : s₁.gens = #[])
    (ha : s₁.heap.get? a = some { cls := .type "list", data := .seq vs.toArray }) (hi : IntsAre vs ns) (hl : ns.length ≤ sizeLine) (hr : Room k callerA)
    (hG : ∀ b, (G w b).P = P ∧ (G w b).w = w ∧ (G w b).K = K ∧ (G w b).mg = mg ∧ (G w b).base = b)
    (F : ∀ b : Heap, K.In b → b.Ns mainGlobals mg → FnG (G w b) k fa fd [x] (spN (G w b) den)) (bind : ∀ (s : Shared) (u : Value), BindsTo s fd ⟨[u], []⟩ [(x, u)])
    (good : wp (den [.rl (ns.map W.int)] []) (fun r _ => r = .bl true) (fun _ _ => False)) :
    codeAny (model P w) callerA (.call (.ref fa) ⟨[.ref a], []⟩) (fun r s' => r = .ok (.ret (.bool true)) ∧ OldK s₁.heap s'.heap ∧ s'.os = s₁.os ∧ AllBare s'.gens) s₁ := by
  have rv := vals_of_ints hi
  have lenV := hi.length
  have core : ∀ H : Hp, Only H → FzL K H a (ns.map V.int) → HOk P w H s₁.heap → (∀ b, H b ≠ none → b = a) → (H a ≠ none → K.lookup a = none) →
      codeAny (model P w) callerA (.call (.ref fa) ⟨[.ref a], []⟩) (fun r s' => r = .ok (.ret (.bool true)) ∧ OldK s₁.heap s'.heap ∧ s'.os = s₁.os ∧ AllBare s'.gens) s₁ := by
    intro H hO hS hok hA hK
    have none_of : ∀ {b : Addr}, b ≠ a → H b = none := fun {b} hne => by
      cases q : H b with
      | none => rfl
      | some u => exact absurd (hA b (by rw [q]; exact fun z => nomatch z)) hne
    have nsB : ∀ {b : Addr} {m : Str → Option Value}, s₁.heap.Ns b m → (hidT s₁.heap H).Ns b m := fun {b m} ⟨o, es, ep, e, d, r⟩ => by
      refine ⟨o, es, ep, hidT_get e (none_of fun z => ?_), d, r⟩
      subst z
      rw [ha] at e
      cases e
      exact nomatch (show Data.seq vs.toArray _ = Data.dict es ep from d)
    have inB : K.In (hidT s₁.heap H) := fun b o e => hidT_get (inK b o e) (by
      cases q : H b with
      | none => rfl
      | some u =>
        have z : b = a := hA b (by rw [q]; exact fun z => nomatch z)
        subst z
        rw [hK (by rw [q]; exact fun z => nomatch z)] at e
        cases e)
    have mod : Mod K mg (hidT s₁.heap H) := ⟨inB, nsB hns, ⟨mb, nsB hb, hbb⟩, let ⟨mc, h1, h2⟩ := lim; ⟨mc, nsB h1, h2⟩⟩
    have e0 : Env0 P w K mg (hidT s₁.heap H) callerA [] s₁ H := ⟨rfl, mod, fun b o e => of_hidT e, Nat.le_of_eq (hidT_size _ _), trivial, fun b hb => (nomatch (show b ∈ ([] : List Addr) from hb)), hok, .of_eq hg⟩
    obtain ⟨g1, g2, g3, g4, g5⟩ := hG (hidT s₁.heap H)
    have fn := F _ inB (nsB hns)
    have sp : spN (G w (hidT s₁.heap H)) den [.ref a] H (fun v _ => v = .bl true) (fun _ _ _ => False) := by
      refine ⟨[.rl (ns.map W.int)], [], [], .cons (.rl (by rw [g3]; exact hS) (VRs.ints ns)) .nil, ⟨rfl, List.nodup_nil, fun n b o z _ => by simp at z⟩, wp_mono good (fun r S' e H' ρ' v _ _ rv => ?_) fun _ _ z => z.elim⟩
      subst e
      cases rv
      rfl
    have run := fn.run callerA [] s₁ H ⟨[.ref a], []⟩ [.ref a] [.ref a] _ _ hr rfl (by rw [g1, g2, g3, g4, g5]; exact e0) (bind s₁ (.ref a)) (.cons rfl .nil) sp
    rw [g1, g2] at run
    refine codeAny_mono run fun r s' h => ?_
    cases r with
    | error e =>
      obtain ⟨_, _, _, _, _, _, _, _, _, _, _, _, z⟩ := h
      exact z.elim
    | ok fl =>
      cases fl with
      | next => exact False.elim h
      | brk => exact False.elim h
      | cont => exact False.elim h
      | ret u =>
        obtain ⟨v, H', os, bare, un, hok', r', q⟩ := h
        have q' : v = .bl true := q
        subst q'
        obtain rfl : u = Value.bool true := r'
        refine ⟨rfl, OldK.of_keep fun b o e => ?_, os, bare⟩
        rcases hO b with z | ⟨ob, xs, z⟩
        · exact un.keep b o e z (fun y => nomatch (show b ∈ ([] : List Addr) from y)) (fun y => nomatch y)
        · obtain ⟨e1, _⟩ := hok b _ z
          obtain ⟨e2, _⟩ := hok' b _ (un.frzs b ob _ z)
          rw [e] at e1
          cases e1
          exact e2
  cases hk : K.lookup a with
  | some o =>
    have e := inK a o hk
    rw [ha] at e
    cases e
    exact core (fun _ => none) (fun _ => .inl rfl) (.inr ⟨_, vs.toArray, _, hk, rfl, rfl, rfl, by rw [List.size_toArray, lenV]; exact hl, by simpa using rv⟩) (fun b u z => nomatch (show (none : Option HO) = some u from z)) (fun b z => absurd rfl z) fun z => absurd rfl z
  | none =>
    refine core (fun b => if b = a then some (.frz { cls := .type "list", data := .seq vs.toArray } (.lst (ns.map V.int))) else none) (fun b => ?_) (.inl ⟨{ cls := .type "list", data := .seq vs.toArray }, if_pos rfl⟩) (fun b u z => ?_) (fun b z => ?_) fun _ => hk
    · by_cases hb : b = a
      · exact .inr ⟨_, _, if_pos hb⟩
      · exact .inl (if_neg hb)
    · by_cases hb : b = a
      · have z' := (if_pos hb).symm.trans z
        cases z'
        subst hb
        exact ⟨ha, by rw [List.length_map]; exact hl, vs, _, rv, ha⟩
      · exact nomatch (if_neg hb).symm.trans z
    · by_cases hb : b = a
      · exact hb
      · exact absurd (if_neg hb) z
/-- THE END -/
theorem walkG {l : PySem.W.OpenLaw} {n k : Nat} {q : Program} {loose : List Str} {XP : (Str → Option Value) → Heap → Prop} {YP : World → Heap → Prop} {d : DefRec} {K : Params → PySem.W.Frag} {x : Str} {den : List W → M W}
    (hn : l.most = some n) (hn2 : n ≤ sizeLine) (hdf : d.params.defaults = []) (hr : Room k callerA)
    (hY : ∀ (w : World) (h : Heap), YP w h → (K w.params).In h)
    (F : ∀ (w : World) (mg : Str → Option Value) (fa : Addr) (h : Heap), (K w.params).In h → h.Ns mainGlobals mg → mg d.name = some (.ref fa) →
      ∃ (fd : FuncData) (cl : Nat → Addr), (∀ (s : Shared) (u : Value), BindsTo s fd ⟨[u], []⟩ [(x, u)]) ∧
        ∀ base : Heap, (K w.params).In base → base.Ns mainGlobals mg → FnG ⟨l.prog, w, K w.params, mg, base, cl⟩ k fa fd [x] (spN ⟨l.prog, w, K w.params, mg, base, cl⟩ den))
    (good : ∀ ns : List Int, ns.length ≤ n → (∀ z ∈ ns, Builtin.Int.intBits z ≤ 1048576) → wp (den [.rl (ns.map W.int)] []) (fun r _ => r = .bl true) (fun _ _ => False)) :
    PySem.W.WalkO q loose XP YP l.row.toRowW d [] (fun f vs => PySem.call f vs) := by
  refine Att.attach_callB hn hdf fun w s₀ s₁ mg mb fa o pm cd doc a vs ns G Y ho hd hcd hmg hobj hints hlen hbits hg => ?_
  have inK := hY w _ Y
  obtain ⟨fd, cl, hb, hF⟩ := F w mg fa _ inK G.T.g hmg
  exact law_at (G := fun w b => ⟨l.prog, w, K w.params, mg, b, cl⟩) inK G.T.g G.T.b G.T.builtins G.T.nolimit hg hobj hints (Nat.le_trans hlen hn2) hr (fun b => ⟨rfl, rfl, rfl, rfl, rfl⟩) hF hb (good ns hlen hbits)
end N
namespace N
open PySem L2
/-- what an answer asks -/
def wO {α : Type} (o : Option α) (Q : α → Prop) : Prop := match o with
  | some a => Q a
  | none => False
theorem wO_some {α : Type} {a : α} {Q : α → Prop} : wO (some a) Q = Q a := rfl
theorem wO_none {α : Type} {Q : α → Prop} : wO (none : Option α) Q = False := rfl
theorem wO_map {α β : Type} {o : Option α} {f : α → β} {Q : β → Prop} : wO (o.map f) Q = wO o (fun a => Q (f a)) := by cases o <;> rfl
theorem wO_bind {α β : Type} {o : Option α} {f : α → Option β} {Q : β → Prop} : wO (o.bind f) Q = wO o (fun a => wO (f a) Q) := by cases o <;> rfl
theorem wO_ite {α : Type} {c : Prop} [Decidable c] {a b : Option α} {Q : α → Prop} : wO (if c then a else b) Q = if c then wO a Q else wO b Q := by split <;> rfl
theorem wO_of {α : Type} {o : Option α} {a : α} {Q : α → Prop} (e : o = some a) (q : Q a) : wO o Q := by rw [e]; exact q
theorem wp_congr {α : Type} {r : R α} {Q Q' : α → Store → Prop} {E : Ex → Store → Prop} (h : ∀ a S, Q a S = Q' a S) : wp r Q E = wp r Q' E := by
  cases r with
  | ok a S => exact h a S
  | exc x S => rfl
  | bad => rfl
section
variable {α β : Type} {S : Store} {ε : Ev} {Q : α → Store → Prop} {E : Ex → Store → Prop} {D : NEnds}
theorem wp_ret {a : α} : wp (M.ret a S) Q E = Q a S := rfl
theorem wp_badM : wp ((bad : M α) S) Q E = False := rfl
theorem wp_lift {f : Store → Option (α × Store)} : wp (lift f S) Q E = wO (f S) (fun p => Q p.1 p.2) := by
  unfold lift wO
  cases f S with
  | none => rfl
  | some p => cases p; rfl
theorem wp_chk {b : Bool} {Q : Unit → Store → Prop} : wp (chk b S) Q E = (b = true ∧ Q () S) := by
  unfold chk
  cases b <;> simp [wp]
theorem wp_alloc {o : O} {Q : W → Store → Prop} : wp (alloc o S) Q E = Q (.ref S.length) (S ++ [o]) := rfl
theorem wp_grd {g : Store → Prop} {Q : Unit → Store → Prop} : wp (grd g S) Q E = (g S ∧ Q () S) := by
  unfold grd
  by_cases h : g S
  · rw [if_pos h]; simp [wp, h]
  · rw [if_neg h]; simp [wp, h]
theorem wp_tgt {t : DT} {w : W} {ε0 : Ev} {Q : Ev → Store → Prop} : wp (tgt t w ε0 S) Q E = wO (t w ε0 S) (fun ε' => Q ε' S) := by
  unfold tgt wO
  cases t w ε0 S <;> rfl
theorem wp_noXe {m : M α} : wp (noX m S) Q E = wp (m S) Q (fun _ _ => False) := by
  unfold noX
  cases m S <;> rfl
end
section
variable {S : Store} {ε : Ev} {Q : W → Store → Prop} {E : Ex → Store → Prop} {D : NEnds}
theorem wp_dVar {i : Nat} : wp (dVar i ε S) Q E = wO (ε[i]?) (fun o => wO o fun w => Q w S) := by
  unfold dVar wO
  cases ε[i]? with
  | none => rfl
  | some o => cases o <;> rfl
theorem wp_dC {w : W} : wp (dC w ε S) Q E = Q w S := rfl
theorem wp_aNil {Q : List W → Store → Prop} : wp (aNil ε S) Q E = Q [] S := rfl
theorem wp_aCons {d : DE} {e : DA} {Q : List W → Store → Prop} : wp (aCons d e ε S) Q E = wp (d ε S) (fun w S1 => wp (e ε S1) (fun ws S2 => Q (w :: ws) S2) E) E := by
  unfold aCons
  simp only [wp_bind, wp_ret]
theorem wp_dTup {a : DA} : wp (dTup a ε S) Q E = wp (a ε S) (fun ws S1 => lenOk ws.length = true ∧ Q (.tup ws) S1) E := by
  unfold dTup
  simp only [wp_bind, wp_chk, wp_ret]
theorem wp_dLst {a : DA} : wp (dLst a ε S) Q E = wp (a ε S) (fun ws S1 => lenOk ws.length = true ∧ Q (.ref S1.length) (S1 ++ [.lst ws])) E := by
  unfold dLst
  simp only [wp_bind, wp_chk, wp_alloc]
theorem wp_dOp {op : Op2} {d e : DE} : wp (dOp op d e ε S) Q E = wp (d ε S) (fun a S1 => wp (e ε S1) (fun b S2 => wO (op a b S2) fun p => Q p.1 p.2) E) E := by
  unfold dOp
  simp only [wp_bind, wp_lift]
theorem wp_dUn {op : Op1} {d : DE} : wp (dUn op d ε S) Q E = wp (d ε S) (fun a S1 => wO (op a S1) fun p => Q p.1 p.2) E := by
  unfold dUn
  simp only [wp_bind, wp_lift]
theorem wp_dFn {op : OpA} {a : DA} : wp (dFn op a ε S) Q E = wp (a ε S) (fun a S1 => wO (op a S1) fun p => Q p.1 p.2) E := by
  unfold dFn
  simp only [wp_bind, wp_lift]
/-- a truth asked for -/
def wB (w : W) (Q : Bool → Prop) : Prop := match w with
  | .bl b => Q b
  | _ => False
theorem wB_bl {b : Bool} {Q : Bool → Prop} : wB (.bl b) Q = Q b := rfl
theorem wp_dChain {op op' : Op2} {d e f : DE} : wp (dChain op op' d e f ε S) Q E = wp (d ε S) (fun a S1 => wp (e ε S1) (fun b S2 => wO (op a b S2) fun p => wB p.1 fun z => if z = true then wp (f ε p.2) (fun y S3 => wO (op' b y S3) fun q => Q q.1 q.2) E else Q (.bl false) p.2) E) E := by
  unfold dChain
  simp only [wp_bind, wp_lift]
  congr 1; funext a S1; congr 1; funext b S2; congr 1; funext p
  obtain ⟨z, S3⟩ := p
  cases z with
  | bl z => cases z <;> simp [wB, wp_bind, wp_lift, wp_ret]
  | _ => rfl
theorem wp_dTru {d : DE} {Q : Bool → Store → Prop} : wp (dTru d ε S) Q E = wp (d ε S) (fun w S1 => wO (truthW w S1) fun b => Q b S1) E := by
  unfold dTru
  simp only [wp_bind, wp_lift, wO_map]
theorem wp_dBool {d : DE} {Q : Bool → Store → Prop} : wp (dBool d ε S) Q E = wp (d ε S) (fun w S1 => wB w fun b => Q b S1) E := by
  unfold dBool
  simp only [wp_bind]
  congr 1; funext w S1
  cases w <;> rfl
theorem wp_dNot {d : DB} {Q : Bool → Store → Prop} : wp (dNot d ε S) Q E = wp (d ε S) (fun b S1 => Q (!b) S1) E := by
  unfold dNot
  simp only [wp_bind, wp_ret]
theorem wp_dAnd {d e : DB} {Q : Bool → Store → Prop} : wp (dAnd d e ε S) Q E = wp (d ε S) (fun b S1 => if b = true then wp (e ε S1) Q E else Q false S1) E := by
  unfold dAnd
  simp only [wp_bind]
  congr 1; funext b S1
  cases b <;> rfl
theorem wp_dOr {d e : DB} {Q : Bool → Store → Prop} : wp (dOr d e ε S) Q E = wp (d ε S) (fun b S1 => if b = true then Q true S1 else wp (e ε S1) Q E) E := by
  unfold dOr
  simp only [wp_bind]
  congr 1; funext b S1
  cases b <;> rfl
theorem wp_dAndV {d e : DE} : wp (dAndV d e ε S) Q E = wp (d ε S) (fun w S1 => wB w fun b => if b = true then wp (e ε S1) Q E else Q (.bl false) S1) E := by
  unfold dAndV
  simp only [wp_bind]
  congr 1; funext w S1
  cases w with
  | bl b => cases b <;> rfl
  | _ => rfl
theorem wp_dOrV {d e : DE} : wp (dOrV d e ε S) Q E = wp (d ε S) (fun w S1 => wB w fun b => if b = true then Q (.bl true) S1 else wp (e ε S1) Q E) E := by
  unfold dOrV
  simp only [wp_bind]
  congr 1; funext w S1
  cases w with
  | bl b => cases b <;> rfl
  | _ => rfl
theorem wp_dNotV {d : DE} : wp (dNotV d ε S) Q E = wp (d ε S) (fun w S1 => wB w fun b => Q (.bl (!b)) S1) E := by
  unfold dNotV
  simp only [wp_bind]
  congr 1; funext w S1
  cases w <;> rfl
theorem wp_dIfE {t : DB} {d e : DE} : wp (dIfE t d e ε S) Q E = wp (t ε S) (fun b S1 => if b = true then wp (d ε S1) Q E else wp (e ε S1) Q E) E := by
  unfold dIfE
  simp only [wp_bind]
  congr 1; funext b S1
  cases b <;> rfl
theorem wp_dYes {Q : Bool → Store → Prop} : wp (dYes ε S) Q E = Q true S := rfl
theorem wp_dCall {f : List W → M W} {a : DA} : wp (dCall f a ε S) Q E = wp (a ε S) (fun ws S1 => wp (f ws S1) Q E) E := by
  unfold dCall
  simp only [wp_bind]
theorem wp_dCallK {f : List W → M W} {na nk : Nat} {dW : List W} {perm : List Nat} {a b : DA} : wp (dCallK f na nk dW perm a b ε S) Q E = wp (a ε S) (fun ws S1 => wp (b ε S1) (fun us S2 => ws.length = na ∧ us.length = nk ∧ wO (permW perm (ws ++ us ++ dW)) fun zs => wp (f zs S2) Q E) E) E := by
  unfold dCallK
  refine wp_bind.trans (wp_congr fun ws S1 => wp_bind.trans (wp_congr fun us S2 => ?_))
  by_cases h : ws.length = na ∧ us.length = nk
  · rw [if_pos h]
    simp only [h.1, h.2, true_and]
    cases permW perm (ws ++ us ++ dW) <;> rfl
  · rw [if_neg h]
    simp only [wp_bad]
    refine propext ⟨False.elim, fun z => h ⟨z.1, z.2.1⟩⟩
theorem wp_dIsi {T : String} {d : DE} : wp (dIsi T d ε S) Q E = wp (d ε S) (fun w S1 => wO (tyN w S1) fun t => Q (.bl (isT t T)) S1) E := by
  unfold dIsi
  simp only [wp_bind, wp_lift, wO_map]
theorem wp_dIsi2 {T1 T2 : String} {d : DE} : wp (dIsi2 T1 T2 d ε S) Q E = wp (d ε S) (fun w S1 => wO (tyN w S1) fun t => Q (.bl (isT t T1 || isT t T2)) S1) E := by
  unfold dIsi2
  simp only [wp_bind, wp_lift, wO_map]
theorem wp_dMt {T : String} {op : OpM} {d : DE} {a : DA} : wp (dMt T op d a ε S) Q E = wp (d ε S) (fun w S1 => tyM T w S1 = true ∧ wp (a ε S1) (fun ws S2 => wO (op w ws S2) fun p => Q p.1 p.2) E) E := by
  unfold dMt
  refine wp_bind.trans (wp_congr fun w S1 => wp_bind.trans ?_)
  unfold chkT
  by_cases h : tyM T w S1 = true
  · rw [if_pos h]
    simp only [h, true_and]
    refine wp_bind.trans (wp_congr fun ws S2 => wp_lift)
  · rw [if_neg h]
    simp [h]
theorem wp_oN {Q : Option Int → Store → Prop} : wp (oN ε S) Q E = Q none S := rfl
/-- an integer asked for -/
def wI (w : W) (Q : Int → Prop) : Prop := match w with
  | .int i => Q i
  | _ => False
theorem wI_int {i : Int} {Q : Int → Prop} : wI (.int i) Q = Q i := rfl
theorem wp_oS {d : DE} {Q : Option Int → Store → Prop} : wp (oS d ε S) Q E = wp (d ε S) (fun w S1 => wI w fun i => Q (some i) S1) E := by
  unfold oS
  simp only [wp_bind]
  congr 1; funext w S1
  cases w <;> rfl
theorem wp_dSl {d : DE} {l h : DO} : wp (dSl d l h ε S) Q E = wp (d ε S) (fun w S1 => wp (l ε S1) (fun lo S2 => wp (h ε S2) (fun hi S3 => wO (opSl w lo hi S3) fun p => Q p.1 p.2) E) E) E := by
  unfold dSl
  simp only [wp_bind, wp_lift]
theorem wp_dSrc {d : DE} {Q : Src → Store → Prop} : wp (dSrc d ε S) Q E = wp (d ε S) (fun w S1 => wO (srcW w S1) fun p => Q p S1) E := by
  unfold dSrc
  refine wp_bind.trans (wp_congr fun w S1 => ?_)
  cases srcW w S1 <;> rfl
theorem wp_dZip {a : DA} {Q : Src → Store → Prop} : wp (dZip a ε S) Q E = wp (a ε S) (fun ws S1 => match ws with
    | [x, y] => wO (zipW x y S1) fun p => Q p S1
    | _ => False) E := by
  unfold dZip
  refine wp_bind.trans (wp_congr fun ws S1 => ?_)
  match ws with
  | [] => rfl
  | [_] => rfl
  | [x, y] =>
    show wp (match zipW x y S1 with | some p => R.ok p S1 | none => R.bad) Q E = wO (zipW x y S1) fun p => Q p S1
    cases zipW x y S1 <;> rfl
  | _ :: _ :: _ :: _ => rfl
theorem wp_dRng1 {a : DA} {Q : Src → Store → Prop} : wp (dRng1 a ε S) Q E = wp (a ε S) (fun ws S1 => match ws with
    | [.int j] => bnd j = true ∧ Q ⟨rngW 0 j.toNat, fun _ => True⟩ S1
    | _ => False) E := by
  unfold dRng1
  refine wp_bind.trans (wp_congr fun ws S1 => ?_)
  match ws with
  | [.int j] => cases h : bnd j <;> simp [h, wp]
  | [.non] => rfl
  | [.bl _] => rfl
  | [.str _] => rfl
  | [.tup _] => rfl
  | [.ref _] => rfl
  | [.rl _] => rfl
  | [] => rfl
  | _ :: _ :: _ => simp
theorem wp_dRng2 {a : DA} {Q : Src → Store → Prop} : wp (dRng2 a ε S) Q E = wp (a ε S) (fun ws S1 => ∃ i j, ws = [.int i, .int j] ∧ bnd i = true ∧ bnd j = true ∧ Q ⟨rngW i (j - i).toNat, fun _ => True⟩ S1) E := by
  unfold dRng2
  refine wp_bind.trans (wp_congr fun ws S1 => ?_)
  by_cases h : ∃ i j, ws = [.int i, .int j]
  · obtain ⟨i, j, rfl⟩ := h
    refine propext ⟨fun z => ⟨i, j, rfl, ?_⟩, fun ⟨i', j', e, b1, b2, q⟩ => ?_⟩
    · cases h1 : bnd i <;> cases h2 : bnd j <;> simp_all [wp]
    · cases e
      simp only [b1, b2, Bool.and_self, if_true]
      exact q
  · have e : (∃ i j, ws = [W.int i, W.int j] ∧ bnd i = true ∧ bnd j = true ∧ Q ⟨rngW i (j - i).toNat, fun _ => True⟩ S1) = False := by
      refine propext ⟨fun ⟨i, j, e, _⟩ => h ⟨i, j, e⟩, False.elim⟩
    rw [e]
    split
    · exact (h ⟨_, _, rfl⟩).elim
    · rfl
theorem wp_dEnum {a : DA} {Q : Src → Store → Prop} : wp (dEnum a ε S) Q E = wp (a ε S) (fun ws S1 => ∃ n l, ws = [.ref n] ∧ S1[n]? = some (.lst l) ∧ Q ⟨enumL l, fun S' => S'[n]? = some (.lst l)⟩ S1) E := by
  unfold dEnum
  refine wp_bind.trans (wp_congr fun ws S1 => ?_)
  by_cases h : ∃ n l, ws = [.ref n] ∧ S1[n]? = some (.lst l)
  · obtain ⟨n, l, rfl, e⟩ := h
    simp [e, wp]
  · have e : (∃ n l, ws = [W.ref n] ∧ S1[n]? = some (.lst l) ∧ Q ⟨enumL l, fun S' => S'[n]? = some (.lst l)⟩ S1) = False := by
      refine propext ⟨fun ⟨i, j, e, e2, _⟩ => h ⟨i, j, e, e2⟩, False.elim⟩
    rw [e]
    split
    · split
      · rename_i l e2; exact (h ⟨_, _, rfl, e2⟩).elim
      · rfl
    · rfl
theorem wp_dLc {d : DI} {t : DT} {cnd : DB} {el : DE} {vs : List Nat} : wp (dLc d t cnd el vs ε S) Q E = wp (d ε S) (fun p S1 => lenOk p.items.length = true ∧ wp (lcL t cnd el p.g (wipeE ε vs) p.items S1) (fun ws S2 => Q (.ref S2.length) (S2 ++ [.lst ws])) E) E := by
  unfold dLc
  simp only [wp_bind, wp_chk, wp_alloc]
/-! ### statements -/
theorem wpS_sBind {α : Type} {m : M α} {f : α → Store → RS} : wpS (sBind m ε S f) D = wp (m S) (fun a S1 => wpS (f a S1) D) (fun x S1 => D.ex x ε S1) := by
  unfold sBind
  cases m S <;> rfl
theorem wpS_nx {ε : Ev} {S : Store} : wpS (.nx ε S) D = D.nx ε S := rfl
theorem wpS_rt {w : W} {S : Store} : wpS (.rt w S) D = D.rt w S := rfl
theorem wpS_bk : wpS (.bk ε S) D = D.bk ε S := rfl
theorem wpS_ct : wpS (.ct ε S) D = D.ct ε S := rfl
theorem wpS_exc {x : Ex} : wpS (.exc x ε S) D = D.ex x ε S := rfl
theorem wpS_bad : wpS .bad D = False := rfl
theorem wpS_ite {c : Prop} [Decidable c] {a b : RS} : wpS (if c then a else b) D = if c then wpS a D else wpS b D := by split <;> rfl
theorem wpS_dSeq {d e : DS} : wpS (dSeq d e ε S) D = wpS (d ε S) ⟨fun ε1 S1 => wpS (e ε1 S1) D, D.rt, D.bk, D.ct, D.ex⟩ := by
  unfold dSeq
  cases d ε S <;> rfl
theorem wpS_dNx : wpS (dNx ε S) D = D.nx ε S := rfl
theorem wpS_dBk : wpS (dBk ε S) D = D.bk ε S := rfl
theorem wpS_dCt : wpS (dCt ε S) D = D.ct ε S := rfl
theorem wpS_dDrop {d : DE} : wpS (dDrop d ε S) D = wp (d ε S) (fun _ S1 => D.nx ε S1) (fun x S1 => D.ex x ε S1) := by
  unfold dDrop; rw [wpS_sBind]; rfl
theorem wpS_dRet {d : DE} : wpS (dRet d ε S) D = wp (d ε S) (fun w S1 => D.rt w S1) (fun x S1 => D.ex x ε S1) := by
  unfold dRet; rw [wpS_sBind]; rfl
theorem wpS_dRetN : wpS (dRetN ε S) D = D.rt .non S := rfl
theorem wpS_dIf {c : DB} {t u : DS} : wpS (dIf c t u ε S) D = wp (c ε S) (fun b S1 => if b = true then wpS (t ε S1) D else wpS (u ε S1) D) (fun x S1 => D.ex x ε S1) := by
  unfold dIf; rw [wpS_sBind]
  congr 1; funext b S1
  cases b <;> rfl
theorem wpS_dSet {i : Nat} {d : DE} : wpS (dSet i d ε S) D = wp (d ε S) (fun w S1 => D.nx (ε.set i (some w)) S1) (fun x S1 => D.ex x ε S1) := by
  unfold dSet; rw [wpS_sBind]; rfl
theorem wpS_dAsg {t : DT} {d : DE} : wpS (dAsg t d ε S) D = wp (d ε S) (fun w S1 => wO (t w ε S1) fun ε1 => D.nx ε1 S1) (fun x S1 => D.ex x ε S1) := by
  unfold dAsg; rw [wpS_sBind]
  congr 1; funext w S1
  cases t w ε S1 <;> rfl
theorem wpS_dPar {i j : Nat} {a : DA} : wpS (dPar i j a ε S) D = wp (a ε S) (fun ws S1 => match ws with
    | [w, u] => D.nx ((ε.set i (some w)).set j (some u)) S1
    | _ => False) (fun x S1 => D.ex x ε S1) := by
  unfold dPar; rw [wpS_sBind]
  congr 1; funext ws S1
  match ws with
  | [] => rfl
  | [_] => rfl
  | [x, y] => rfl
  | _ :: _ :: _ :: _ => rfl
theorem wpS_dPut {d o i : DE} : wpS (dPut d o i ε S) D = wp (d ε S) (fun v S1 => wp (o ε S1) (fun w S2 => wp (i ε S2) (fun j S3 => wO (setIx w j v S3) fun S4 => D.nx ε S4) (fun x S1 => D.ex x ε S1)) (fun x S1 => D.ex x ε S1)) (fun x S1 => D.ex x ε S1) := by
  unfold dPut; simp only [wpS_sBind]
  congr 1; funext v S1; congr 1; funext w S2; congr 1; funext j S3
  cases setIx w j v S3 <;> rfl
theorem wpS_dRaise {i : Nat} : wpS (dRaise i ε S) D = D.ex ⟨i, none⟩ ε S := rfl
theorem wpS_dFor {d : DI} {t : DT} {b : DS} : wpS (dFor d t b ε S) D = wp (d ε S) (fun p S1 => wpS (forL t b p.g p.items ε S1) D) (fun x S1 => D.ex x ε S1) := by
  unfold dFor; rw [wpS_sBind]
theorem wp_dfn {N n : Nat} {d : DS} {ws : List W} : wp (dfn N n d ws S) Q E = (ws.length = n ∧ wpS (d (ws.map some ++ List.replicate (N - n) none) S) ⟨fun _ S1 => Q .non S1, fun w S1 => Q w S1, fun _ _ => False, fun _ _ => False, fun x _ S1 => E x S1⟩) := by
  unfold dfn
  by_cases h : ws.length = n
  · rw [if_pos h]
    simp only [h, true_and]
    cases d (ws.map some ++ List.replicate (N - n) none) S <;> rfl
  · rw [if_neg h]
    simp [h]
end
/-! ### loops -/
theorem wpS_forL {t : DT} {body : DS} {g : Store → Prop} {D : NEnds} : ∀ {items : List W} {ε : Ev} {S : Store} (I : Nat → Ev → Store → Prop), I 0 ε S → (∀ i ε S, i ≤ items.length → I i ε S → g S) →
    (∀ i x ε S, items[i]? = some x → I i ε S → wO (t x ε S) fun ε1 => wpS (body ε1 S) ⟨fun ε' S' => I (i + 1) ε' S', D.rt, D.nx, fun ε' S' => I (i + 1) ε' S', D.ex⟩) →
    (∀ ε S, I items.length ε S → D.nx ε S) → wpS (forL t body g items ε S) D
  | [], ε, S, I, h0, hg, hs, hd => by
    unfold forL
    rw [if_pos (hg 0 _ _ (Nat.zero_le _) h0)]
    exact hd _ _ h0
  | x :: xs, ε, S, I, h0, hg, hs, hd => by
    unfold forL
    rw [if_pos (hg 0 _ _ (Nat.zero_le _) h0)]
    have h := hs 0 x ε S rfl h0
    cases z : t x ε S with
    | none => rw [z] at h; exact h.elim
    | some ε1 =>
      rw [z] at h
      have h : wpS (body ε1 S) _ := h
      have hrec : ∀ ε2 S2, I 1 ε2 S2 → wpS (forL t body g xs ε2 S2) D := fun ε2 S2 q =>
        wpS_forL (fun i => I (i + 1)) q (fun i ε S hi q => hg (i + 1) ε S (by simpa using hi) q) (fun i x ε S e q => hs (i + 1) x ε S (by simpa using e) q) (fun ε S q => hd ε S q)
      show wpS (match body ε1 S with
        | .nx ε2 S2 => forL t body g xs ε2 S2
        | .ct ε2 S2 => forL t body g xs ε2 S2
        | .bk ε2 S2 => .nx ε2 S2
        | r => r) D
      cases b : body ε1 S with
      | nx ε2 S2 => rw [b] at h; exact hrec _ _ h
      | ct ε2 S2 => rw [b] at h; exact hrec _ _ h
      | bk ε2 S2 => rw [b] at h; exact h
      | rt w S2 => rw [b] at h; exact h
      | exc x ε2 S2 => rw [b] at h; exact h
      | bad => rw [b] at h; exact h.elim
theorem wp_lcL {t : DT} {cnd : DB} {el : DE} {g : Store → Prop} {ε0 : Ev} {E : Ex → Store → Prop} : ∀ {items acc : List W} {S : Store} (I : Nat → List W → Store → Prop), I 0 acc S → (∀ i acc S, i ≤ items.length → I i acc S → g S) →
    (∀ i x acc S, items[i]? = some x → I i acc S → wO (t x ε0 S) fun ε1 => wp (cnd ε1 S) (fun b S1 => if b = true then wp (el ε1 S1) (fun w S2 => I (i + 1) (acc ++ [w]) S2) (fun _ _ => False) else I (i + 1) acc S1) (fun _ _ => False)) →
    wp (lcL t cnd el g ε0 items S) (fun ws S' => I items.length (acc ++ ws) S') E
  | [], acc, S, I, h0, hg, hs => by
    unfold lcL
    simp only [wp_bind, wp_grd, wp_ret]
    exact ⟨hg 0 _ _ (Nat.zero_le _) h0, by simpa using h0⟩
  | x :: xs, acc, S, I, h0, hg, hs => by
    unfold lcL
    simp only [wp_bind, wp_grd, wp_tgt, wp_noXe]
    refine ⟨hg 0 _ _ (Nat.zero_le _) h0, ?_⟩
    have h := hs 0 x acc S rfl h0
    cases z : t x ε0 S with
    | none => rw [z] at h; exact h.elim
    | some ε1 =>
      rw [z] at h
      have hrec : ∀ acc S, I 1 acc S → wp (lcL t cnd el g ε0 xs S) (fun ws S' => I (xs.length + 1) (acc ++ ws) S') E := fun acc S q =>
        wp_lcL (fun i => I (i + 1)) q (fun i acc S hi q => hg (i + 1) acc S (by simpa using hi) q) (fun i x acc S e q => hs (i + 1) x acc S (by simpa using e) q)
      show wp (cnd ε1 S) _ _
      refine wp_mono (h : wp (cnd ε1 S) _ _) (fun b S1 q => ?_) (fun _ _ f => f)
      cases b with
      | false => exact hrec _ _ q
      | true =>
        show wp ((noX (el ε1) >>= fun w => lcL t cnd el g ε0 xs >>= fun ws => M.ret (w :: ws)) S1) _ _
        simp only [wp_bind, wp_noXe, wp_ret]
        refine wp_mono (q : wp (el ε1 S1) _ _) (fun w S2 q2 => ?_) (fun _ _ f => f)
        refine wp_mono (hrec _ _ q2) (fun ws S3 q3 => ?_) (fun _ _ f => f)
        simpa using q3
theorem wpS_whL {t : DB} {body : DS} {D : NEnds} (I : Nat → Ev → Store → Prop) (hs : ∀ n ε S, I n ε S → wp (t ε S) (fun b S1 => if b = true then wpS (body ε S1) ⟨fun ε' S' => ∃ m, m < n ∧ I m ε' S', D.rt, D.nx, fun ε' S' => ∃ m, m < n ∧ I m ε' S', D.ex⟩ else D.nx ε S1) (fun x S1 => D.ex x ε S1)) :
    ∀ (f n : Nat) {ε : Ev} {S : Store}, n < f → I n ε S → wpS (whL t body f ε S) D
  | 0, n, ε, S, h, _ => absurd h (Nat.not_lt_zero _)
  | f + 1, n, ε, S, h, h0 => by
    unfold whL
    rw [wpS_sBind]
    refine wp_mono (hs n ε S h0) (fun b S1 q => ?_) (fun _ _ q => q)
    cases b with
    | false => exact q
    | true =>
      have q : wpS (body ε S1) _ := q
      show wpS (match body ε S1 with
        | .nx ε2 S2 => whL t body f ε2 S2
        | .ct ε2 S2 => whL t body f ε2 S2
        | .bk ε2 S2 => .nx ε2 S2
        | r => r) D
      cases b : body ε S1 with
      | nx ε2 S2 => rw [b] at q; obtain ⟨m, hm, q⟩ := q; exact wpS_whL I hs f m (by omega) q
      | ct ε2 S2 => rw [b] at q; obtain ⟨m, hm, q⟩ := q; exact wpS_whL I hs f m (by omega) q
      | bk ε2 S2 => rw [b] at q; exact q
      | rt w S2 => rw [b] at q; exact q
      | exc x ε2 S2 => rw [b] at q; exact q
      | bad => rw [b] at q; exact q.elim
theorem wpS_dWhile {t : DB} {body : DS} {D : NEnds} {ε : Ev} {S : Store} (n : Nat) (I : Nat → Ev → Store → Prop) (hn : n < 2 ^ 250) (h0 : I n ε S)
    (hs : ∀ n ε S, I n ε S → wp (t ε S) (fun b S1 => if b = true then wpS (body ε S1) ⟨fun ε' S' => ∃ m, m < n ∧ I m ε' S', D.rt, D.nx, fun ε' S' => ∃ m, m < n ∧ I m ε' S', D.ex⟩ else D.nx ε S1) (fun x S1 => D.ex x ε S1)) : wpS (dWhile t body ε S) D :=
  wpS_whL I hs fuel n hn h0
/-- a while that ends in P -/
theorem wpS_dWhileQ {t : DB} {body : DS} {D : NEnds} {ε : Ev} {S : Store} (n : Nat) (I : Nat → Ev → Store → Prop) (P : Ev → Store → Prop) (hn : n < 2 ^ 250) (h0 : I n ε S)
    (hs : ∀ n ε S, I n ε S → wp (t ε S) (fun b S1 => if b = true then wpS (body ε S1) ⟨fun ε' S' => ∃ m, m < n ∧ I m ε' S', fun _ _ => False, P, fun ε' S' => ∃ m, m < n ∧ I m ε' S', fun _ _ _ => False⟩ else P ε S1) (fun _ _ => False)) (hP : ∀ ε S, P ε S → D.nx ε S) : wpS (dWhile t body ε S) D :=
  wpS_mono (wpS_dWhile (D := ⟨P, fun _ _ => False, fun _ _ => False, fun _ _ => False, fun _ _ _ => False⟩) n I hn h0 hs) hP (fun _ _ h => h.elim) (fun _ _ h => h.elim) (fun _ _ h => h.elim) (fun _ _ _ h => h.elim)
/-- a statement that ends in P -/
theorem wpS_join {r : RS} {D : NEnds} (P : Ev → Store → Prop) (h : wpS r ⟨P, fun _ _ => False, fun _ _ => False, fun _ _ => False, fun _ _ _ => False⟩) (hP : ∀ ε S, P ε S → D.nx ε S) : wpS r D :=
  wpS_mono h hP (fun _ _ h => h.elim) (fun _ _ h => h.elim) (fun _ _ h => h.elim) (fun _ _ _ h => h.elim)
/-! ### what stays -/
/-- from S to S': grown, the places from B on as they were -/
structure Fr (B : Nat) (S S' : Store) : Prop where
  len : S.length ≤ S'.length
  get : ∀ (i : Nat) (o : O), B ≤ i → S[i]? = some o → S'[i]? = some o
theorem Fr.refl {B : Nat} {S : Store} : Fr B S S := ⟨Nat.le_refl _, fun _ _ _ e => e⟩
theorem Fr.trans {B : Nat} {S S' S2 : Store} (a : Fr B S S') (b : Fr B S' S2) : Fr B S S2 := ⟨Nat.le_trans a.len b.len, fun i o h e => b.get i o h (a.get i o h e)⟩
theorem Fr.up {B C : Nat} {S S' : Store} (a : Fr B S S') (h : B ≤ C) : Fr C S S' := ⟨a.len, fun i o hi e => a.get i o (Nat.le_trans h hi) e⟩
theorem Fr.app {B : Nat} {S T : Store} : Fr B S (S ++ T) := ⟨by simp, fun i o _ e => by rw [List.getElem?_append_left (List.getElem?_eq_some_iff.mp e).1]; exact e⟩
theorem Fr.snoc {B : Nat} {S S' T : Store} (a : Fr B S S') : Fr B S (S' ++ T) := a.trans .app
/-- a change at a place that S has not -/
theorem Fr.setN {B n : Nat} {S S' : Store} {o : O} (a : Fr B S S') (h : S.length ≤ n) : Fr B S (S'.set n o) := ⟨by simpa using a.len, fun i p hi e => by
  have := (List.getElem?_eq_some_iff.mp e).1
  rw [List.getElem?_set_ne (by omega)]
  exact a.get i p hi e⟩
theorem Fr.setB {B n : Nat} {S S' : Store} {o : O} (a : Fr B S S') (h : n < B) : Fr B S (S'.set n o) := ⟨by simpa using a.len, fun i p hi e => by
  rw [List.getElem?_set_ne (by omega)]
  exact a.get i p hi e⟩
theorem Fr.g0 {S S' : Store} (a : Fr 0 S S') {i : Nat} {o : O} (e : S[i]? = some o) : S'[i]? = some o := a.get i o (Nat.zero_le _) e
theorem get_new {S T : Store} {o : O} : (S ++ o :: T)[S.length]? = some o := by simp
theorem get_set {S : Store} {n : Nat} {o p : O} (e : S[n]? = some p) : (S.set n o)[n]? = some o := by
  rw [List.getElem?_set_self (List.getElem?_eq_some_iff.mp e).1]
theorem get_lt {S : Store} {n : Nat} {o : O} (e : S[n]? = some o) : n < S.length := (List.getElem?_eq_some_iff.mp e).1
end N
namespace N
open PySem L2
theorem opEq_int {i j : Int} {S : Store} : opEq (.int i) (.int j) S = some (.bl (i == j), S) := rfl
theorem opNe_int {i j : Int} {S : Store} : opNe (.int i) (.int j) S = some (.bl (!(i == j)), S) := rfl
theorem opEq_str {i j : Str} {S : Store} : opEq (.str i) (.str j) S = some (.bl (i == j), S) := rfl
theorem opNe_str {i j : Str} {S : Store} : opNe (.str i) (.str j) S = some (.bl (!(i == j)), S) := rfl
theorem opEq_bl {i j : Bool} {S : Store} : opEq (.bl i) (.bl j) S = some (.bl (i == j), S) := rfl
theorem opNe_bl {i j : Bool} {S : Store} : opNe (.bl i) (.bl j) S = some (.bl (!(i == j)), S) := rfl
theorem opAdd_int {i j : Int} {S : Store} : opAdd (.int i) (.int j) S = some (.int (i + j), S) := rfl
theorem opSub_int {i j : Int} {S : Store} : opSub (.int i) (.int j) S = some (.int (i - j), S) := rfl
theorem opMod_pos {i j : Int} {S : Store} : opMod (.int i) (.int j) S = if 0 < j then some (.int (i % j), S) else none := rfl
theorem opMul_int {i j : Int} {S : Store} : opMul (.int i) (.int j) S = if mulOk i j = true then some (.int (i * j), S) else none := rfl
theorem opFdiv_int {i j : Int} {S : Store} : opFdiv (.int i) (.int j) S = if divOk i j = true then some (.int (i / j), S) else none := rfl
theorem opPow_int {i j : Int} {S : Store} : opPow (.int i) (.int j) S = if powOk i j = true then some (.int (i ^ j.toNat), S) else none := rfl
theorem opLt_int {i j : Int} {S : Store} : opLt (.int i) (.int j) S = some (.bl (decide (i < j)), S) := rfl
theorem opLe_int {i j : Int} {S : Store} : opLe (.int i) (.int j) S = some (.bl (decide (i ≤ j)), S) := rfl
theorem opGt_int {i j : Int} {S : Store} : opGt (.int i) (.int j) S = some (.bl (decide (j < i)), S) := rfl
theorem opGe_int {i j : Int} {S : Store} : opGe (.int i) (.int j) S = some (.bl (decide (j ≤ i)), S) := rfl
theorem opLt_str {x y : Str} {S : Store} : opLt (.str x) (.str y) S = some (.bl (decide (x.cps.toList < y.cps.toList)), S) := rfl
theorem opLe_str {x y : Str} {S : Store} : opLe (.str x) (.str y) S = some (.bl (!decide (y.cps.toList < x.cps.toList)), S) := rfl
theorem opIsN_ref {n : Nat} {S : Store} : opIsN (.ref n) .non S = some (.bl false, S) := rfl
theorem opIsN_non {S : Store} : opIsN .non .non S = some (.bl true, S) := rfl
theorem opIsN_int {n : Int} {S : Store} : opIsN (.int n) .non S = some (.bl false, S) := rfl
theorem opIsN_bl {n : Bool} {S : Store} : opIsN (.bl n) .non S = some (.bl false, S) := rfl
theorem opIsN_tup {n : List W} {S : Store} : opIsN (.tup n) .non S = some (.bl false, S) := rfl
theorem opIsN_str {n : Str} {S : Store} : opIsN (.str n) .non S = some (.bl false, S) := rfl
theorem opIsN_any {w : W} {S : Store} : opIsN w .non S = some (.bl (isNon w), S) := rfl
theorem ixN_pos {n : Nat} {i : Int} (h0 : 0 ≤ i) (h1 : i < n) : ixN n i = some i.toNat := by unfold ixN; rw [if_pos h0, if_pos h1]
theorem atI_nn {α : Type} {xs : List α} {i : Int} (h : 0 ≤ i) : atI xs i = xs[i.toNat]? := by
  unfold atI ixN
  rw [if_pos h]
  by_cases h1 : i < xs.length
  · rw [if_pos h1]; rfl
  · rw [if_neg h1]
    have : xs.length ≤ i.toNat := by omega
    rw [List.getElem?_eq_none this]; rfl
theorem atI_0 {α : Type} {xs : List α} : atI xs 0 = xs[0]? := atI_nn (by decide)
theorem atI_1 {α : Type} {xs : List α} : atI xs 1 = xs[1]? := atI_nn (by decide)
theorem atI_2 {α : Type} {xs : List α} : atI xs 2 = xs[2]? := atI_nn (by decide)
theorem atI_3 {α : Type} {xs : List α} : atI xs 3 = xs[3]? := atI_nn (by decide)
theorem atI_n {α : Type} {xs : List α} {n : Nat} : atI xs (n : Int) = xs[n]? := atI_nn (by omega)
/-- the list at a place -/
def lstAt (S : Store) (n : Nat) : Option (List W) := match S[n]? with
  | some (.lst ws) => some ws
  | _ => none
theorem lstAt_of {S : Store} {n : Nat} {ws : List W} (e : S[n]? = some (.lst ws)) : lstAt S n = some ws := by unfold lstAt; rw [e]
theorem opIx_ref {n : Nat} {i : Int} {S : Store} : opIx (.ref n) (.int i) S = (lstAt S n).bind fun ws => (atI ws i).map fun w => (w, S) := by
  unfold opIx seqW lstAt
  rfl
theorem opIx_tup {ws : List W} {i : Int} {S : Store} : opIx (.tup ws) (.int i) S = (atI ws i).map fun w => (w, S) := rfl
theorem opIx_rl {ws : List W} {i : Int} {S : Store} : opIx (.rl ws) (.int i) S = (atI ws i).map fun w => (w, S) := rfl
theorem opLen_ref {n : Nat} {ws : List W} {S : Store} (e : S[n]? = some (.lst ws)) : opLen [.ref n] S = some (.int ws.length, S) := by
  unfold opLen lenW
  simp only [e]
  rfl
theorem opLen_tup {ws : List W} {S : Store} : opLen [.tup ws] S = some (.int ws.length, S) := rfl
theorem opLen_rl {ws : List W} {S : Store} : opLen [.rl ws] S = some (.int ws.length, S) := rfl
theorem opLen_str {x : Str} {S : Store} : opLen [.str x] S = if x.length ≤ sizeLine then some (.int x.length, S) else none := by
  unfold opLen lenW
  by_cases h : x.length ≤ sizeLine
  · simp [h]
  · simp [h]
theorem opMax2_int {i j : Int} {S : Store} : opMax2 [.int i, .int j] S = some (.int (if j > i then j else i), S) := rfl
theorem opMin2_int {i j : Int} {S : Store} : opMin2 [.int i, .int j] S = some (.int (if j < i then j else i), S) := rfl
theorem opInt_int {i : Int} {S : Store} : opInt [.int i] S = some (.int i, S) := rfl
theorem opInt_bl {i : Bool} {S : Store} : opInt [.bl i] S = some (.int (if i then 1 else 0), S) := rfl
theorem mAppend_ref {n : Nat} {w : W} {l : List W} {S : Store} (e : S[n]? = some (.lst l)) : mAppend (.ref n) [w] S = if l.length < sizeLine then some (.non, S.set n (.lst (l ++ [w]))) else none := by
  unfold mAppend
  simp only [e]
theorem setIx_ref {n : Nat} {i : Int} {v : W} {l : List W} {S : Store} (e : S[n]? = some (.lst l)) : setIx (.ref n) (.int i) v S = (ixN l.length i).map fun m => S.set n (.lst (l.set m v)) := by
  unfold setIx
  simp only [e]
theorem tyN_ref {n : Nat} {l : List W} {S : Store} (e : S[n]? = some (.lst l)) : tyN (.ref n) S = some "list" := by
  unfold tyN
  simp only [e]
theorem tyM_ref {n : Nat} {l : List W} {S : Store} (e : S[n]? = some (.lst l)) : tyM "list" (.ref n) S = true := by
  unfold tyM
  simp only [e]
  rfl
theorem tyN_non {S : Store} : tyN .non S = some "NoneType" := rfl
theorem tyN_bl {b : Bool} {S : Store} : tyN (.bl b) S = some "bool" := rfl
theorem tyN_int {b : Int} {S : Store} : tyN (.int b) S = some "int" := rfl
theorem tyN_str {b : Str} {S : Store} : tyN (.str b) S = some "str" := rfl
theorem tyN_tup {b : List W} {S : Store} : tyN (.tup b) S = some "tuple" := rfl
theorem tyN_rl {b : List W} {S : Store} : tyN (.rl b) S = some "list" := rfl
theorem truthW_bl {b : Bool} {S : Store} : truthW (.bl b) S = some b := rfl
theorem srcW_ref {n : Nat} {l : List W} {S : Store} (e : S[n]? = some (.lst l)) : srcW (.ref n) S = some ⟨l, fun S' => S'[n]? = some (.lst l)⟩ := by
  unfold srcW
  simp only [e]
theorem srcW_tup {l : List W} {S : Store} : srcW (.tup l) S = some ⟨l, fun _ => True⟩ := rfl
theorem srcW_rl {l : List W} {S : Store} : srcW (.rl l) S = some ⟨l, fun _ => True⟩ := rfl
theorem opAdd_ref {n m : Nat} {a b : List W} {S : Store} (h1 : S[n]? = some (.lst a)) (h2 : S[m]? = some (.lst b)) (h : a.length + b.length ≤ 1000000) : opAdd (.ref n) (.ref m) S = some (.ref S.length, S ++ [.lst (a ++ b)]) := by
  unfold opAdd
  simp only [h1, h2]
  rw [if_pos (by rw [sizeLine_eq]; omega)]
theorem opSl_ref {n : Nat} {a : List W} {lo hi : Option Int} {S : Store} (h1 : S[n]? = some (.lst a)) : opSl (.ref n) lo hi S = some (.ref S.length, S ++ [.lst (cutL a lo hi)]) := by
  unfold opSl
  have e : listW (.ref n) S = some a := by
    unfold listW
    simp only [h1]
  show (listW (.ref n) S).map _ = _
  rw [e]
  rfl
theorem lenOk_of {n : Nat} (h : n ≤ 1000000) : lenOk n = true := by
  unfold lenOk
  rw [sizeLine_eq]
  exact decide_eq_true (by omega)
theorem log2_lt {x : Int} {k : Nat} (h : x.natAbs < 2 ^ k) (hk : 0 < k) : x.natAbs.log2 < k := by
  by_cases z : x.natAbs = 0
  · rw [z]; simpa using hk
  · exact (Nat.log2_lt z).mpr h
theorem mulOk_of {i j : Int} (hi : i.natAbs < 2 ^ 1000) (hj : j.natAbs < 2 ^ 1000) : mulOk i j = true := by
  have h1 := log2_lt hi (by decide)
  have h2 := log2_lt hj (by decide)
  unfold mulOk
  exact decide_eq_true (by omega)
theorem pow3Ok {i : Int} (hi : i.natAbs < 2 ^ 1000) : powOk i 3 = true := by
  have h1 := log2_lt hi (by decide)
  unfold powOk
  refine decide_eq_true ⟨by decide, ?_⟩
  show (i.natAbs.log2 + 1) * 3 ≤ _
  omega
theorem pow2Ok {i : Int} (hi : i.natAbs < 2 ^ 1000) : powOk i 2 = true := by
  have h1 := log2_lt hi (by decide)
  unfold powOk
  refine decide_eq_true ⟨by decide, ?_⟩
  show (i.natAbs.log2 + 1) * 2 ≤ _
  omega
theorem divOk_of {i j : Int} (h0 : 0 < j) (hj : j.natAbs < 2 ^ 1000) : divOk i j = true := by
  have h2 := log2_lt hj (by decide)
  unfold divOk
  exact decide_eq_true ⟨h0, by omega⟩
/-! ### the deck -/
structure Deck (B n d : Nat) (S : Store) : Prop where
  bl : B ≤ S.length
  ex : ∃ (rs : Nat) (k : Int) (cs : List W), d < B ∧ rs < B ∧ d ≠ rs ∧ S[d]? = some (.lst [.ref rs, .int k]) ∧ S[rs]? = some (.lst cs) ∧ cs ≠ [] ∧
    ∀ c ∈ cs, ∃ (p : Nat) (a b t : Int), c = .ref p ∧ p < B ∧ p ≠ d ∧ p ≠ rs ∧ S[p]? = some (.lst [.int a, .int b, .int t]) ∧ 0 ≤ t ∧ t ≤ n
theorem Deck.mono {B n d m : Nat} {S S' : Store} (D : Deck B n d S) (h : n ≤ m) (f : Fr 0 S S') : Deck B m d S' := by
  obtain ⟨rs, k, cs, h1, h2, h3, h4, h5, h6, h7⟩ := D.ex
  refine ⟨Nat.le_trans D.bl f.len, rs, k, cs, h1, h2, h3, f.g0 h4, f.g0 h5, h6, fun c hc => ?_⟩
  obtain ⟨p, a, b, t, e1, e2, e3, e4, e5, e6, e7⟩ := h7 c hc
  exact ⟨p, a, b, t, e1, e2, e3, e4, f.g0 e5, e6, by omega⟩
theorem Deck.setB {B n d m k : Nat} {o : O} {S : Store} (D : Deck B n d S) (h : n ≤ m) (hk : B ≤ k) : Deck B m d (S.set k o) := by
  obtain ⟨rs, k', cs, h1, h2, h3, h4, h5, h6, h7⟩ := D.ex
  refine ⟨by rw [List.length_set]; exact D.bl, rs, k', cs, h1, h2, h3, by rw [List.getElem?_set_ne (by omega)]; exact h4, by rw [List.getElem?_set_ne (by omega)]; exact h5, h6, fun c hc => ?_⟩
  obtain ⟨p, a, b, t, e1, e2, e3, e4, e5, e6, e7⟩ := h7 c hc
  exact ⟨p, a, b, t, e1, e2, e3, e4, by rw [List.getElem?_set_ne (by omega)]; exact e5, e6, by omega⟩
def d_law_draw : DS :=
  dSeq (dSet 2 (dOp opIx (dOp opIx (dVar 0) (dC (.int 0))) (dOp opMod (dOp opIx (dVar 0) (dC (.int 1))) (dFn opLen (aCons (dOp opIx (dVar 0) (dC (.int 0))) aNil)))))
  (dSeq (dPut (dOp opAdd (dOp opIx (dVar 0) (dC (.int 1))) (dC (.int 1))) (dVar 0) (dC (.int 1)))
  (dSeq (dIf (dAnd (dBool (dOp opEq (dOp opIx (dVar 2) (dC (.int 1))) (dC (.int 1)))) (dBool (dOp opGt (dOp opIx (dVar 2) (dC (.int 0))) (dC (.int 0))))) (dSeq (dSet 4 (dOp opMod (dOp opIx (dVar 2) (dC (.int 0))) (dVar 1)))
  (dSeq (dPut (dOp opFdiv (dOp opIx (dVar 2) (dC (.int 0))) (dVar 1)) (dVar 2) (dC (.int 0)))
  (dRet (dVar 4)))) (dNx))
  (dSeq (dPut (dOp opAdd (dOp opIx (dVar 2) (dC (.int 2))) (dC (.int 1))) (dVar 2) (dC (.int 2)))
  (dSeq (dSet 3 (dOp opAdd (dOp opMod (dOp opIx (dVar 2) (dC (.int 0))) (dC (.int 162259276829213363391578010288127))) (dOp opMul (dC (.int 982451653)) (dOp opIx (dVar 2) (dC (.int 2))))))
  (dSeq (dSet 3 (dOp opMod (dOp opPow (dVar 3) (dC (.int 3))) (dC (.int 618970019642690137449562111))))
  (dSeq (dSet 3 (dOp opMod (dOp opPow (dOp opAdd (dVar 3) (dOp opMul (dC (.int 49979687)) (dOp opIx (dVar 2) (dC (.int 2))))) (dC (.int 3))) (dC (.int 162259276829213363391578010288127))))
  (dRet (dOp opMod (dOp opFdiv (dVar 3) (dC (.int 524288))) (dVar 1)))))))))
def n_law_draw : List W → M W := dfn 5 2 d_law_draw
/-- a draw -/
theorem draw_spec {B n d : Nat} {S : Store} {m : Int} {E : Ex → Store → Prop} (D : Deck B n d S) (hn : n < 2 ^ 100) (h0 : 0 < m) (h1 : m < 2 ^ 900) :
    wp (n_law_draw [.ref d, .int m] S) (fun r S' => ∃ k : Int, r = .int k ∧ 0 ≤ k ∧ k < m ∧ Deck B (n + 1) d S' ∧ Fr B S S' ∧ S'.length = S.length) E := by
  obtain ⟨rs, k, cs, hd, hrs, hne, e1, e2, hcs, hcards⟩ := D.ex
  have hpos : (0 : Int) < (cs.length : Int) := by
    cases cs with
    | nil => exact absurd rfl hcs
    | cons _ _ => simp only [List.length_cons]; omega
  have m0 : 0 ≤ k % (cs.length : Int) := Int.emod_nonneg _ (by omega)
  have m1 : k % (cs.length : Int) < cs.length := Int.emod_lt_of_pos _ hpos
  obtain ⟨c, hc⟩ : ∃ c, cs[(k % (cs.length : Int)).toNat]? = some c := by
    have : (k % (cs.length : Int)).toNat < cs.length := by omega
    exact ⟨_, List.getElem?_eq_getElem this⟩
  obtain ⟨p, a, b, t, rfl, hp, hpd, hprs, e3, t0, t1⟩ := hcards c (List.mem_of_getElem? hc)
  unfold n_law_draw d_law_draw
  simp only [wp_ok, wp_exc, wp_ret, wp_badM, wp_lift, wp_chk, wp_alloc, wp_grd, wp_tgt, wp_noXe, wp_dVar, wp_dC, wp_aNil, wp_aCons, wp_dTup, wp_dLst, wp_dOp, wp_dUn, wp_dFn, wB_bl, wp_dChain, wp_dTru, wp_dBool, wp_dNot, wp_dAnd, wp_dOr, wp_dAndV, wp_dOrV, wp_dNotV, wp_dIfE, wp_dYes, wp_dCall, wp_dCallK, wp_dIsi, wp_dIsi2, wp_dMt, wp_oN, wI_int, wp_oS, wp_dSl, wp_dSrc, wp_dZip, wp_dRng1, wp_dRng2, wp_dEnum, wp_dLc, wpS_nx, wpS_rt, wpS_bk, wpS_ct, wpS_exc, wpS_bad, wpS_ite, wpS_dSeq, wpS_dNx, wpS_dBk, wpS_dCt, wpS_dDrop, wpS_dRet, wpS_dRetN, wpS_dIf, wpS_dSet, wpS_dAsg, wpS_dPar, wpS_dPut, wpS_dRaise, wpS_dFor, wp_dfn, wO_some, wO_none, wO_map, wO_bind, wO_ite, List.map_cons, List.map_nil, List.replicate_succ, List.replicate_zero, List.cons_append, List.nil_append, Nat.reduceSub, Nat.reduceAdd, List.getElem?_cons_zero, List.getElem?_cons_succ, List.set_cons_zero, List.set_cons_succ, List.length_cons, List.length_nil, tgN, tgNil, tgCons, tgTup, wipeE, isT, String.reduceBEq, Bool.and_false, Bool.false_and, Bool.true_and, Bool.and_true, Bool.or_false, Bool.false_or, Bool.true_or, Bool.or_true, Bool.not_true, Bool.not_false, if_true, if_false, true_and, and_true, Bool.false_eq_true, Bool.true_eq_false, reduceIte, opEq_int, opNe_int, opEq_str, opNe_str, opAdd_int, opSub_int, opMod_pos, opLt_int, opLe_int, opGt_int, opGe_int, opLt_str, opLe_str, opIsN_ref, opIsN_non, opIsN_int, opIsN_tup, opIsN_str, opIsN_bl, opEq_bl, opNe_bl, opFdiv_int, opMul_int, opPow_int, atI_0, atI_1, atI_2, opIx_ref, opIx_tup, opIx_rl, opLen_tup, opLen_str, opLen_rl, opMax2_int, opMin2_int, opInt_int, opInt_bl, tyN_non, tyN_bl, tyN_int, tyN_str, tyN_tup, tyN_rl, truthW_bl, srcW_tup, srcW_rl, lstAt_of e1, lstAt_of e2, Option.bind_some, Option.map_some, opLen_ref e2, hpos, atI_nn m0, hc, setIx_ref e1, ixN_pos (show (0:Int) ≤ 1 by decide)]
  have i21 : ixN 2 1 = some 1 := rfl
  have i30 : ixN 3 0 = some 0 := rfl
  have i32 : ixN 3 2 = some 2 := rfl
  simp only [i21, wO_some, List.map_cons, List.map_nil, List.replicate_succ, List.replicate_zero, List.cons_append, List.nil_append, Nat.reduceSub, Nat.reduceAdd, List.getElem?_cons_zero, List.getElem?_cons_succ, List.set_cons_zero, List.set_cons_succ, List.length_cons, List.length_nil, tgN, tgNil, tgCons, tgTup, wipeE, isT, String.reduceBEq, Bool.and_false, Bool.false_and, Bool.true_and, Bool.and_true, Bool.or_false, Bool.false_or, Bool.true_or, Bool.or_true, Bool.not_true, Bool.not_false, if_true, if_false, true_and, and_true, Bool.false_eq_true, Bool.true_eq_false, reduceIte]
  have g1 : (List.set S d (O.lst [W.ref rs, W.int (k + 1)]))[d]? = some (.lst [.ref rs, .int (k + 1)]) := get_set e1
  have g2 : (List.set S d (O.lst [W.ref rs, W.int (k + 1)]))[rs]? = some (.lst cs) := by rw [List.getElem?_set_ne hne]; exact e2
  have g3 : ∀ q : Nat, q ≠ d → (List.set S d (O.lst [W.ref rs, W.int (k + 1)]))[q]? = S[q]? := fun q hq => List.getElem?_set_ne (Ne.symm hq)
  have gl : (List.set S d (O.lst [W.ref rs, W.int (k + 1)])).length = S.length := by simp
  have gf : Fr B S (List.set S d (O.lst [W.ref rs, W.int (k + 1)])) := Fr.refl.setB hd
  generalize List.set S d (O.lst [W.ref rs, W.int (k + 1)]) = S1 at g1 g2 g3 gl gf ⊢
  have e4 : S1[p]? = some (.lst [.int a, .int b, .int t]) := by rw [g3 p hpd]; exact e3
  have fin : ∀ (a' b' t' : Int), 0 ≤ t' → t' ≤ n + 1 → Deck B (n + 1) d (List.set S1 p (.lst [.int a', .int b', .int t'])) ∧ Fr B S (List.set S1 p (.lst [.int a', .int b', .int t'])) ∧ (List.set S1 p (.lst [.int a', .int b', .int t'])).length = S.length := fun a' b' t' q0 q1 => by
    refine ⟨⟨by rw [List.length_set, gl]; exact D.bl, rs, k + 1, cs, hd, hrs, hne, by rw [List.getElem?_set_ne hpd]; exact g1, by rw [List.getElem?_set_ne hprs]; exact g2, hcs, fun c' hc' => ?_⟩, gf.setB hp, by simpa using gl⟩
    obtain ⟨p', a2, b2, t2, z1, z2, z3, z4, z5, z6, z7⟩ := hcards c' hc'
    by_cases hpp : p' = p
    · subst hpp
      exact ⟨p', a', b', t', z1, z2, z3, z4, get_set e4, q0, by omega⟩
    · exact ⟨p', a2, b2, t2, z1, z2, z3, z4, by rw [List.getElem?_set_ne (Ne.symm hpp), g3 p' z3]; exact z5, z6, by omega⟩
  have mod_lt : ∀ x : Int, 0 ≤ x % m ∧ x % m < m := fun x => ⟨Int.emod_nonneg _ (by omega), Int.emod_lt_of_pos _ h0⟩
  have mabs : m.natAbs < 2 ^ 1000 := by
    have : m.natAbs < 2 ^ 900 := by omega
    exact Nat.lt_of_lt_of_le this (Nat.pow_le_pow_right (by decide) (by decide))
  simp only [wp_ok, wp_exc, wp_ret, wp_badM, wp_lift, wp_chk, wp_alloc, wp_grd, wp_tgt, wp_noXe, wp_dVar, wp_dC, wp_aNil, wp_aCons, wp_dTup, wp_dLst, wp_dOp, wp_dUn, wp_dFn, wB_bl, wp_dChain, wp_dTru, wp_dBool, wp_dNot, wp_dAnd, wp_dOr, wp_dAndV, wp_dOrV, wp_dNotV, wp_dIfE, wp_dYes, wp_dCall, wp_dCallK, wp_dIsi, wp_dIsi2, wp_dMt, wp_oN, wI_int, wp_oS, wp_dSl, wp_dSrc, wp_dZip, wp_dRng1, wp_dRng2, wp_dEnum, wp_dLc, wpS_nx, wpS_rt, wpS_bk, wpS_ct, wpS_exc, wpS_bad, wpS_ite, wpS_dSeq, wpS_dNx, wpS_dBk, wpS_dCt, wpS_dDrop, wpS_dRet, wpS_dRetN, wpS_dIf, wpS_dSet, wpS_dAsg, wpS_dPar, wpS_dPut, wpS_dRaise, wpS_dFor, wp_dfn, wO_some, wO_none, wO_map, wO_bind, wO_ite, List.map_cons, List.map_nil, List.replicate_succ, List.replicate_zero, List.cons_append, List.nil_append, Nat.reduceSub, Nat.reduceAdd, List.getElem?_cons_zero, List.getElem?_cons_succ, List.set_cons_zero, List.set_cons_succ, List.length_cons, List.length_nil, tgN, tgNil, tgCons, tgTup, wipeE, isT, String.reduceBEq, Bool.and_false, Bool.false_and, Bool.true_and, Bool.and_true, Bool.or_false, Bool.false_or, Bool.true_or, Bool.or_true, Bool.not_true, Bool.not_false, if_true, if_false, true_and, and_true, Bool.false_eq_true, Bool.true_eq_false, reduceIte, opEq_int, opNe_int, opEq_str, opNe_str, opAdd_int, opSub_int, opMod_pos, opLt_int, opLe_int, opGt_int, opGe_int, opLt_str, opLe_str, opIsN_ref, opIsN_non, opIsN_int, opIsN_tup, opIsN_str, opIsN_bl, opEq_bl, opNe_bl, opFdiv_int, opMul_int, opPow_int, atI_0, atI_1, atI_2, opIx_ref, opIx_tup, opIx_rl, opLen_tup, opLen_str, opLen_rl, opMax2_int, opMin2_int, opInt_int, opInt_bl, tyN_non, tyN_bl, tyN_int, tyN_str, tyN_tup, tyN_rl, truthW_bl, srcW_tup, srcW_rl, lstAt_of e4, Option.bind_some, Option.map_some, h0, divOk_of h0 mabs, setIx_ref e4, i30, i32]
  have tail : wO (lstAt (List.set S1 p (O.lst [W.int a, W.int b, W.int (t + 1)])) p) fun _ => True := by rw [lstAt_of (get_set e4)]; trivial
  have e5 : (List.set S1 p (O.lst [W.int a, W.int b, W.int (t + 1)]))[p]? = some (.lst [.int a, .int b, .int (t + 1)]) := get_set e4
  obtain ⟨f1, f2, f3⟩ := fin a b (t + 1) (by omega) (by omega)
  generalize List.set S1 p (O.lst [W.int a, W.int b, W.int (t + 1)]) = S2 at e5 f1 f2 f3 tail ⊢
  have b1 : ∀ x y : Int, 0 < y → y < 2 ^ 200 → (x % y).natAbs < 2 ^ 1000 ∧ (x % y).natAbs < 2 ^ 200 := fun x y h1 h2 => by
    have := Int.emod_nonneg x (show y ≠ 0 by omega)
    have := Int.emod_lt_of_pos x h1
    have h3 : (x % y).natAbs < 2 ^ 200 := by omega
    exact ⟨Nat.lt_of_lt_of_le h3 (Nat.pow_le_pow_right (by decide) (by decide)), h3⟩
  have tb : (t + 1).natAbs < 2 ^ 1000 := by
    have : (t + 1).natAbs < 2 ^ 101 := by omega
    exact Nat.lt_of_lt_of_le this (Nat.pow_le_pow_right (by decide) (by decide))
  have tb2 : (t + 1).natAbs < 2 ^ 101 := by omega
  have big : ∀ x c : Int, x.natAbs < 2 ^ 200 → 0 < c → c < 2 ^ 40 → (x + c * (t + 1)).natAbs < 2 ^ 1000 := fun x c h1 h2 h3 => by
    have h4 : (c * (t + 1)).natAbs ≤ 2 ^ 40 * 2 ^ 101 := by
      rw [Int.natAbs_mul]
      exact Nat.mul_le_mul (by omega) (by omega)
    have h5 : (x + c * (t + 1)).natAbs ≤ x.natAbs + (c * (t + 1)).natAbs := Int.natAbs_add_le _ _
    have h6 : (x + c * (t + 1)).natAbs < 2 ^ 201 := by omega
    exact Nat.lt_of_lt_of_le h6 (Nat.pow_le_pow_right (by decide) (by decide))
  simp only [wp_ok, wp_exc, wp_ret, wp_badM, wp_lift, wp_chk, wp_alloc, wp_grd, wp_tgt, wp_noXe, wp_dVar, wp_dC, wp_aNil, wp_aCons, wp_dTup, wp_dLst, wp_dOp, wp_dUn, wp_dFn, wB_bl, wp_dChain, wp_dTru, wp_dBool, wp_dNot, wp_dAnd, wp_dOr, wp_dAndV, wp_dOrV, wp_dNotV, wp_dIfE, wp_dYes, wp_dCall, wp_dCallK, wp_dIsi, wp_dIsi2, wp_dMt, wp_oN, wI_int, wp_oS, wp_dSl, wp_dSrc, wp_dZip, wp_dRng1, wp_dRng2, wp_dEnum, wp_dLc, wpS_nx, wpS_rt, wpS_bk, wpS_ct, wpS_exc, wpS_bad, wpS_ite, wpS_dSeq, wpS_dNx, wpS_dBk, wpS_dCt, wpS_dDrop, wpS_dRet, wpS_dRetN, wpS_dIf, wpS_dSet, wpS_dAsg, wpS_dPar, wpS_dPut, wpS_dRaise, wpS_dFor, wp_dfn, wO_some, wO_none, wO_map, wO_bind, wO_ite, List.map_cons, List.map_nil, List.replicate_succ, List.replicate_zero, List.cons_append, List.nil_append, Nat.reduceSub, Nat.reduceAdd, List.getElem?_cons_zero, List.getElem?_cons_succ, List.set_cons_zero, List.set_cons_succ, List.length_cons, List.length_nil, tgN, tgNil, tgCons, tgTup, wipeE, isT, String.reduceBEq, Bool.and_false, Bool.false_and, Bool.true_and, Bool.and_true, Bool.or_false, Bool.false_or, Bool.true_or, Bool.or_true, Bool.not_true, Bool.not_false, if_true, if_false, true_and, and_true, Bool.false_eq_true, Bool.true_eq_false, reduceIte, opEq_int, opNe_int, opEq_str, opNe_str, opAdd_int, opSub_int, opMod_pos, opLt_int, opLe_int, opGt_int, opGe_int, opLt_str, opLe_str, opIsN_ref, opIsN_non, opIsN_int, opIsN_tup, opIsN_str, opIsN_bl, opEq_bl, opNe_bl, opFdiv_int, opMul_int, opPow_int, atI_0, atI_1, atI_2, opIx_ref, opIx_tup, opIx_rl, opLen_tup, opLen_str, opLen_rl, opMax2_int, opMin2_int, opInt_int, opInt_bl, tyN_non, tyN_bl, tyN_int, tyN_str, tyN_tup, tyN_rl, truthW_bl, srcW_tup, srcW_rl, lstAt_of e5, Option.bind_some, Option.map_some]
  have c1 : (0 : Int) < 162259276829213363391578010288127 := by decide
  have c2 : (0 : Int) < 618970019642690137449562111 := by decide
  simp only [c1, c2, if_true, wO_some, List.map_cons, List.map_nil, List.replicate_succ, List.replicate_zero, List.cons_append, List.nil_append, Nat.reduceSub, Nat.reduceAdd, List.getElem?_cons_zero, List.getElem?_cons_succ, List.set_cons_zero, List.set_cons_succ, List.length_cons, List.length_nil, tgN, tgNil, tgCons, tgTup, wipeE, isT, String.reduceBEq, Bool.and_false, Bool.false_and, Bool.true_and, Bool.and_true, Bool.or_false, Bool.false_or, Bool.true_or, Bool.or_true, Bool.not_true, Bool.not_false, if_true, if_false, true_and, and_true, Bool.false_eq_true, Bool.true_eq_false, reduceIte]
  have k1 := mulOk_of (i := 982451653) (by decide) tb
  have k2 := mulOk_of (i := 49979687) (by decide) tb
  simp only [k1, k2, if_true, wO_some, opAdd_int, opPow_int]
  have k3 := pow3Ok (big (a % 162259276829213363391578010288127) 982451653 (b1 _ _ c1 (by decide)).2 (by decide) (by decide))
  simp only [k3, if_true, wO_some, opMod_pos, c2, opAdd_int, opPow_int]
  have k4 := fun x => pow3Ok (big (x % 618970019642690137449562111) 49979687 (b1 _ _ c2 (by decide)).2 (by decide) (by decide))
  simp only [k4, if_true, wO_some, opMod_pos, c1, opFdiv_int]
  have k5 : ∀ x, divOk x 524288 = true := fun x => divOk_of (by decide) (by decide)
  simp only [k5, if_true, wO_some, opMod_pos, h0]
  have last : ∀ x : Int, ∃ k : Int, W.int (x % m) = W.int k ∧ 0 ≤ k ∧ k < m ∧ Deck B (n + 1) d S2 ∧ Fr B S S2 ∧ S2.length = S.length := fun x => ⟨_, rfl, (mod_lt x).1, (mod_lt x).2, f1, f2, f3⟩
  by_cases hb : (b == 1) = true
  · rw [if_pos hb]
    by_cases ha : decide (0 < a) = true
    · rw [if_pos ha]
      exact ⟨_, rfl, (mod_lt a).1, (mod_lt a).2, fin _ _ _ t0 (by omega)⟩
    · rw [if_neg ha]
      exact last _
  · rw [if_neg hb]
    exact last _
/-! ### the deck made -/
noncomputable def d_law_deck : DS :=
  dSeq (dSet 1 (dLst (aNil)))
  (dSeq (dFor (dRng1 (aCons (dFn opMax2 (aCons (dC (.int 1)) (aCons (dFn opMin2 (aCons (dC (.int 63)) (aCons (dFn opLen (aCons (dVar 0) aNil)) aNil))) aNil))) aNil)) (tgN 2) (dSeq (dSet 3 (dC (.int 0)))
  (dSeq (dIf (dBool (dOp opLt (dVar 2) (dFn opLen (aCons (dVar 0) aNil)))) (dSet 3 (dOp opIx (dVar 0) (dVar 2))) (dNx))
  (dDrop (dMt "list" mAppend (dVar 1) (aCons (dLst (aCons (dVar 3) (aCons (dFn opInt (aCons (dOp opGe (dVar 3) (dOp opPow (dC (.int 10)) (dC (.int 18)))) aNil)) (aCons (dOp opMul (dC (.int 31)) (dVar 2)) (aNil))))) (aNil)))))))
  (dRet (dLst (aCons (dVar 1) (aCons (dC (.int 0)) (aNil))))))
noncomputable def n_law_deck : List W → M W := dfn 4 1 d_law_deck
theorem rngW_get {lo : Int} {n i : Nat} {x : W} (e : (rngW lo n)[i]? = some x) : i < n ∧ x = .int (lo + i) := by
  unfold rngW at e
  rw [List.getElem?_map, Option.map_eq_some_iff] at e
  obtain ⟨j, e1, rfl⟩ := e
  obtain ⟨h, e2⟩ := List.getElem?_eq_some_iff.mp e1
  simp only [List.length_range] at h
  simp only [List.getElem_range] at e2
  subst e2
  exact ⟨h, rfl⟩
theorem rngW_len {lo : Int} {n : Nat} : (rngW lo n).length = n := by simp [rngW]
theorem deck_spec {ns : List Int} {S : Store} {E : Ex → Store → Prop} (h : ns.length ≤ 63) :
    wp (n_law_deck [.rl (ns.map W.int)] S) (fun r S' => ∃ d, r = .ref d ∧ Deck S'.length 2000 d S' ∧ Fr 0 S S') E := by
  unfold n_law_deck d_law_deck
  simp only [wp_ok, wp_exc, wp_ret, wp_badM, wp_lift, wp_chk, wp_alloc, wp_grd, wp_tgt, wp_noXe, wp_dVar, wp_dC, wp_aNil, wp_aCons, wp_dTup, wp_dLst, wp_dOp, wp_dUn, wp_dFn, wB_bl, wp_dChain, wp_dTru, wp_dBool, wp_dNot, wp_dAnd, wp_dOr, wp_dAndV, wp_dOrV, wp_dNotV, wp_dIfE, wp_dYes, wp_dCall, wp_dCallK, wp_dIsi, wp_dIsi2, wp_dMt, wp_oN, wI_int, wp_oS, wp_dSl, wp_dSrc, wp_dZip, wp_dRng1, wp_dRng2, wp_dEnum, wp_dLc, wpS_nx, wpS_rt, wpS_bk, wpS_ct, wpS_exc, wpS_bad, wpS_ite, wpS_dSeq, wpS_dNx, wpS_dBk, wpS_dCt, wpS_dDrop, wpS_dRet, wpS_dRetN, wpS_dIf, wpS_dSet, wpS_dAsg, wpS_dPar, wpS_dPut, wpS_dRaise, wpS_dFor, wp_dfn, wO_some, wO_none, wO_map, wO_bind, wO_ite, List.map_cons, List.map_nil, List.replicate_succ, List.replicate_zero, List.cons_append, List.nil_append, Nat.reduceSub, Nat.reduceAdd, List.getElem?_cons_zero, List.getElem?_cons_succ, List.set_cons_zero, List.set_cons_succ, List.length_cons, List.length_nil, tgN, tgNil, tgCons, tgTup, wipeE, isT, String.reduceBEq, Bool.and_false, Bool.false_and, Bool.true_and, Bool.and_true, Bool.or_false, Bool.false_or, Bool.true_or, Bool.or_true, Bool.not_true, Bool.not_false, if_true, if_false, true_and, and_true, Bool.false_eq_true, Bool.true_eq_false, reduceIte, opEq_int, opNe_int, opEq_str, opNe_str, opAdd_int, opSub_int, opMod_pos, opLt_int, opLe_int, opGt_int, opGe_int, opLt_str, opLe_str, opIsN_ref, opIsN_non, opIsN_int, opIsN_tup, opIsN_str, opIsN_bl, opEq_bl, opNe_bl, opFdiv_int, opMul_int, opPow_int, atI_0, atI_1, atI_2, opIx_ref, opIx_tup, opIx_rl, opLen_tup, opLen_str, opLen_rl, opMax2_int, opMin2_int, opInt_int, opInt_bl, tyN_non, tyN_bl, tyN_int, tyN_str, tyN_tup, tyN_rl, truthW_bl, srcW_tup, srcW_rl, List.length_map, lenOk_of (show 0 ≤ 1000000 by decide)]
  obtain ⟨m, hm, hm0, hm1⟩ : ∃ m : Nat, (if (if (ns.length : Int) < 63 then (ns.length : Int) else 63) > 1 then (if (ns.length : Int) < 63 then (ns.length : Int) else 63) else 1) = (m : Int) ∧ 0 < m ∧ m ≤ 63 := by
    refine ⟨if ns.length ≤ 1 then 1 else ns.length, ?_, ?_, ?_⟩
    · split <;> split <;> (try split) <;> omega
    · split <;> omega
    · split <;> omega
  rw [hm]
  refine ⟨by unfold bnd; exact decide_eq_true (by omega), ?_⟩
  refine wpS_forL (fun i ε S' => ∃ x y cs, ε = [some (.rl (ns.map W.int)), some (.ref S.length), x, y] ∧ i ≤ m ∧ cs.length = i ∧ S'[S.length]? = some (.lst cs) ∧ Fr 0 S S' ∧ ∀ c ∈ cs, ∃ (p : Nat) (a b t : Int), c = .ref p ∧ S.length < p ∧ p < S'.length ∧ S'[p]? = some (.lst [.int a, .int b, .int t]) ∧ 0 ≤ t ∧ t ≤ 2000) ?_ ?_ ?_ ?_
  · exact ⟨_, _, [], rfl, Nat.zero_le _, rfl, get_new, Fr.app, fun c hc => by cases hc⟩
  · intros; trivial
  · rintro i x ε S' e ⟨x0, y0, cs, rfl, him, hl, g, f, hcs⟩
    obtain ⟨hi, rfl⟩ := rngW_get e
    have hi : i < m := by simpa using hi
    have z1 : powOk 10 18 = true := by decide +kernel
    have z2 : mulOk 31 (0 + (i : Int)) = true := mulOk_of (by decide) (by
      have : (0 + (i : Int)).natAbs ≤ 63 := by omega
      exact Nat.lt_of_le_of_lt this (by decide))
    simp only [wp_ok, wp_exc, wp_ret, wp_badM, wp_lift, wp_chk, wp_alloc, wp_grd, wp_tgt, wp_noXe, wp_dVar, wp_dC, wp_aNil, wp_aCons, wp_dTup, wp_dLst, wp_dOp, wp_dUn, wp_dFn, wB_bl, wp_dChain, wp_dTru, wp_dBool, wp_dNot, wp_dAnd, wp_dOr, wp_dAndV, wp_dOrV, wp_dNotV, wp_dIfE, wp_dYes, wp_dCall, wp_dCallK, wp_dIsi, wp_dIsi2, wp_dMt, wp_oN, wI_int, wp_oS, wp_dSl, wp_dSrc, wp_dZip, wp_dRng1, wp_dRng2, wp_dEnum, wp_dLc, wpS_nx, wpS_rt, wpS_bk, wpS_ct, wpS_exc, wpS_bad, wpS_ite, wpS_dSeq, wpS_dNx, wpS_dBk, wpS_dCt, wpS_dDrop, wpS_dRet, wpS_dRetN, wpS_dIf, wpS_dSet, wpS_dAsg, wpS_dPar, wpS_dPut, wpS_dRaise, wpS_dFor, wp_dfn, wO_some, wO_none, wO_map, wO_bind, wO_ite, List.map_cons, List.map_nil, List.replicate_succ, List.replicate_zero, List.cons_append, List.nil_append, Nat.reduceSub, Nat.reduceAdd, List.getElem?_cons_zero, List.getElem?_cons_succ, List.set_cons_zero, List.set_cons_succ, List.length_cons, List.length_nil, tgN, tgNil, tgCons, tgTup, wipeE, isT, String.reduceBEq, Bool.and_false, Bool.false_and, Bool.true_and, Bool.and_true, Bool.or_false, Bool.false_or, Bool.true_or, Bool.or_true, Bool.not_true, Bool.not_false, if_true, if_false, true_and, and_true, Bool.false_eq_true, Bool.true_eq_false, reduceIte, opEq_int, opNe_int, opEq_str, opNe_str, opAdd_int, opSub_int, opMod_pos, opLt_int, opLe_int, opGt_int, opGe_int, opLt_str, opLe_str, opIsN_ref, opIsN_non, opIsN_int, opIsN_tup, opIsN_str, opIsN_bl, opEq_bl, opNe_bl, opFdiv_int, opMul_int, opPow_int, atI_0, atI_1, atI_2, opIx_ref, opIx_tup, opIx_rl, opLen_tup, opLen_str, opLen_rl, opMax2_int, opMin2_int, opInt_int, opInt_bl, tyN_non, tyN_bl, tyN_int, tyN_str, tyN_tup, tyN_rl, truthW_bl, srcW_tup, srcW_rl, tyM_ref g, mAppend_ref g, z1, z2, lenOk_of (show 0 + 1 + 1 + 1 ≤ 1000000 by decide)]
    have key : ∀ (c b t : Int), 0 ≤ t → t ≤ 2000 → wO (mAppend (W.ref (List.length S)) [W.ref (List.length S')] (S' ++ [O.lst [W.int c, W.int b, W.int t]])) fun p => ∃ x y cs,
        [some (W.rl (List.map W.int ns)), some (W.ref (List.length S)), some (W.int (0 + ↑i)), some (W.int c)] = [some (W.rl (List.map W.int ns)), some (W.ref (List.length S)), x, y] ∧
        i + 1 ≤ m ∧ cs.length = i + 1 ∧ p.snd[List.length S]? = some (O.lst cs) ∧ Fr 0 S p.snd ∧ ∀ (c : W), c ∈ cs → ∃ p_1 a b t, c = W.ref p_1 ∧ List.length S < p_1 ∧ p_1 < List.length p.snd ∧ p.snd[p_1]? = some (O.lst [W.int a, W.int b, W.int t]) ∧ 0 ≤ t ∧ t ≤ 2000 := fun c b t t0 t1 => by
      have g2 : (S' ++ [O.lst [W.int c, W.int b, W.int t]])[S.length]? = some (.lst cs) := Fr.app.g0 g
      have lt := get_lt g
      rw [mAppend_ref g2, if_pos (by rw [sizeLine_eq]; omega), wO_some]
      refine ⟨_, _, cs ++ [.ref S'.length], rfl, hi, by simp [hl], get_set g2, f.snoc.setN (Nat.le_refl _), fun c' hc' => ?_⟩
      rcases List.mem_append.mp hc' with hc' | hc'
      · obtain ⟨p, a, b, t, e1, e2, e3, e4, e5, e6⟩ := hcs c' hc'
        exact ⟨p, a, b, t, e1, e2, by simp; omega, by rw [List.getElem?_set_ne (by omega)]; exact Fr.app.g0 e4, e5, e6⟩
      · rw [List.mem_singleton] at hc'
        exact ⟨S'.length, c, b, t, hc', lt, by simp, by rw [List.getElem?_set_ne (by omega)]; exact get_new, t0, t1⟩
    split
    · rename_i hlt
      have hlt : i < ns.length := by simpa using hlt
      have e2 : atI (List.map W.int ns) (0 + (i : Int)) = some (.int ns[i]) := by
        rw [atI_nn (by omega)]
        simp [hlt]
      rw [e2, wO_some]
      simp only [wp_ok, wp_exc, wp_ret, wp_badM, wp_lift, wp_chk, wp_alloc, wp_grd, wp_tgt, wp_noXe, wp_dVar, wp_dC, wp_aNil, wp_aCons, wp_dTup, wp_dLst, wp_dOp, wp_dUn, wp_dFn, wB_bl, wp_dChain, wp_dTru, wp_dBool, wp_dNot, wp_dAnd, wp_dOr, wp_dAndV, wp_dOrV, wp_dNotV, wp_dIfE, wp_dYes, wp_dCall, wp_dCallK, wp_dIsi, wp_dIsi2, wp_dMt, wp_oN, wI_int, wp_oS, wp_dSl, wp_dSrc, wp_dZip, wp_dRng1, wp_dRng2, wp_dEnum, wp_dLc, wpS_nx, wpS_rt, wpS_bk, wpS_ct, wpS_exc, wpS_bad, wpS_ite, wpS_dSeq, wpS_dNx, wpS_dBk, wpS_dCt, wpS_dDrop, wpS_dRet, wpS_dRetN, wpS_dIf, wpS_dSet, wpS_dAsg, wpS_dPar, wpS_dPut, wpS_dRaise, wpS_dFor, wp_dfn, wO_some, wO_none, wO_map, wO_bind, wO_ite, List.map_cons, List.map_nil, List.replicate_succ, List.replicate_zero, List.cons_append, List.nil_append, Nat.reduceSub, Nat.reduceAdd, List.getElem?_cons_zero, List.getElem?_cons_succ, List.set_cons_zero, List.set_cons_succ, List.length_cons, List.length_nil, tgN, tgNil, tgCons, tgTup, wipeE, isT, String.reduceBEq, Bool.and_false, Bool.false_and, Bool.true_and, Bool.and_true, Bool.or_false, Bool.false_or, Bool.true_or, Bool.or_true, Bool.not_true, Bool.not_false, if_true, if_false, true_and, and_true, Bool.false_eq_true, Bool.true_eq_false, reduceIte, opEq_int, opNe_int, opEq_str, opNe_str, opAdd_int, opSub_int, opMod_pos, opLt_int, opLe_int, opGt_int, opGe_int, opLt_str, opLe_str, opIsN_ref, opIsN_non, opIsN_int, opIsN_tup, opIsN_str, opIsN_bl, opEq_bl, opNe_bl, opFdiv_int, opMul_int, opPow_int, atI_0, atI_1, atI_2, opIx_ref, opIx_tup, opIx_rl, opLen_tup, opLen_str, opLen_rl, opMax2_int, opMin2_int, opInt_int, opInt_bl, tyN_non, tyN_bl, tyN_int, tyN_str, tyN_tup, tyN_rl, truthW_bl, srcW_tup, srcW_rl]
      exact key _ _ _ (by omega) (by omega)
    · exact key _ _ _ (by omega) (by omega)
  · rintro ε S' ⟨x0, y0, cs, rfl, him, hl, g, f, hcs⟩
    simp only [rngW_len] at hl
    simp only [wp_ok, wp_exc, wp_ret, wp_badM, wp_lift, wp_chk, wp_alloc, wp_grd, wp_tgt, wp_noXe, wp_dVar, wp_dC, wp_aNil, wp_aCons, wp_dTup, wp_dLst, wp_dOp, wp_dUn, wp_dFn, wB_bl, wp_dChain, wp_dTru, wp_dBool, wp_dNot, wp_dAnd, wp_dOr, wp_dAndV, wp_dOrV, wp_dNotV, wp_dIfE, wp_dYes, wp_dCall, wp_dCallK, wp_dIsi, wp_dIsi2, wp_dMt, wp_oN, wI_int, wp_oS, wp_dSl, wp_dSrc, wp_dZip, wp_dRng1, wp_dRng2, wp_dEnum, wp_dLc, wpS_nx, wpS_rt, wpS_bk, wpS_ct, wpS_exc, wpS_bad, wpS_ite, wpS_dSeq, wpS_dNx, wpS_dBk, wpS_dCt, wpS_dDrop, wpS_dRet, wpS_dRetN, wpS_dIf, wpS_dSet, wpS_dAsg, wpS_dPar, wpS_dPut, wpS_dRaise, wpS_dFor, wp_dfn, wO_some, wO_none, wO_map, wO_bind, wO_ite, List.map_cons, List.map_nil, List.replicate_succ, List.replicate_zero, List.cons_append, List.nil_append, Nat.reduceSub, Nat.reduceAdd, List.getElem?_cons_zero, List.getElem?_cons_succ, List.set_cons_zero, List.set_cons_succ, List.length_cons, List.length_nil, tgN, tgNil, tgCons, tgTup, wipeE, isT, String.reduceBEq, Bool.and_false, Bool.false_and, Bool.true_and, Bool.and_true, Bool.or_false, Bool.false_or, Bool.true_or, Bool.or_true, Bool.not_true, Bool.not_false, if_true, if_false, true_and, and_true, Bool.false_eq_true, Bool.true_eq_false, reduceIte, opEq_int, opNe_int, opEq_str, opNe_str, opAdd_int, opSub_int, opMod_pos, opLt_int, opLe_int, opGt_int, opGe_int, opLt_str, opLe_str, opIsN_ref, opIsN_non, opIsN_int, opIsN_tup, opIsN_str, opIsN_bl, opEq_bl, opNe_bl, opFdiv_int, opMul_int, opPow_int, atI_0, atI_1, atI_2, opIx_ref, opIx_tup, opIx_rl, opLen_tup, opLen_str, opLen_rl, opMax2_int, opMin2_int, opInt_int, opInt_bl, tyN_non, tyN_bl, tyN_int, tyN_str, tyN_tup, tyN_rl, truthW_bl, srcW_tup, srcW_rl, lenOk_of (show 2 ≤ 1000000 by decide)]
    refine ⟨S'.length, rfl, ⟨Nat.le_refl _, S.length, 0, cs, by simp, by have := get_lt g; simp; omega, by have := get_lt g; omega, get_new, Fr.app.g0 g, ?_, fun c hc => ?_⟩, f.snoc⟩
    · intro e; rw [e] at hl; simp at hl; omega
    · obtain ⟨p, a, b, t, e1, e2, e3, e4, e5, e6⟩ := hcs c hc
      exact ⟨p, a, b, t, e1, by simp; omega, by omega, by omega, Fr.app.g0 e4, e5, e6⟩
/-! ### same -/
noncomputable def d_law_same (r : List W → M W) : DS :=
  dSeq (dIf (dTru (dIsi2 "list" "tuple" (dVar 1))) (dSeq (dIf (dOr (dBool (dOp opNe (dIsi "list" (dVar 0)) (dIsi "list" (dVar 1)))) (dBool (dOp opNe (dIsi "tuple" (dVar 0)) (dIsi "tuple" (dVar 1))))) (dRet (dC (.bl false))) (dNx))
  (dSeq (dIf (dBool (dOp opNe (dFn opLen (aCons (dVar 0) aNil)) (dFn opLen (aCons (dVar 1) aNil)))) (dRet (dC (.bl false))) (dNx))
  (dRet (dOp opEq (dLc (dZip (aCons (dVar 0) (aCons (dVar 1) aNil))) (tgTup 2 (tgCons (tgN 2) (tgCons (tgN 3) (tgNil)))) (dNot (dTru (dCall r (aCons (dVar 2) (aCons (dVar 3) (aNil)))))) (dC (.int 1)) [2, 3]) (dLst (aNil)))))) (dNx))
  (dSeq (dIf (dOr (dBool (dOp opIsN (dVar 1) (dC .non))) (dBool (dOp opIsN (dVar 0) (dC .non)))) (dRet (dAndV (dOp opIsN (dVar 1) (dC .non)) (dOp opIsN (dVar 0) (dC .non)))) (dNx))
  (dSeq (dIf (dOr (dBool (dOp opNe (dIsi "bool" (dVar 0)) (dIsi "bool" (dVar 1)))) (dBool (dOp opNe (dIsi "str" (dVar 0)) (dIsi "str" (dVar 1))))) (dRet (dC (.bl false))) (dNx))
  (dRet (dOp opEq (dVar 0) (dVar 1)))))
noncomputable def n_law_same : Nat → List W → M W
  | 0 => fun _ => bad
  | j + 1 => dfn 4 2 (d_law_same (n_law_same j))

/-- equal in all parts -/
def Twin (S : Store) : Nat → W → W → Prop
  | 0, _, _ => False
  | n + 1, a, b => (a = .non ∧ b = .non) ∨ (∃ x, a = .bl x ∧ b = .bl x) ∨ (∃ x, a = .int x ∧ b = .int x) ∨ (∃ x, a = .str x ∧ b = .str x) ∨
    (∃ xs ys, a = .tup xs ∧ b = .tup ys ∧ xs.length = ys.length ∧ xs.length ≤ 1000000 ∧ ∀ (i : Nat) x y, xs[i]? = some x → ys[i]? = some y → Twin S n x y) ∨
    (∃ p q xs ys, a = .ref p ∧ b = .ref q ∧ S[p]? = some (.lst xs) ∧ S[q]? = some (.lst ys) ∧ xs.length = ys.length ∧ xs.length ≤ 1000000 ∧ ∀ (i : Nat) x y, xs[i]? = some x → ys[i]? = some y → Twin S n x y)
theorem Twin.mono {S S' : Store} (f : Fr 0 S S') : ∀ {n m : Nat} {a b : W}, n ≤ m → Twin S n a b → Twin S' m a b
  | 0, _, _, _, _, h => h.elim
  | n + 1, 0, _, _, h, _ => absurd h (by omega)
  | n + 1, m + 1, a, b, hm, h => by
    rcases h with h | h | h | h | ⟨xs, ys, e1, e2, e3, e4, h⟩ | ⟨p, q, xs, ys, e1, e2, g1, g2, e3, e4, h⟩
    · exact .inl h
    · exact .inr (.inl h)
    · exact .inr (.inr (.inl h))
    · exact .inr (.inr (.inr (.inl h)))
    · exact .inr (.inr (.inr (.inr (.inl ⟨xs, ys, e1, e2, e3, e4, fun i x y a b => Twin.mono f (by omega) (h i x y a b)⟩))))
    · exact .inr (.inr (.inr (.inr (.inr ⟨p, q, xs, ys, e1, e2, f.g0 g1, f.g0 g2, e3, e4, fun i x y a b => Twin.mono f (by omega) (h i x y a b)⟩))))
theorem zipL_at : ∀ {xs ys : List W} {i : Nat} {w : W}, (zipL xs ys)[i]? = some w → ∃ x y, xs[i]? = some x ∧ ys[i]? = some y ∧ w = .tup [x, y]
  | [], ys, i, w, e => by simp [zipL] at e
  | x :: xs, [], i, w, e => by simp [zipL] at e
  | x :: xs, y :: ys, 0, w, e => by
    simp [zipL] at e
    exact ⟨x, y, rfl, rfl, e.symm⟩
  | x :: xs, y :: ys, i + 1, w, e => by
    have e : (zipL xs ys)[i]? = some w := by simpa [zipL] using e
    simpa using zipL_at e
theorem zipL_length {xs ys : List W} (h : xs.length = ys.length) : (zipL xs ys).length = xs.length := by simp [zipL, h]
theorem opEq_nil {n m : Nat} {S : Store} (h1 : S[n]? = some (.lst [])) (h2 : S[m]? = some (.lst [])) : opEq (.ref n) (.ref m) S = some (.bl true, S) := by
  unfold opEq
  have e : ∀ k, S[k]? = some (.lst []) → toD S deep (.ref k) = some (.list []) := fun k h => by
    show (match S[k]? with
      | some (.lst ws) => (mapO (toD S 49) ws).map PyData.list
      | _ => none) = _
    rw [h]; rfl
  rw [e n h1, e m h2]
  rfl
theorem same_spec {E : Ex → Store → Prop} : ∀ (n : Nat) {a b : W} {S : Store}, Twin S n a b → wp (n_law_same n [a, b] S) (fun r S' => r = .bl true ∧ Fr 0 S S') E
  | 0, a, b, S, h => h.elim
  | n + 1, a, b, S, h => by
    have lc : ∀ (xs ys : List W) (g : Store → Prop), (∀ S', Fr 0 S S' → g S') → xs.length = ys.length → (∀ (i : Nat) x y, xs[i]? = some x → ys[i]? = some y → Twin S n x y) → ∀ ε0 : Ev, (∃ x0 y0, ε0 = [x0, y0, none, none]) →
        wp (lcL (tgTup 2 (tgCons (tgN 2) (tgCons (tgN 3) (tgNil)))) (dNot (dTru (dCall (n_law_same n) (aCons (dVar 2) (aCons (dVar 3) (aNil)))))) (dC (.int 1)) g ε0 (zipL xs ys) S) (fun ws S' => ws = [] ∧ Fr 0 S S') E := by
      rintro xs ys g hg hl ht ε0 ⟨x0, y0, rfl⟩
      refine wp_mono (wp_lcL (acc := []) (fun _ acc S' => acc = [] ∧ Fr 0 S S') ⟨rfl, Fr.refl⟩ (fun _ _ S' _ h => hg _ h.2) ?_) (fun ws S' q => by simpa using q) (fun _ _ q => q)
      rintro i x acc S' e ⟨rfl, f⟩
      obtain ⟨u, v, e1, e2, rfl⟩ := zipL_at e
      simp only [wp_ok, wp_exc, wp_ret, wp_badM, wp_lift, wp_chk, wp_alloc, wp_grd, wp_tgt, wp_noXe, wp_dVar, wp_dC, wp_aNil, wp_aCons, wp_dTup, wp_dLst, wp_dOp, wp_dUn, wp_dFn, wB_bl, wp_dChain, wp_dTru, wp_dBool, wp_dNot, wp_dAnd, wp_dOr, wp_dAndV, wp_dOrV, wp_dNotV, wp_dIfE, wp_dYes, wp_dCall, wp_dCallK, wp_dIsi, wp_dIsi2, wp_dMt, wp_oN, wI_int, wp_oS, wp_dSl, wp_dSrc, wp_dZip, wp_dRng1, wp_dRng2, wp_dEnum, wp_dLc, wpS_nx, wpS_rt, wpS_bk, wpS_ct, wpS_exc, wpS_bad, wpS_ite, wpS_dSeq, wpS_dNx, wpS_dBk, wpS_dCt, wpS_dDrop, wpS_dRet, wpS_dRetN, wpS_dIf, wpS_dSet, wpS_dAsg, wpS_dPar, wpS_dPut, wpS_dRaise, wpS_dFor, wp_dfn, wO_some, wO_none, wO_map, wO_bind, wO_ite, List.map_cons, List.map_nil, List.replicate_succ, List.replicate_zero, List.cons_append, List.nil_append, Nat.reduceSub, Nat.reduceAdd, List.getElem?_cons_zero, List.getElem?_cons_succ, List.set_cons_zero, List.set_cons_succ, List.length_cons, List.length_nil, tgN, tgNil, tgCons, tgTup, wipeE, isT, String.reduceBEq, Bool.and_false, Bool.false_and, Bool.true_and, Bool.and_true, Bool.or_false, Bool.false_or, Bool.true_or, Bool.or_true, Bool.not_true, Bool.not_false, if_true, if_false, true_and, and_true, Bool.false_eq_true, Bool.true_eq_false, reduceIte, opEq_int, opNe_int, opEq_str, opNe_str, opAdd_int, opSub_int, opMod_pos, opLt_int, opLe_int, opGt_int, opGe_int, opLt_str, opLe_str, opIsN_ref, opIsN_non, opIsN_int, opIsN_tup, opIsN_str, opIsN_bl, opEq_bl, opNe_bl, opFdiv_int, opMul_int, opPow_int, atI_0, atI_1, atI_2, opIx_ref, opIx_tup, opIx_rl, opLen_tup, opLen_str, opLen_rl, opMax2_int, opMin2_int, opInt_int, opInt_bl, tyN_non, tyN_bl, tyN_int, tyN_str, tyN_tup, tyN_rl, truthW_bl, srcW_tup, srcW_rl]
      refine wp_mono (same_spec n ((ht i u v e1 e2).mono f (Nat.le_refl _))) ?_ (fun _ _ q => q)
      rintro r S2 ⟨rfl, f2⟩
      simp only [wp_ok, wp_exc, wp_ret, wp_badM, wp_lift, wp_chk, wp_alloc, wp_grd, wp_tgt, wp_noXe, wp_dVar, wp_dC, wp_aNil, wp_aCons, wp_dTup, wp_dLst, wp_dOp, wp_dUn, wp_dFn, wB_bl, wp_dChain, wp_dTru, wp_dBool, wp_dNot, wp_dAnd, wp_dOr, wp_dAndV, wp_dOrV, wp_dNotV, wp_dIfE, wp_dYes, wp_dCall, wp_dCallK, wp_dIsi, wp_dIsi2, wp_dMt, wp_oN, wI_int, wp_oS, wp_dSl, wp_dSrc, wp_dZip, wp_dRng1, wp_dRng2, wp_dEnum, wp_dLc, wpS_nx, wpS_rt, wpS_bk, wpS_ct, wpS_exc, wpS_bad, wpS_ite, wpS_dSeq, wpS_dNx, wpS_dBk, wpS_dCt, wpS_dDrop, wpS_dRet, wpS_dRetN, wpS_dIf, wpS_dSet, wpS_dAsg, wpS_dPar, wpS_dPut, wpS_dRaise, wpS_dFor, wp_dfn, wO_some, wO_none, wO_map, wO_bind, wO_ite, List.map_cons, List.map_nil, List.replicate_succ, List.replicate_zero, List.cons_append, List.nil_append, Nat.reduceSub, Nat.reduceAdd, List.getElem?_cons_zero, List.getElem?_cons_succ, List.set_cons_zero, List.set_cons_succ, List.length_cons, List.length_nil, tgN, tgNil, tgCons, tgTup, wipeE, isT, String.reduceBEq, Bool.and_false, Bool.false_and, Bool.true_and, Bool.and_true, Bool.or_false, Bool.false_or, Bool.true_or, Bool.or_true, Bool.not_true, Bool.not_false, if_true, if_false, true_and, and_true, Bool.false_eq_true, Bool.true_eq_false, reduceIte, opEq_int, opNe_int, opEq_str, opNe_str, opAdd_int, opSub_int, opMod_pos, opLt_int, opLe_int, opGt_int, opGe_int, opLt_str, opLe_str, opIsN_ref, opIsN_non, opIsN_int, opIsN_tup, opIsN_str, opIsN_bl, opEq_bl, opNe_bl, opFdiv_int, opMul_int, opPow_int, atI_0, atI_1, atI_2, opIx_ref, opIx_tup, opIx_rl, opLen_tup, opLen_str, opLen_rl, opMax2_int, opMin2_int, opInt_int, opInt_bl, tyN_non, tyN_bl, tyN_int, tyN_str, tyN_tup, tyN_rl, truthW_bl, srcW_tup, srcW_rl, Bool.not_true]
      exact f.trans f2
    unfold n_law_same d_law_same
    rcases h with ⟨rfl, rfl⟩ | ⟨x, rfl, rfl⟩ | ⟨x, rfl, rfl⟩ | ⟨x, rfl, rfl⟩ | ⟨xs, ys, rfl, rfl, hl, hz, h⟩ | ⟨p, q, xs, ys, rfl, rfl, g1, g2, hl, hz, h⟩
    · simp only [wp_ok, wp_exc, wp_ret, wp_badM, wp_lift, wp_chk, wp_alloc, wp_grd, wp_tgt, wp_noXe, wp_dVar, wp_dC, wp_aNil, wp_aCons, wp_dTup, wp_dLst, wp_dOp, wp_dUn, wp_dFn, wB_bl, wp_dChain, wp_dTru, wp_dBool, wp_dNot, wp_dAnd, wp_dOr, wp_dAndV, wp_dOrV, wp_dNotV, wp_dIfE, wp_dYes, wp_dCall, wp_dCallK, wp_dIsi, wp_dIsi2, wp_dMt, wp_oN, wI_int, wp_oS, wp_dSl, wp_dSrc, wp_dZip, wp_dRng1, wp_dRng2, wp_dEnum, wp_dLc, wpS_nx, wpS_rt, wpS_bk, wpS_ct, wpS_exc, wpS_bad, wpS_ite, wpS_dSeq, wpS_dNx, wpS_dBk, wpS_dCt, wpS_dDrop, wpS_dRet, wpS_dRetN, wpS_dIf, wpS_dSet, wpS_dAsg, wpS_dPar, wpS_dPut, wpS_dRaise, wpS_dFor, wp_dfn, wO_some, wO_none, wO_map, wO_bind, wO_ite, List.map_cons, List.map_nil, List.replicate_succ, List.replicate_zero, List.cons_append, List.nil_append, Nat.reduceSub, Nat.reduceAdd, List.getElem?_cons_zero, List.getElem?_cons_succ, List.set_cons_zero, List.set_cons_succ, List.length_cons, List.length_nil, tgN, tgNil, tgCons, tgTup, wipeE, isT, String.reduceBEq, Bool.and_false, Bool.false_and, Bool.true_and, Bool.and_true, Bool.or_false, Bool.false_or, Bool.true_or, Bool.or_true, Bool.not_true, Bool.not_false, if_true, if_false, true_and, and_true, Bool.false_eq_true, Bool.true_eq_false, reduceIte, opEq_int, opNe_int, opEq_str, opNe_str, opAdd_int, opSub_int, opMod_pos, opLt_int, opLe_int, opGt_int, opGe_int, opLt_str, opLe_str, opIsN_ref, opIsN_non, opIsN_int, opIsN_tup, opIsN_str, opIsN_bl, opEq_bl, opNe_bl, opFdiv_int, opMul_int, opPow_int, atI_0, atI_1, atI_2, opIx_ref, opIx_tup, opIx_rl, opLen_tup, opLen_str, opLen_rl, opMax2_int, opMin2_int, opInt_int, opInt_bl, tyN_non, tyN_bl, tyN_int, tyN_str, tyN_tup, tyN_rl, truthW_bl, srcW_tup, srcW_rl, isT, String.reduceBEq, Bool.and_false, Bool.false_and, Bool.true_and, Bool.and_true, Bool.or_false, Bool.false_or, Bool.true_or, Bool.or_true]
      exact Fr.refl
    · simp only [wp_ok, wp_exc, wp_ret, wp_badM, wp_lift, wp_chk, wp_alloc, wp_grd, wp_tgt, wp_noXe, wp_dVar, wp_dC, wp_aNil, wp_aCons, wp_dTup, wp_dLst, wp_dOp, wp_dUn, wp_dFn, wB_bl, wp_dChain, wp_dTru, wp_dBool, wp_dNot, wp_dAnd, wp_dOr, wp_dAndV, wp_dOrV, wp_dNotV, wp_dIfE, wp_dYes, wp_dCall, wp_dCallK, wp_dIsi, wp_dIsi2, wp_dMt, wp_oN, wI_int, wp_oS, wp_dSl, wp_dSrc, wp_dZip, wp_dRng1, wp_dRng2, wp_dEnum, wp_dLc, wpS_nx, wpS_rt, wpS_bk, wpS_ct, wpS_exc, wpS_bad, wpS_ite, wpS_dSeq, wpS_dNx, wpS_dBk, wpS_dCt, wpS_dDrop, wpS_dRet, wpS_dRetN, wpS_dIf, wpS_dSet, wpS_dAsg, wpS_dPar, wpS_dPut, wpS_dRaise, wpS_dFor, wp_dfn, wO_some, wO_none, wO_map, wO_bind, wO_ite, List.map_cons, List.map_nil, List.replicate_succ, List.replicate_zero, List.cons_append, List.nil_append, Nat.reduceSub, Nat.reduceAdd, List.getElem?_cons_zero, List.getElem?_cons_succ, List.set_cons_zero, List.set_cons_succ, List.length_cons, List.length_nil, tgN, tgNil, tgCons, tgTup, wipeE, isT, String.reduceBEq, Bool.and_false, Bool.false_and, Bool.true_and, Bool.and_true, Bool.or_false, Bool.false_or, Bool.true_or, Bool.or_true, Bool.not_true, Bool.not_false, if_true, if_false, true_and, and_true, Bool.false_eq_true, Bool.true_eq_false, reduceIte, opEq_int, opNe_int, opEq_str, opNe_str, opAdd_int, opSub_int, opMod_pos, opLt_int, opLe_int, opGt_int, opGe_int, opLt_str, opLe_str, opIsN_ref, opIsN_non, opIsN_int, opIsN_tup, opIsN_str, opIsN_bl, opEq_bl, opNe_bl, opFdiv_int, opMul_int, opPow_int, atI_0, atI_1, atI_2, opIx_ref, opIx_tup, opIx_rl, opLen_tup, opLen_str, opLen_rl, opMax2_int, opMin2_int, opInt_int, opInt_bl, tyN_non, tyN_bl, tyN_int, tyN_str, tyN_tup, tyN_rl, truthW_bl, srcW_tup, srcW_rl, isT, String.reduceBEq, Bool.and_false, Bool.false_and, Bool.true_and, Bool.and_true, Bool.or_false, Bool.false_or, Bool.true_or, Bool.or_true, opIsN_bl, opEq_bl, opNe_bl, beq_self_eq_true, Bool.not_true]
      exact Fr.refl
    · simp only [wp_ok, wp_exc, wp_ret, wp_badM, wp_lift, wp_chk, wp_alloc, wp_grd, wp_tgt, wp_noXe, wp_dVar, wp_dC, wp_aNil, wp_aCons, wp_dTup, wp_dLst, wp_dOp, wp_dUn, wp_dFn, wB_bl, wp_dChain, wp_dTru, wp_dBool, wp_dNot, wp_dAnd, wp_dOr, wp_dAndV, wp_dOrV, wp_dNotV, wp_dIfE, wp_dYes, wp_dCall, wp_dCallK, wp_dIsi, wp_dIsi2, wp_dMt, wp_oN, wI_int, wp_oS, wp_dSl, wp_dSrc, wp_dZip, wp_dRng1, wp_dRng2, wp_dEnum, wp_dLc, wpS_nx, wpS_rt, wpS_bk, wpS_ct, wpS_exc, wpS_bad, wpS_ite, wpS_dSeq, wpS_dNx, wpS_dBk, wpS_dCt, wpS_dDrop, wpS_dRet, wpS_dRetN, wpS_dIf, wpS_dSet, wpS_dAsg, wpS_dPar, wpS_dPut, wpS_dRaise, wpS_dFor, wp_dfn, wO_some, wO_none, wO_map, wO_bind, wO_ite, List.map_cons, List.map_nil, List.replicate_succ, List.replicate_zero, List.cons_append, List.nil_append, Nat.reduceSub, Nat.reduceAdd, List.getElem?_cons_zero, List.getElem?_cons_succ, List.set_cons_zero, List.set_cons_succ, List.length_cons, List.length_nil, tgN, tgNil, tgCons, tgTup, wipeE, isT, String.reduceBEq, Bool.and_false, Bool.false_and, Bool.true_and, Bool.and_true, Bool.or_false, Bool.false_or, Bool.true_or, Bool.or_true, Bool.not_true, Bool.not_false, if_true, if_false, true_and, and_true, Bool.false_eq_true, Bool.true_eq_false, reduceIte, opEq_int, opNe_int, opEq_str, opNe_str, opAdd_int, opSub_int, opMod_pos, opLt_int, opLe_int, opGt_int, opGe_int, opLt_str, opLe_str, opIsN_ref, opIsN_non, opIsN_int, opIsN_tup, opIsN_str, opIsN_bl, opEq_bl, opNe_bl, opFdiv_int, opMul_int, opPow_int, atI_0, atI_1, atI_2, opIx_ref, opIx_tup, opIx_rl, opLen_tup, opLen_str, opLen_rl, opMax2_int, opMin2_int, opInt_int, opInt_bl, tyN_non, tyN_bl, tyN_int, tyN_str, tyN_tup, tyN_rl, truthW_bl, srcW_tup, srcW_rl, isT, String.reduceBEq, Bool.and_false, Bool.false_and, Bool.true_and, Bool.and_true, Bool.or_false, Bool.false_or, Bool.true_or, Bool.or_true, opIsN_bl, opEq_bl, opNe_bl, beq_self_eq_true, Bool.not_true]
      exact Fr.refl
    · simp only [wp_ok, wp_exc, wp_ret, wp_badM, wp_lift, wp_chk, wp_alloc, wp_grd, wp_tgt, wp_noXe, wp_dVar, wp_dC, wp_aNil, wp_aCons, wp_dTup, wp_dLst, wp_dOp, wp_dUn, wp_dFn, wB_bl, wp_dChain, wp_dTru, wp_dBool, wp_dNot, wp_dAnd, wp_dOr, wp_dAndV, wp_dOrV, wp_dNotV, wp_dIfE, wp_dYes, wp_dCall, wp_dCallK, wp_dIsi, wp_dIsi2, wp_dMt, wp_oN, wI_int, wp_oS, wp_dSl, wp_dSrc, wp_dZip, wp_dRng1, wp_dRng2, wp_dEnum, wp_dLc, wpS_nx, wpS_rt, wpS_bk, wpS_ct, wpS_exc, wpS_bad, wpS_ite, wpS_dSeq, wpS_dNx, wpS_dBk, wpS_dCt, wpS_dDrop, wpS_dRet, wpS_dRetN, wpS_dIf, wpS_dSet, wpS_dAsg, wpS_dPar, wpS_dPut, wpS_dRaise, wpS_dFor, wp_dfn, wO_some, wO_none, wO_map, wO_bind, wO_ite, List.map_cons, List.map_nil, List.replicate_succ, List.replicate_zero, List.cons_append, List.nil_append, Nat.reduceSub, Nat.reduceAdd, List.getElem?_cons_zero, List.getElem?_cons_succ, List.set_cons_zero, List.set_cons_succ, List.length_cons, List.length_nil, tgN, tgNil, tgCons, tgTup, wipeE, isT, String.reduceBEq, Bool.and_false, Bool.false_and, Bool.true_and, Bool.and_true, Bool.or_false, Bool.false_or, Bool.true_or, Bool.or_true, Bool.not_true, Bool.not_false, if_true, if_false, true_and, and_true, Bool.false_eq_true, Bool.true_eq_false, reduceIte, opEq_int, opNe_int, opEq_str, opNe_str, opAdd_int, opSub_int, opMod_pos, opLt_int, opLe_int, opGt_int, opGe_int, opLt_str, opLe_str, opIsN_ref, opIsN_non, opIsN_int, opIsN_tup, opIsN_str, opIsN_bl, opEq_bl, opNe_bl, opFdiv_int, opMul_int, opPow_int, atI_0, atI_1, atI_2, opIx_ref, opIx_tup, opIx_rl, opLen_tup, opLen_str, opLen_rl, opMax2_int, opMin2_int, opInt_int, opInt_bl, tyN_non, tyN_bl, tyN_int, tyN_str, tyN_tup, tyN_rl, truthW_bl, srcW_tup, srcW_rl, isT, String.reduceBEq, Bool.and_false, Bool.false_and, Bool.true_and, Bool.and_true, Bool.or_false, Bool.false_or, Bool.true_or, Bool.or_true, opIsN_bl, opEq_bl, opNe_bl, beq_self_eq_true, Bool.not_true]
      exact Fr.refl
    · simp only [wp_ok, wp_exc, wp_ret, wp_badM, wp_lift, wp_chk, wp_alloc, wp_grd, wp_tgt, wp_noXe, wp_dVar, wp_dC, wp_aNil, wp_aCons, wp_dTup, wp_dLst, wp_dOp, wp_dUn, wp_dFn, wB_bl, wp_dChain, wp_dTru, wp_dBool, wp_dNot, wp_dAnd, wp_dOr, wp_dAndV, wp_dOrV, wp_dNotV, wp_dIfE, wp_dYes, wp_dCall, wp_dCallK, wp_dIsi, wp_dIsi2, wp_dMt, wp_oN, wI_int, wp_oS, wp_dSl, wp_dSrc, wp_dZip, wp_dRng1, wp_dRng2, wp_dEnum, wp_dLc, wpS_nx, wpS_rt, wpS_bk, wpS_ct, wpS_exc, wpS_bad, wpS_ite, wpS_dSeq, wpS_dNx, wpS_dBk, wpS_dCt, wpS_dDrop, wpS_dRet, wpS_dRetN, wpS_dIf, wpS_dSet, wpS_dAsg, wpS_dPar, wpS_dPut, wpS_dRaise, wpS_dFor, wp_dfn, wO_some, wO_none, wO_map, wO_bind, wO_ite, List.map_cons, List.map_nil, List.replicate_succ, List.replicate_zero, List.cons_append, List.nil_append, Nat.reduceSub, Nat.reduceAdd, List.getElem?_cons_zero, List.getElem?_cons_succ, List.set_cons_zero, List.set_cons_succ, List.length_cons, List.length_nil, tgN, tgNil, tgCons, tgTup, wipeE, isT, String.reduceBEq, Bool.and_false, Bool.false_and, Bool.true_and, Bool.and_true, Bool.or_false, Bool.false_or, Bool.true_or, Bool.or_true, Bool.not_true, Bool.not_false, if_true, if_false, true_and, and_true, Bool.false_eq_true, Bool.true_eq_false, reduceIte, opEq_int, opNe_int, opEq_str, opNe_str, opAdd_int, opSub_int, opMod_pos, opLt_int, opLe_int, opGt_int, opGe_int, opLt_str, opLe_str, opIsN_ref, opIsN_non, opIsN_int, opIsN_tup, opIsN_str, opIsN_bl, opEq_bl, opNe_bl, opFdiv_int, opMul_int, opPow_int, atI_0, atI_1, atI_2, opIx_ref, opIx_tup, opIx_rl, opLen_tup, opLen_str, opLen_rl, opMax2_int, opMin2_int, opInt_int, opInt_bl, tyN_non, tyN_bl, tyN_int, tyN_str, tyN_tup, tyN_rl, truthW_bl, srcW_tup, srcW_rl, isT, String.reduceBEq, Bool.and_false, Bool.false_and, Bool.true_and, Bool.and_true, Bool.or_false, Bool.false_or, Bool.true_or, Bool.or_true, opIsN_bl, opEq_bl, opNe_bl, beq_self_eq_true, Bool.not_true, hl, zipW]
      refine ⟨lenOk_of (by rw [zipL_length hl]; exact hz), ?_⟩
      refine wp_mono (lc xs ys _ (fun _ _ => trivial) hl h _ ⟨_, _, rfl⟩) ?_ (fun _ _ q => q)
      rintro ws S2 ⟨rfl, f⟩
      refine ⟨lenOk_of (by decide), ?_⟩
      rw [opEq_nil (by rw [List.append_assoc]; exact get_new) get_new]
      exact ⟨rfl, f.snoc.snoc⟩
    · simp only [wp_ok, wp_exc, wp_ret, wp_badM, wp_lift, wp_chk, wp_alloc, wp_grd, wp_tgt, wp_noXe, wp_dVar, wp_dC, wp_aNil, wp_aCons, wp_dTup, wp_dLst, wp_dOp, wp_dUn, wp_dFn, wB_bl, wp_dChain, wp_dTru, wp_dBool, wp_dNot, wp_dAnd, wp_dOr, wp_dAndV, wp_dOrV, wp_dNotV, wp_dIfE, wp_dYes, wp_dCall, wp_dCallK, wp_dIsi, wp_dIsi2, wp_dMt, wp_oN, wI_int, wp_oS, wp_dSl, wp_dSrc, wp_dZip, wp_dRng1, wp_dRng2, wp_dEnum, wp_dLc, wpS_nx, wpS_rt, wpS_bk, wpS_ct, wpS_exc, wpS_bad, wpS_ite, wpS_dSeq, wpS_dNx, wpS_dBk, wpS_dCt, wpS_dDrop, wpS_dRet, wpS_dRetN, wpS_dIf, wpS_dSet, wpS_dAsg, wpS_dPar, wpS_dPut, wpS_dRaise, wpS_dFor, wp_dfn, wO_some, wO_none, wO_map, wO_bind, wO_ite, List.map_cons, List.map_nil, List.replicate_succ, List.replicate_zero, List.cons_append, List.nil_append, Nat.reduceSub, Nat.reduceAdd, List.getElem?_cons_zero, List.getElem?_cons_succ, List.set_cons_zero, List.set_cons_succ, List.length_cons, List.length_nil, tgN, tgNil, tgCons, tgTup, wipeE, isT, String.reduceBEq, Bool.and_false, Bool.false_and, Bool.true_and, Bool.and_true, Bool.or_false, Bool.false_or, Bool.true_or, Bool.or_true, Bool.not_true, Bool.not_false, if_true, if_false, true_and, and_true, Bool.false_eq_true, Bool.true_eq_false, reduceIte, opEq_int, opNe_int, opEq_str, opNe_str, opAdd_int, opSub_int, opMod_pos, opLt_int, opLe_int, opGt_int, opGe_int, opLt_str, opLe_str, opIsN_ref, opIsN_non, opIsN_int, opIsN_tup, opIsN_str, opIsN_bl, opEq_bl, opNe_bl, opFdiv_int, opMul_int, opPow_int, atI_0, atI_1, atI_2, opIx_ref, opIx_tup, opIx_rl, opLen_tup, opLen_str, opLen_rl, opMax2_int, opMin2_int, opInt_int, opInt_bl, tyN_non, tyN_bl, tyN_int, tyN_str, tyN_tup, tyN_rl, truthW_bl, srcW_tup, srcW_rl, isT, tyN_ref g1, tyN_ref g2, String.reduceBEq, Bool.and_false, Bool.false_and, Bool.true_and, Bool.and_true, Bool.or_false, Bool.false_or, Bool.true_or, Bool.or_true, opIsN_bl, opEq_bl, opNe_bl, beq_self_eq_true, Bool.not_true, hl, zipW, opLen_ref g1, opLen_ref g2, g1, g2]
      refine ⟨lenOk_of (by rw [zipL_length hl]; exact hz), ?_⟩
      refine wp_mono (lc xs ys _ (fun S' f => ⟨f.g0 g1, f.g0 g2⟩) hl h _ ⟨_, _, rfl⟩) ?_ (fun _ _ q => q)
      rintro ws S2 ⟨rfl, f⟩
      refine ⟨lenOk_of (by decide), ?_⟩
      rw [opEq_nil (by rw [List.append_assoc]; exact get_new) get_new]
      exact ⟨rfl, f.snoc.snoc⟩
end N
namespace N
open PySem L2
/-- the first answer of f at 0 .. n - 1 -/
def fstN {α : Type} (f : Nat → Option α) : Nat → Option α
  | 0 => none
  | n + 1 => match fstN f n with
    | some v => some v
    | none => f n
theorem fstN_none {α : Type} {f : Nat → Option α} : ∀ {n : Nat}, fstN f n = none ↔ ∀ i, i < n → f i = none
  | 0 => ⟨fun _ i h => absurd h (Nat.not_lt_zero _), fun _ => rfl⟩
  | n + 1 => by
    unfold fstN
    constructor
    · intro h i hi
      cases z : fstN f n with
      | some v => rw [z] at h; cases h
      | none =>
        rw [z] at h
        rcases Nat.lt_or_ge i n with q | q
        · exact fstN_none.mp z i q
        · have : i = n := by omega
          subst this
          exact h
    · intro h
      rw [fstN_none.mpr fun i hi => h i (by omega)]
      exact h n (by omega)
theorem fstN_some {α : Type} {f : Nat → Option α} {i : Nat} {v : α} (h : ∀ j, j < i → f j = none) (e : f i = some v) : ∀ {n : Nat}, i < n → fstN f n = some v
  | 0, hi => absurd hi (Nat.not_lt_zero _)
  | n + 1, hi => by
    unfold fstN
    rcases Nat.lt_or_ge i n with q | q
    · rw [fstN_some h e q]
    · have : i = n := by omega
      subst this
      rw [fstN_none.mpr h]
      exact e
theorem fstN_congr {α : Type} {f g : Nat → Option α} : ∀ {n : Nat}, (∀ i, i < n → f i = g i) → fstN f n = fstN g n
  | 0, _ => rfl
  | n + 1, h => by
    unfold fstN
    rw [fstN_congr fun i hi => h i (by omega), h n (by omega)]
theorem fstN_mem {α : Type} {f : Nat → Option α} {v : α} : ∀ {n : Nat}, fstN f n = some v → ∃ i, i < n ∧ f i = some v
  | 0, e => by cases e
  | n + 1, e => by
    unfold fstN at e
    cases z : fstN f n with
    | some u =>
      rw [z] at e
      obtain ⟨i, h1, h2⟩ := fstN_mem z
      cases e
      exact ⟨i, by omega, h2⟩
    | none => rw [z] at e; exact ⟨n, by omega, e⟩
/-- a loop that returns at the first answer -/
theorem wpS_forFind {t : DT} {body : DS} {g : Store → Prop} {D : NEnds} {items : List W} {ε : Ev} {S : Store} (f : Nat → Option W) (I : Ev → Store → Prop) (h0 : I ε S) (hg : ∀ ε S, I ε S → g S)
    (hs : ∀ (i : Nat) x ε S, items[i]? = some x → I ε S → wO (t x ε S) fun ε1 => wpS (body ε1 S) ⟨fun ε' S' => f i = none ∧ I ε' S', fun w S' => f i = some w ∧ (fstN f items.length = some w → D.rt w S'), fun _ _ => False, fun ε' S' => f i = none ∧ I ε' S', D.ex⟩)
    (hd : ∀ ε S, fstN f items.length = none → I ε S → D.nx ε S) : wpS (forL t body g items ε S) D := by
  refine wpS_forL (fun i ε S => (∀ j, j < i → f j = none) ∧ I ε S) ⟨fun j h => absurd h (Nat.not_lt_zero _), h0⟩ (fun _ _ _ _ h => hg _ _ h.2) ?_ (fun ε S h => hd ε S (fstN_none.mpr h.1) h.2)
  rintro i x ε S e ⟨hj, h⟩
  have q := hs i x ε S e h
  cases z : t x ε S with
  | none => rw [z] at q; exact q.elim
  | some ε1 =>
    rw [z] at q
    have lt : i < items.length := (List.getElem?_eq_some_iff.mp e).1
    have up : ∀ ε' S', f i = none ∧ I ε' S' → (∀ j, j < i + 1 → f j = none) ∧ I ε' S' := fun ε' S' ⟨a, b⟩ => ⟨fun j hh => by
      rcases Nat.lt_or_ge j i with q | q
      · exact hj j q
      · have : j = i := by omega
        rw [this]; exact a, b⟩
    refine wpS_mono (q : wpS (body ε1 S) _) up (fun w S' ⟨a, b⟩ => b (fstN_some hj a lt)) (fun _ _ h => h.elim) up (fun _ _ _ h => h)
/-- a comprehension without conditions, an answer for each item -/
theorem wp_lcMap {t : DT} {el : DE} {g : Store → Prop} {ε0 : Ev} {E : Ex → Store → Prop} {items : List W} {S : Store} (f : Nat → W) (I : Nat → Store → Prop) (h0 : I 0 S) (hg : ∀ i S, i ≤ items.length → I i S → g S)
    (hs : ∀ (i : Nat) x S, items[i]? = some x → I i S → wO (t x ε0 S) fun ε1 => wp (el ε1 S) (fun w S2 => w = f i ∧ I (i + 1) S2) (fun _ _ => False)) :
    wp (lcL t dYes el g ε0 items S) (fun ws S' => ws = (List.range items.length).map f ∧ I items.length S') E := by
  refine wp_mono (wp_lcL (acc := []) (fun i acc S => acc = (List.range i).map f ∧ I i S) ⟨rfl, h0⟩ (fun i _ S hi h => hg i S hi h.2) ?_) (fun ws S' q => by simpa using q) (fun _ _ q => q)
  rintro i x acc S e ⟨rfl, h⟩
  have q := hs i x S e h
  cases z : t x ε0 S with
  | none => rw [z] at q; exact q.elim
  | some ε1 =>
    rw [z] at q
    rw [wO_some, wp_dYes, if_pos rfl]
    refine wp_mono (q : wp (el ε1 S) _ _) (fun w S2 ⟨e1, h2⟩ => ⟨?_, h2⟩) (fun _ _ q => q)
    rw [e1, List.range_succ, List.map_append]
    rfl
theorem map_range {α β : Type} {f : α → β} {xs : List α} {g : Nat → β} (h : ∀ (i : Nat) x, xs[i]? = some x → g i = f x) : (List.range xs.length).map g = xs.map f := by
  apply List.ext_getElem?
  intro i
  rw [List.getElem?_map, List.getElem?_map]
  rcases Nat.lt_or_ge i xs.length with q | q
  · rw [List.getElem?_range q, List.getElem?_eq_getElem q]
    show some (g i) = some (f _)
    rw [h i _ (List.getElem?_eq_getElem q)]
  · rw [List.getElem?_eq_none (by simpa using q), List.getElem?_eq_none q]
    rfl
/-- each item answered alike -/
theorem wp_lcF {α : Type} {t : DT} {el : DE} {g : Store → Prop} {ε0 : Ev} {E : Ex → Store → Prop} {xs : List α} {c : α → W} {S : Store} (f : α → W) (I : Store → Prop) (h0 : I S) (hg : ∀ S, I S → g S)
    (hs : ∀ (i : Nat) x S, xs[i]? = some x → I S → wO (t (c x) ε0 S) fun ε1 => wp (el ε1 S) (fun w S2 => w = f x ∧ I S2) (fun _ _ => False)) :
    wp (lcL t dYes el g ε0 (xs.map c) S) (fun ws S' => ws = xs.map f ∧ I S') E := by
  refine wp_mono (wp_lcMap (fun i => match xs[i]? with
    | some x => f x
    | none => .non) (fun _ => I) h0 (fun _ S _ h => hg S h) ?_) (fun ws S' ⟨e, h⟩ => ⟨?_, h⟩) (fun _ _ q => q)
  · intro i w S e h
    rw [List.getElem?_map, Option.map_eq_some_iff] at e
    obtain ⟨x, e1, rfl⟩ := e
    rw [e1]
    exact hs i x S e1 h
  · rw [e, List.length_map]
    exact map_range fun i x e => by rw [e]
theorem blsOf_map : ∀ {bs : List Bool}, blsOf (bs.map W.bl) = some bs
  | [] => rfl
  | b :: bs => by
    have ih : blsOf (bs.map W.bl) = some bs := blsOf_map
    unfold blsOf at ih ⊢
    rw [List.map_cons]
    simp only [mapO, ih]
theorem listW_ref {n : Nat} {l : List W} {S : Store} (e : S[n]? = some (.lst l)) : listW (.ref n) S = some l := by
  unfold listW
  simp only [e]
theorem opAll_ref {n : Nat} {bs : List Bool} {S : Store} (e : S[n]? = some (.lst (bs.map W.bl))) : opAll [.ref n] S = some (.bl (bs.all id), S) := by
  unfold opAll
  simp only [listW_ref e, Option.bind_some, blsOf_map, Option.map_some]
theorem opAny_ref {n : Nat} {bs : List Bool} {S : Store} (e : S[n]? = some (.lst (bs.map W.bl))) : opAny [.ref n] S = some (.bl (bs.any id), S) := by
  unfold opAny
  simp only [listW_ref e, Option.bind_some, blsOf_map, Option.map_some]
/-- the comprehension under all(..) -/
theorem map_true {α : Type} {xs : List α} {f : α → Bool} (h : ∀ x ∈ xs, f x = true) : (xs.map f).all id = true := by
  simpa using h
/-- [1 for ..] == [], != [] : whether a list is empty -/
theorem toD_ints {S : Store} {k : Nat} : ∀ {ws : List W} {i : Int}, (∀ w ∈ ws, w = .int i) → mapO (toD S (k + 1)) ws = some (ws.map fun _ => PyData.int i)
  | [], i, _ => rfl
  | w :: ws, i, h => by
    have e := h w (List.mem_cons_self ..)
    subst e
    have ih := toD_ints (S := S) (k := k) fun w hw => h w (List.mem_cons_of_mem _ hw)
    simp only [mapO, ih, toD, List.map_cons]
theorem toD_lst {S : Store} {n k : Nat} {ws : List W} (e : S[n]? = some (.lst ws)) : toD S (k + 1) (.ref n) = (mapO (toD S k) ws).map PyData.list := by
  show (match S[n]? with
    | some (.lst ws) => (mapO (toD S k) ws).map PyData.list
    | _ => none) = _
  rw [e]
theorem eqv_nil {α : Type} {ws : List α} {f : α → PyData} : PyData.eqv (.list (ws.map f)) (.list []) = ws.isEmpty := by
  cases ws <;> simp [PyData.eqv, PyData.eqvAll]
theorem opEq_ones {n m : Nat} {ws : List W} {i : Int} {S : Store} (h1 : S[n]? = some (.lst ws)) (h2 : S[m]? = some (.lst [])) (hw : ∀ w ∈ ws, w = .int i) : opEq (.ref n) (.ref m) S = some (.bl ws.isEmpty, S) := by
  unfold opEq
  rw [toD_lst h1, toD_lst h2, toD_ints hw]
  show some (W.bl (PyData.eqv _ _), S) = _
  rw [eqv_nil]
theorem opNe_ones {n m : Nat} {ws : List W} {i : Int} {S : Store} (h1 : S[n]? = some (.lst ws)) (h2 : S[m]? = some (.lst [])) (hw : ∀ w ∈ ws, w = .int i) : opNe (.ref n) (.ref m) S = some (.bl (!ws.isEmpty), S) := by
  unfold opNe
  rw [toD_lst h1, toD_lst h2, toD_ints hw]
  show some (W.bl (!PyData.eqv _ _), S) = _
  rw [eqv_nil]

/-! ### repr of small data -/
mutual
def tiny : PyData → Bool
  | .none | .bool _ => true
  | .int i => decide (i.natAbs < 10 ^ 12)
  | .str x => x.cps.toList.all fun c => decide (c < 16 ^ 8)
  | .list xs | .tuple xs => tinyAll xs
  | .dict _ => false
def tinyAll : List PyData → Bool
  | [] => true
  | x :: xs => tiny x && tinyAll xs
end
mutual
theorem tiny_ok : ∀ d : PyData, tiny d = true → d.showable = true ∧ d.leavesShort 13 = true
  | .none, _ => ⟨rfl, rfl⟩
  | .bool _, _ => ⟨rfl, rfl⟩
  | .int i, h => by
    have h : i.natAbs < 10 ^ 12 := by simpa only [tiny, decide_eq_true_eq] using h
    constructor
    · simp only [PyData.showable, decide_eq_true_eq]
      by_cases z : i.natAbs = 0
      · rw [z]; decide
      · refine (Nat.log2_lt z).mpr (Nat.lt_of_lt_of_le h ?_)
        exact Nat.le_trans (by decide : 10 ^ 12 ≤ 2 ^ 40) (Nat.pow_le_pow_right (by decide) (by decide))
    · simp only [PyData.leavesShort, decide_eq_true_eq]
      exact PyData.shown_int_le h
  | .str x, h => by
    simp only [tiny] at h
    exact ⟨rfl, by simpa only [PyData.leavesShort] using h⟩
  | .list xs, h => by
    have h := tinyAll_ok xs (by simpa only [tiny] using h)
    exact ⟨by simpa only [PyData.showable] using h.1, by simpa only [PyData.leavesShort] using h.2⟩
  | .tuple xs, h => by
    have h := tinyAll_ok xs (by simpa only [tiny] using h)
    exact ⟨by simpa only [PyData.showable] using h.1, by simpa only [PyData.leavesShort] using h.2⟩
  | .dict _, h => by simp [tiny] at h
theorem tinyAll_ok : ∀ xs : List PyData, tinyAll xs = true → PyData.showableAll xs = true ∧ PyData.leavesShortAll 13 xs = true
  | [], _ => ⟨rfl, rfl⟩
  | x :: xs, h => by
    have h : tiny x = true ∧ tinyAll xs = true := by simpa only [tinyAll, Bool.and_eq_true] using h
    have h1 := tiny_ok x h.1
    have h2 := tinyAll_ok xs h.2
    exact ⟨by simp only [PyData.showableAll, h1.1, h2.1, Bool.and_self], by simp only [PyData.leavesShortAll, h1.2, h2.2, Bool.and_self]⟩
end
theorem tinyAll_map {α : Type} {f : α → PyData} : ∀ {xs : List α}, (∀ x ∈ xs, tiny (f x) = true) → tinyAll (xs.map f) = true
  | [], _ => rfl
  | x :: xs, h => by
    simp only [List.map_cons, tinyAll, h x (List.mem_cons_self ..), Bool.true_and]
    exact tinyAll_map fun y hy => h y (List.mem_cons_of_mem _ hy)
theorem bulkAll_map {α : Type} {f : α → PyData} {c : Nat} : ∀ {xs : List α}, (∀ x ∈ xs, (f x).bulk ≤ c) → PyData.bulkAll (xs.map f) ≤ xs.length * (c + 1)
  | [], _ => by simp [PyData.bulkAll]
  | x :: xs, h => by
    have h1 := h x (List.mem_cons_self ..)
    have h2 := bulkAll_map (xs := xs) fun y hy => h y (List.mem_cons_of_mem _ hy)
    simp only [List.map_cons, PyData.bulkAll, List.length_cons, Nat.add_mul, Nat.one_mul]
    omega
theorem opRepr_tiny {w : W} {S : Store} {d : PyData} (e : toD S deep w = some d) (h : tiny d = true) (hb : d.bulk ≤ 1000000) : opRepr [w] S = some (.str d.shown, S) := by
  unfold opRepr
  have := tiny_ok d h
  have h2 := PyData.shown_le_bulk 13 (by decide) d this.2
  simp only [e, Option.bind_some]
  rw [if_pos ⟨this.1, by rw [sizeLine_eq]; omega⟩]
theorem mapO_map {α β γ : Type} {f : β → Option γ} {c : α → β} {g : α → γ} : ∀ {xs : List α}, (∀ x ∈ xs, f (c x) = some (g x)) → mapO f (xs.map c) = some (xs.map g)
  | [], _ => rfl
  | x :: xs, h => by
    have ih := mapO_map (f := f) (c := c) (g := g) (xs := xs) fun y hy => h y (List.mem_cons_of_mem _ hy)
    simp only [List.map_cons, mapO, h x (List.mem_cons_self ..), ih]
theorem str_tiny {x : Str} (h : okS x = true) : tiny (.str x) = true := by
  simp only [tiny, List.all_eq_true, decide_eq_true_eq]
  unfold okS at h
  rw [List.all_eq_true] at h
  intro c hc
  have := h c hc
  simp only [decide_eq_true_eq] at this
  exact Nat.lt_of_lt_of_le this (by decide)
theorem int_tiny {i : Int} (h : i.natAbs < 10 ^ 12) : tiny (.int i) = true := by simpa only [tiny, decide_eq_true_eq] using h

/-! ### comprehensions with a condition -/
theorem wp_lcP {α : Type} {t : DT} {cnd : DB} {el : DE} {g : Store → Prop} {ε0 : Ev} {E : Ex → Store → Prop} {xs : List α} {c : α → W} {S : Store} (p : α → Bool) (f : α → W) (I : Store → Prop) (h0 : I S) (hg : ∀ S, I S → g S)
    (hs : ∀ (i : Nat) x S, xs[i]? = some x → I S → wO (t (c x) ε0 S) fun ε1 => wp (cnd ε1 S) (fun b S1 => b = p x ∧ (if p x = true then wp (el ε1 S1) (fun w S2 => w = f x ∧ I S2) (fun _ _ => False) else I S1)) (fun _ _ => False)) :
    wp (lcL t cnd el g ε0 (xs.map c) S) (fun ws S' => ws = (xs.filter p).map f ∧ I S') E := by
  refine wp_mono (wp_lcL (acc := []) (fun i acc S => acc = ((xs.take i).filter p).map f ∧ I S) ⟨rfl, h0⟩ (fun i _ S hi h => hg S h.2) ?_) (fun ws S' q => ?_) (fun _ _ q => q)
  · rintro i w acc S e ⟨rfl, h⟩
    rw [List.getElem?_map, Option.map_eq_some_iff] at e
    obtain ⟨x, e1, rfl⟩ := e
    have q := hs i x S e1 h
    cases z : t (c x) ε0 S with
    | none => rw [z] at q; exact q.elim
    | some ε1 =>
      rw [z] at q
      rw [wO_some]
      refine wp_mono (q : wp (cnd ε1 S) _ _) (fun b S1 ⟨e2, q2⟩ => ?_) (fun _ _ q => q)
      have e3 : (xs.take (i + 1)).filter p = (xs.take i).filter p ++ (if p x = true then [x] else []) := by
        rw [List.take_succ, e1, List.filter_append]
        simp only [Option.toList, List.filter_cons, List.filter_nil]
      rw [e2, e3]
      cases hp : p x with
      | true =>
        rw [hp] at q2
        rw [if_pos rfl, if_pos rfl]
        refine wp_mono (q2 : wp (el ε1 S1) _ _) (fun w S2 ⟨e4, h4⟩ => ⟨?_, h4⟩) (fun _ _ q => q)
        rw [e4, List.map_append]; rfl
      | false =>
        rw [hp] at q2
        rw [if_neg (by decide), if_neg (by decide)]
        exact ⟨by rw [List.append_nil], q2⟩
  · simp only [List.nil_append, List.length_map, List.take_length] at q
    exact q
/-- [1 for ..]: whether one is there -/
theorem wp_lcEx {t : DT} {cnd : DB} {i1 : Int} {g : Store → Prop} {ε0 : Ev} {E : Ex → Store → Prop} {items : List W} {S : Store} (P : Nat → Prop) (I : Store → Prop) (h0 : I S) (hg : ∀ S, I S → g S)
    (hs : ∀ (i : Nat) x S, items[i]? = some x → I S → wO (t x ε0 S) fun ε1 => wp (cnd ε1 S) (fun b S1 => (b = true ↔ P i) ∧ I S1) (fun _ _ => False)) :
    wp (lcL t cnd (dC (.int i1)) g ε0 items S) (fun ws S' => (∀ w ∈ ws, w = .int i1) ∧ (ws.isEmpty = false ↔ ∃ i, i < items.length ∧ P i) ∧ I S') E := by
  refine wp_mono (wp_lcL (acc := []) (fun i acc S => (∀ w ∈ acc, w = .int i1) ∧ (acc.isEmpty = false ↔ ∃ j, j < i ∧ P j) ∧ I S) ⟨fun w h => by simp at h, ⟨fun h => by simp at h, fun ⟨j, h, _⟩ => absurd h (Nat.not_lt_zero _)⟩, h0⟩ (fun i _ S hi h => hg S h.2.2) ?_) (fun ws S' q => by simpa only [List.nil_append] using q) (fun _ _ q => q)
  rintro i w acc S e ⟨h1, h2, h⟩
  have q := hs i w S e h
  cases z : t w ε0 S with
  | none => rw [z] at q; exact q.elim
  | some ε1 =>
    rw [z] at q
    rw [wO_some]
    refine wp_mono (q : wp (cnd ε1 S) _ _) (fun b S1 ⟨e2, q2⟩ => ?_) (fun _ _ q => q)
    cases b with
    | true =>
      rw [if_pos rfl, wp_dC]
      refine ⟨fun w hw => ?_, ⟨fun _ => ⟨i, by omega, e2.mp rfl⟩, fun _ => by simp⟩, q2⟩
      rcases List.mem_append.mp hw with h | h
      · exact h1 w h
      · exact List.mem_singleton.mp h
    | false =>
      rw [if_neg (by decide)]
      refine ⟨h1, ⟨fun h => ?_, fun ⟨j, hj, hp⟩ => ?_⟩, q2⟩
      · obtain ⟨j, hj, hp⟩ := h2.mp h
        exact ⟨j, by omega, hp⟩
      · rcases Nat.lt_or_ge j i with q | q
        · exact h2.mpr ⟨j, q, hp⟩
        · have : j = i := by omega
          subst this
          exact absurd (e2.mpr hp) (by decide)
end N
namespace K49
open PySem L2 N
def top (i : Nat) : Stmt := PySem.Challenge.pw_daychains_k49_clashes_of_logs.main.body.getD i (.Pass ⟨0, 0, 0, 0⟩)
noncomputable section
def d_is_integer : DS :=
  dSeq (dIf (dOr (dNot (dTru (dIsi "int" (dVar 0)))) (dTru (dIsi "bool" (dVar 0)))) (dRet (dC (.bl false))) (dNx))
  (dRet (dAndV (dOrV (dOp opIsN (dVar 1) (dC .non)) (dOp opLe (dVar 1) (dVar 0))) (dOrV (dOp opIsN (dVar 2) (dC .non)) (dOp opLe (dVar 0) (dVar 2)))))
def n_is_integer : List W → M W := dfn 3 3 d_is_integer
def d_is_day : DS :=
  dRet (dCallK n_is_integer 1 0 [.non, .non] [0, 1, 2] (aCons (dVar 0) (aNil)) (aNil))
def n_is_day : List W → M W := dfn 1 1 d_is_day
def d_is_office : DS :=
  dSeq (dIf (dOr (dNot (dTru (dIsi "str" (dVar 0)))) (dNot (dBool (dChain opLe opLe (dC (.int 1)) (dFn opLen (aCons (dVar 0) aNil)) (dC (.int 8)))))) (dRet (dC (.bl false))) (dNx))
  (dRet (dFn opAll (aCons (dLc (dSrc (dVar 0)) (tgN 1) (dYes) (dChain opLe opLe (dC (.str "a")) (dVar 1) (dC (.str "z"))) [1]) aNil)))
def n_is_office : List W → M W := dfn 2 1 d_is_office
def d_is_entry : DS :=
  dSeq (dIf (dOr (dNot (dTru (dIsi "tuple" (dVar 0)))) (dOr (dBool (dOp opNe (dFn opLen (aCons (dVar 0) aNil)) (dC (.int 3)))) (dNot (dTru (dCall n_is_office (aCons (dOp opIx (dVar 0) (dC (.int 0))) (aNil))))))) (dRet (dC (.bl false))) (dNx))
  (dRet (dAndV (dCall n_is_day (aCons (dOp opIx (dVar 0) (dC (.int 1))) (aNil))) (dAndV (dCall n_is_day (aCons (dOp opIx (dVar 0) (dC (.int 2))) (aNil))) (dOp opLe (dOp opIx (dVar 0) (dC (.int 1))) (dOp opIx (dVar 0) (dC (.int 2)))))))
def n_is_entry : List W → M W := dfn 1 1 d_is_entry
def d_require_log : DS :=
  dIf (dOr (dNot (dTru (dIsi "list" (dVar 0)))) (dNot (dTru (dFn opAll (aCons (dLc (dSrc (dVar 0)) (tgN 1) (dYes) (dCall n_is_entry (aCons (dVar 1) (aNil))) [1]) aNil))))) (dRaise 1) (dNx)
def n_require_log : List W → M W := dfn 2 1 d_require_log
def d_closes : DS :=
  dRet (dChain opLe opLt (dOp opIx (dVar 0) (dC (.int 1))) (dVar 1) (dOp opIx (dVar 0) (dC (.int 2))))
def n_closes : List W → M W := dfn 2 2 d_closes
def d_do_clash : DS :=
  dRet (dAndV (dOp opEq (dOp opIx (dVar 0) (dC (.int 0))) (dOp opIx (dVar 1) (dC (.int 0)))) (dOrV (dCall n_closes (aCons (dVar 0) (aCons (dOp opIx (dVar 1) (dC (.int 2))) (aNil)))) (dCall n_closes (aCons (dVar 1) (aCons (dOp opIx (dVar 0) (dC (.int 2))) (aNil))))))
def n_do_clash : List W → M W := dfn 2 2 d_do_clash
def d_clash_in : DS :=
  dSeq (dFor (dEnum (aCons (dVar 0) aNil)) (tgTup 2 (tgCons (tgN 1) (tgCons (tgN 2) (tgNil)))) (dFor (dEnum (aCons (dSl (dVar 0) (oN) (oS (dVar 1))) aNil)) (tgTup 2 (tgCons (tgN 3) (tgCons (tgN 4) (tgNil)))) (dIf (dTru (dCall n_do_clash (aCons (dVar 4) (aCons (dVar 2) (aNil))))) (dRet (dTup (aCons (dVar 3) (aCons (dVar 1) (aNil))))) (dNx))))
  (dRet (dC .non))
def n_clash_in : List W → M W := dfn 5 1 d_clash_in
def d_find_clash : DS :=
  dSeq (dDrop (dCall n_require_log (aCons (dVar 0) (aNil))))
  (dRet (dCall n_clash_in (aCons (dVar 0) (aNil))))
def n_find_clash : List W → M W := dfn 1 1 d_find_clash
def d_law_deck : DS :=
  dSeq (dSet 1 (dLst (aNil)))
  (dSeq (dFor (dRng1 (aCons (dFn opMax2 (aCons (dC (.int 1)) (aCons (dFn opMin2 (aCons (dC (.int 63)) (aCons (dFn opLen (aCons (dVar 0) aNil)) aNil))) aNil))) aNil)) (tgN 2) (dSeq (dSet 3 (dC (.int 0)))
  (dSeq (dIf (dBool (dOp opLt (dVar 2) (dFn opLen (aCons (dVar 0) aNil)))) (dSet 3 (dOp opIx (dVar 0) (dVar 2))) (dNx))
  (dDrop (dMt "list" mAppend (dVar 1) (aCons (dLst (aCons (dVar 3) (aCons (dFn opInt (aCons (dOp opGe (dVar 3) (dOp opPow (dC (.int 10)) (dC (.int 18)))) aNil)) (aCons (dOp opMul (dC (.int 31)) (dVar 2)) (aNil))))) aNil))))))
  (dRet (dLst (aCons (dVar 1) (aCons (dC (.int 0)) (aNil))))))
def n_law_deck : List W → M W := dfn 4 1 d_law_deck
def d_law_draw : DS :=
  dSeq (dSet 2 (dOp opIx (dOp opIx (dVar 0) (dC (.int 0))) (dOp opMod (dOp opIx (dVar 0) (dC (.int 1))) (dFn opLen (aCons (dOp opIx (dVar 0) (dC (.int 0))) aNil)))))
  (dSeq (dPut (dOp opAdd (dOp opIx (dVar 0) (dC (.int 1))) (dC (.int 1))) (dVar 0) (dC (.int 1)))
  (dSeq (dIf (dAnd (dBool (dOp opEq (dOp opIx (dVar 2) (dC (.int 1))) (dC (.int 1)))) (dBool (dOp opGt (dOp opIx (dVar 2) (dC (.int 0))) (dC (.int 0))))) (dSeq (dSet 4 (dOp opMod (dOp opIx (dVar 2) (dC (.int 0))) (dVar 1)))
  (dSeq (dPut (dOp opFdiv (dOp opIx (dVar 2) (dC (.int 0))) (dVar 1)) (dVar 2) (dC (.int 0)))
  (dRet (dVar 4)))) (dNx))
  (dSeq (dPut (dOp opAdd (dOp opIx (dVar 2) (dC (.int 2))) (dC (.int 1))) (dVar 2) (dC (.int 2)))
  (dSeq (dSet 3 (dOp opAdd (dOp opMod (dOp opIx (dVar 2) (dC (.int 0))) (dC (.int 162259276829213363391578010288127))) (dOp opMul (dC (.int 982451653)) (dOp opIx (dVar 2) (dC (.int 2))))))
  (dSeq (dSet 3 (dOp opMod (dOp opPow (dVar 3) (dC (.int 3))) (dC (.int 618970019642690137449562111))))
  (dSeq (dSet 3 (dOp opMod (dOp opPow (dOp opAdd (dVar 3) (dOp opMul (dC (.int 49979687)) (dOp opIx (dVar 2) (dC (.int 2))))) (dC (.int 3))) (dC (.int 162259276829213363391578010288127))))
  (dRet (dOp opMod (dOp opFdiv (dVar 3) (dC (.int 524288))) (dVar 1)))))))))
def n_law_draw : List W → M W := dfn 5 2 d_law_draw
def d_law_same (r : List W → M W) : DS :=
  dSeq (dIf (dTru (dIsi2 "list" "tuple" (dVar 1))) (dSeq (dIf (dOr (dBool (dOp opNe (dIsi "list" (dVar 0)) (dIsi "list" (dVar 1)))) (dBool (dOp opNe (dIsi "tuple" (dVar 0)) (dIsi "tuple" (dVar 1))))) (dRet (dC (.bl false))) (dNx))
  (dSeq (dIf (dBool (dOp opNe (dFn opLen (aCons (dVar 0) aNil)) (dFn opLen (aCons (dVar 1) aNil)))) (dRet (dC (.bl false))) (dNx))
  (dRet (dOp opEq (dLc (dZip (aCons (dVar 0) (aCons (dVar 1) aNil))) (tgTup 2 (tgCons (tgN 2) (tgCons (tgN 3) (tgNil)))) (dNot (dTru (dCall r (aCons (dVar 2) (aCons (dVar 3) (aNil)))))) (dC (.int 1)) [2, 3]) (dLst (aNil)))))) (dNx))
  (dSeq (dIf (dOr (dBool (dOp opIsN (dVar 1) (dC .non))) (dBool (dOp opIsN (dVar 0) (dC .non)))) (dRet (dAndV (dOp opIsN (dVar 1) (dC .non)) (dOp opIsN (dVar 0) (dC .non)))) (dNx))
  (dSeq (dIf (dOr (dBool (dOp opNe (dIsi "bool" (dVar 0)) (dIsi "bool" (dVar 1)))) (dBool (dOp opNe (dIsi "str" (dVar 0)) (dIsi "str" (dVar 1))))) (dRet (dC (.bl false))) (dNx))
  (dRet (dOp opEq (dVar 0) (dVar 1)))))
def n_law_same : Nat → List W → M W
  | 0 => fun _ => bad
  | j + 1 => dfn 4 2 (d_law_same (n_law_same j))
def d_law_closes : DS :=
  dRet (dChain opLe opLt (dOp opIx (dVar 0) (dC (.int 1))) (dVar 1) (dOp opIx (dVar 0) (dC (.int 2))))
def n_law_closes : List W → M W := dfn 2 2 d_law_closes
def d_law_first_clash : DS :=
  dSeq (dFor (dRng1 (aCons (dFn opLen (aCons (dVar 0) aNil)) aNil)) (tgN 1) (dFor (dRng1 (aCons (dVar 1) aNil)) (tgN 2) (dIf (dBool (dOp opEq (dOp opIx (dOp opIx (dVar 0) (dVar 2)) (dC (.int 0))) (dOp opIx (dOp opIx (dVar 0) (dVar 1)) (dC (.int 0))))) (dIf (dOr (dTru (dCall n_law_closes (aCons (dOp opIx (dVar 0) (dVar 2)) (aCons (dOp opIx (dOp opIx (dVar 0) (dVar 1)) (dC (.int 2))) (aNil))))) (dTru (dCall n_law_closes (aCons (dOp opIx (dVar 0) (dVar 1)) (aCons (dOp opIx (dOp opIx (dVar 0) (dVar 2)) (dC (.int 2))) (aNil)))))) (dRet (dTup (aCons (dVar 2) (aCons (dVar 1) (aNil))))) (dNx)) (dNx))))
  (dRet (dC .non))
def n_law_first_clash : List W → M W := dfn 3 1 d_law_first_clash
def d_law_sets : DS :=
  dSeq (dSet 1 (dLst (aCons (dLst (aNil)) (aNil))))
  (dSeq (dFor (dRng1 (aCons (dVar 0) aNil)) (tgN 2) (dSet 1 (dOp opAdd (dLc (dSrc (dVar 1)) (tgN 3) (dYes) (dOp opAdd (dVar 3) (dLst (aCons (dC (.bl true)) (aNil)))) [3]) (dLc (dSrc (dVar 1)) (tgN 3) (dYes) (dOp opAdd (dVar 3) (dLst (aCons (dC (.bl false)) (aNil)))) [3]))))
  (dRet (dVar 1)))
def n_law_sets : List W → M W := dfn 4 1 d_law_sets
def d_law_agrees : DS :=
  dSeq (dFor (dSrc (dVar 1)) (tgTup 3 (tgCons (tgN 2) (tgCons (tgN 3) (tgCons (tgN 4) (tgNil))))) (dSeq (dSet 5 (dVar 3))
  (dSeq (dWhile (dAnd (dBool (dChain opLe opLt (dC (.int 0)) (dVar 5) (dFn opLen (aCons (dVar 0) aNil)))) (dNot (dTru (dOp opIx (dVar 0) (dVar 5))))) (dSet 5 (dOp opAdd (dVar 5) (dC (.int 1)))))
  (dIf (dBool (dOp opNe (dVar 5) (dVar 4))) (dRet (dC (.bl false))) (dNx)))))
  (dRet (dC (.bl true)))
def n_law_agrees : List W → M W := dfn 6 2 d_law_agrees
def d_law_some_days : DS :=
  dRet (dLc (dRng1 (aCons (dVar 1) aNil)) (tgN 2) (dYes) (dOp opEq (dCall n_law_draw (aCons (dVar 0) (aCons (dC (.int 3)) (aNil)))) (dC (.int 0))) [2])
def n_law_some_days : List W → M W := dfn 3 2 d_law_some_days
def d_law_entries : DS :=
  dSeq (dSet 4 (dSl (dLst (aCons (dC (.str "ny")) (aCons (dC (.str "a")) (aCons (dC (.str "ldn")) (aNil))))) (oN) (oS (dVar 1))))
  (dSeq (dSet 5 (dLc (dSrc (dVar 4)) (tgN 11) (dYes) (dCall n_law_some_days (aCons (dVar 0) (aCons (dVar 2) (aNil)))) [11]))
  (dSeq (dSet 6 (dLst (aNil)))
  (dSeq (dFor (dRng1 (aCons (dCall n_law_draw (aCons (dVar 0) (aCons (dOp opAdd (dVar 3) (dC (.int 1))) (aNil)))) aNil)) (tgN 7) (dSeq (dSet 8 (dCall n_law_draw (aCons (dVar 0) (aCons (dVar 1) (aNil)))))
  (dSeq (dSet 9 (dCall n_law_draw (aCons (dVar 0) (aCons (dVar 2) (aNil)))))
  (dSeq (dSet 10 (dVar 9))
  (dSeq (dWhile (dAnd (dBool (dOp opLt (dVar 10) (dOp opSub (dVar 2) (dC (.int 1))))) (dNot (dTru (dOp opIx (dOp opIx (dVar 5) (dVar 8)) (dVar 10))))) (dSet 10 (dOp opAdd (dVar 10) (dC (.int 1)))))
  (dSeq (dIf (dBool (dOp opEq (dCall n_law_draw (aCons (dVar 0) (aCons (dC (.int 6)) (aNil)))) (dC (.int 0)))) (dSet 10 (dOp opAdd (dVar 9) (dCall n_law_draw (aCons (dVar 0) (aCons (dOp opSub (dVar 2) (dVar 9)) (aNil)))))) (dNx))
  (dDrop (dMt "list" mAppend (dVar 6) (aCons (dTup (aCons (dOp opIx (dVar 4) (dVar 8)) (aCons (dVar 9) (aCons (dVar 10) (aNil))))) aNil)))))))))
  (dRet (dVar 6)))))
def n_law_entries : List W → M W := dfn 12 4 d_law_entries
def d_law : DS :=
  dSeq (dSet 1 (dCall n_law_deck (aCons (dVar 0) (aNil))))
  (dSeq (dSet 2 (dCall n_law_sets (aCons (dC (.int 7)) (aNil))))
  (dSeq (dFor (dRng1 (aCons (dFn opMax2 (aCons (dC (.int 1)) (aCons (dFn opMin2 (aCons (dC (.int 24)) (aCons (dFn opLen (aCons (dVar 0) aNil)) aNil))) aNil))) aNil)) (tgN 3) (dSeq (dSet 5 (dOp opAdd (dC (.int 1)) (dCall n_law_draw (aCons (dVar 1) (aCons (dC (.int 3)) (aNil))))))
  (dSeq (dSet 4 (dCall n_law_entries (aCons (dVar 1) (aCons (dVar 5) (aCons (dC (.int 7)) (aCons (dC (.int 8)) (aNil)))))))
  (dSeq (dPar 8 9 (aCons (dFn opRepr (aCons (dVar 4) aNil)) (aCons (dCall n_law_first_clash (aCons (dVar 4) (aNil))) (aNil))))
  (dSeq (dIf (dOr (dNot (dTru (dCall (n_law_same 8) (aCons (dLst (aCons (dCall n_find_clash (aCons (dVar 4) (aNil))) (aCons (dCallK n_find_clash 0 1 [] [0] aNil (aCons (dVar 4) (aNil))) (aNil)))) (aCons (dLst (aCons (dVar 9) (aCons (dVar 9) (aNil)))) (aNil)))))) (dBool (dOp opNe (dFn opRepr (aCons (dVar 4) aNil)) (dVar 8)))) (dRet (dC (.bl false))) (dNx))
  (dSeq (dSet 6 (dC (.bl true)))
  (dSeq (dFor (dSrc (dSl (dLst (aCons (dC (.str "ny")) (aCons (dC (.str "a")) (aCons (dC (.str "ldn")) (aNil))))) (oN) (oS (dVar 5)))) (tgN 7) (dSeq (dSet 10 (dLc (dSrc (dVar 4)) (tgN 11) (dBool (dOp opEq (dOp opIx (dVar 11) (dC (.int 0))) (dVar 7))) (dVar 11) [11]))
  (dSet 6 (dAndV (dVar 6) (dOp opNe (dLc (dSrc (dVar 2)) (tgN 12) (dTru (dCall n_law_agrees (aCons (dVar 12) (aCons (dVar 10) (aNil))))) (dC (.int 1)) [12]) (dLst (aNil)))))))
  (dIf (dBool (dOp opNe (dVar 6) (dOp opIsN (dVar 9) (dC .non)))) (dRet (dC (.bl false))) (dNx)))))))))
  (dSeq (dSet 4 (dLst (aCons (dTup (aCons (dC (.str "a")) (aCons (dC (.int 0)) (aCons (dC (.int 3)) (aNil))))) (aCons (dTup (aCons (dC (.str "b")) (aCons (dC (.int 1)) (aCons (dC (.int 1)) (aNil))))) (aCons (dTup (aCons (dC (.str "a")) (aCons (dC (.int 4)) (aCons (dC (.int 4)) (aNil))))) (aCons (dTup (aCons (dC (.str "a")) (aCons (dC (.int 1)) (aCons (dC (.int 2)) (aNil))))) (aCons (dTup (aCons (dC (.str "a")) (aCons (dC (.int 2)) (aCons (dC (.int 2)) (aNil))))) (aNil))))))))
  (dRet (dAndV (dOp opEq (dCall n_find_clash (aCons (dVar 4) (aNil))) (dTup (aCons (dC (.int 0)) (aCons (dC (.int 3)) (aNil))))) (dOp opIsN (dCall n_find_clash (aCons (dLst (aNil)) (aNil))) (dC .non)))))))
def n_law : List W → M W := dfn 13 1 d_law
/-- what the text gives -/
structure Txt (G : Top) : Prop where
  b_all : G.mg "all" = none
  b_bool : G.mg "bool" = none
  b_enumerate : G.mg "enumerate" = none
  b_int : G.mg "int" = none
  b_isinstance : G.mg "isinstance" = none
  b_len : G.mg "len" = none
  b_list : G.mg "list" = none
  b_max : G.mg "max" = none
  b_min : G.mg "min" = none
  b_range : G.mg "range" = none
  b_repr : G.mg "repr" = none
  b_str : G.mg "str" = none
  b_tuple : G.mg "tuple" = none
  b_zip : G.mg "zip" = none
  c_MOST_SIGNS : ∃ t, G.mg "MOST_SIGNS" = some (.int (8) t)
  x_InvalidLog : ExcC G "InvalidLog" 1
  f_is_integer : MdefD G "is_integer" (top 4) [.none, .none]
  f_is_day : Mdef G "is_day" (top 5)
  f_is_office : Mdef G "is_office" (top 8)
  f_is_entry : Mdef G "is_entry" (top 10)
  f_require_log : Mdef G "require_log" (top 11)
  f_closes : Mdef G "closes" (top 12)
  f_do_clash : Mdef G "do_clash" (top 13)
  f_clash_in : Mdef G "clash_in" (top 14)
  f_find_clash : Mdef G "find_clash" (top 15)
  f_law_deck : Mdef G "_law_deck" (top 17)
  f_law_draw : Mdef G "_law_draw" (top 18)
  f_law_same : Mdef G "_law_same" (top 19)
  f_law_closes : Mdef G "_law_closes" (top 20)
  f_law_first_clash : Mdef G "_law_first_clash" (top 21)
  f_law_sets : Mdef G "_law_sets" (top 22)
  f_law_agrees : Mdef G "_law_agrees" (top 23)
  f_law_some_days : Mdef G "_law_some_days" (top 24)
  f_law_entries : Mdef G "_law_entries" (top 25)
  f_law : Mdef G "law" (top 26)
section
variable {G : Top}
theorem sc_is_integer : FnScope ["value", "low", "high"] ["value", "low", "high"] (defScope (top 4)) := ⟨rfl, rfl, rfl, by decide +kernel, rfl, by decide +kernel, by decide +kernel⟩
theorem bd_is_integer (T : Txt G) : SsOk G ⟨["value", "low", "high"], defScope (top 4), fun _ => true⟩ 0 (defBody (top 4)) d_is_integer :=
  ss_cons (s_if (bw_pt (bw_or (b_not (b_val (e_isi "int" (e_var 0) T.b_isinstance T.b_int))) (bw_or1 (b_val (e_isi "bool" (e_var 0) T.b_isinstance T.b_bool))))) (ss_one (s_ret (e_bl))) (ss_nil))
  (ss_one (s_ret (e_and (e_or (e_cmp r_isN o_isN (e_var 1) (e_non)) (e_one (e_cmp r_le o_le (e_var 1) (e_var 0)))) (e_one (e_or (e_cmp r_isN o_isN (e_var 2) (e_non)) (e_one (e_cmp r_le o_le (e_var 0) (e_var 2))))))))
theorem ok_is_integer_1_ (T : Txt G) : DefK G 1 "is_integer" ["value", "low", "high"] n_is_integer [] 1 [.non, .non] [0, 1, 2] := defD_mk (dV := [.non, .non]) T.f_is_integer sc_is_integer rfl (bd_is_integer T) (fun _ _ => VRs.cons .non (VRs.cons .non (VRs.nil))) (Paired.cons rfl (Paired.cons rfl (Paired.nil))) (fun _ _ _ _ _ _ _ us ws zs h1 h2 h3 => match us, ws, h1, h2, h3 with | [_], [], _, _, h3 => by cases h3; exact ⟨_, rfl, rfl⟩)
theorem sc_is_day : FnScope ["value"] ["value"] (defScope (top 5)) := ⟨rfl, rfl, rfl, by decide +kernel, rfl, by decide +kernel, by decide +kernel⟩
theorem bd_is_day (T : Txt G) : SsOk G ⟨["value"], defScope (top 5), fun _ => true⟩ 1 (defBody (top 5)) d_is_day :=
  ss_one (s_ret (e_callK (ok_is_integer_1_ T) (by decide) (a_cons (e_var 0) (a_nil)) (k_nil)))
theorem ok_is_day (T : Txt G) : Def G 2 "is_day" ["value"] n_is_day := def_mk T.f_is_day sc_is_day rfl (bd_is_day T) (fun _ _ _ _ _ _ us hl => match us, hl with | [_], _ => rfl)
theorem sc_is_office : FnScope ["value", "sign"] ["value"] (defScope (top 8)) := ⟨rfl, rfl, rfl, by decide +kernel, rfl, by decide +kernel, by decide +kernel⟩
theorem bd_is_office (T : Txt G) : SsOk G ⟨["value", "sign"], defScope (top 8), fun _ => true⟩ 0 (defBody (top 8)) d_is_office :=
  ss_cons (s_if (bw_pt (bw_or (b_not (b_val (e_isi "str" (e_var 0) T.b_isinstance T.b_str))) (bw_or1 (b_not (b_chain r_le r_le o_le o_le (e_int) (e_len (e_var 0) T.b_len) (e_globI T.c_MOST_SIGNS)))))) (ss_one (s_ret (e_bl))) (ss_nil))
  (ss_one (s_ret (e_all (e_lc [("sign", 1)] (i_seq (e_var 0)) (gw_name 1) (cs_nil) (e_chain r_le r_le o_le o_le (e_str) (e_var 1) (e_str))) T.b_all)))
theorem ok_is_office (T : Txt G) : Def G 1 "is_office" ["value"] n_is_office := def_mk T.f_is_office sc_is_office rfl (bd_is_office T) (fun _ _ _ _ _ _ us hl => match us, hl with | [_], _ => rfl)
theorem sc_is_entry : FnScope ["value"] ["value"] (defScope (top 10)) := ⟨rfl, rfl, rfl, by decide +kernel, rfl, by decide +kernel, by decide +kernel⟩
theorem bd_is_entry (T : Txt G) : SsOk G ⟨["value"], defScope (top 10), fun _ => true⟩ 2 (defBody (top 10)) d_is_entry :=
  ss_cons (s_if (bw_pt (bw_or (b_not (b_val (e_isi "tuple" (e_var 0) T.b_isinstance T.b_tuple))) (bw_or (b_cmp r_ne o_ne (e_len (e_var 0) T.b_len) (e_int)) (bw_or1 (b_not (b_val (e_call (ok_is_office T) (by decide) (a_cons (e_ix (e_var 0) (e_int)) (a_nil))))))))) (ss_one (s_ret (e_bl))) (ss_nil))
  (ss_one (s_ret (e_and (e_call (ok_is_day T) (by decide) (a_cons (e_ix (e_var 0) (e_int)) (a_nil))) (e_and (e_call (ok_is_day T) (by decide) (a_cons (e_ix (e_var 0) (e_int)) (a_nil))) (e_one (e_cmp r_le o_le (e_ix (e_var 0) (e_int)) (e_ix (e_var 0) (e_int))))))))
theorem ok_is_entry (T : Txt G) : Def G 3 "is_entry" ["value"] n_is_entry := def_mk T.f_is_entry sc_is_entry rfl (bd_is_entry T) (fun _ _ _ _ _ _ us hl => match us, hl with | [_], _ => rfl)
theorem sc_require_log : FnScope ["log", "entry"] ["log"] (defScope (top 11)) := ⟨rfl, rfl, rfl, by decide +kernel, rfl, by decide +kernel, by decide +kernel⟩
theorem bd_require_log (T : Txt G) : SsOk G ⟨["log", "entry"], defScope (top 11), fun _ => true⟩ 3 (defBody (top 11)) d_require_log :=
  ss_one (s_if (bw_pt (bw_or (b_not (b_val (e_isi "list" (e_var 0) T.b_isinstance T.b_list))) (bw_or1 (b_not (b_val (e_all (e_lc [("entry", 1)] (i_seq (e_var 0)) (gw_name 1) (cs_nil) (e_call (ok_is_entry T) (by decide) (a_cons (e_var 1) (a_nil)))) T.b_all)))))) (ss_one (s_raise T.x_InvalidLog)) (ss_nil))
theorem ok_require_log (T : Txt G) : Def G 4 "require_log" ["log"] n_require_log := def_mk T.f_require_log sc_require_log rfl (bd_require_log T) (fun _ _ _ _ _ _ us hl => match us, hl with | [_], _ => rfl)
theorem sc_closes : FnScope ["entry", "day"] ["entry", "day"] (defScope (top 12)) := ⟨rfl, rfl, rfl, by decide +kernel, rfl, by decide +kernel, by decide +kernel⟩
theorem bd_closes (T : Txt G) : SsOk G ⟨["entry", "day"], defScope (top 12), fun _ => true⟩ 0 (defBody (top 12)) d_closes :=
  ss_one (s_ret (e_chain r_le r_lt o_le o_lt (e_ix (e_var 0) (e_int)) (e_var 1) (e_ix (e_var 0) (e_int))))
theorem ok_closes (T : Txt G) : Def G 1 "closes" ["entry", "day"] n_closes := def_mk T.f_closes sc_closes rfl (bd_closes T) (fun _ _ _ _ _ _ us hl => match us, hl with | [_, _], _ => rfl)
theorem sc_do_clash : FnScope ["one", "other"] ["one", "other"] (defScope (top 13)) := ⟨rfl, rfl, rfl, by decide +kernel, rfl, by decide +kernel, by decide +kernel⟩
theorem bd_do_clash (T : Txt G) : SsOk G ⟨["one", "other"], defScope (top 13), fun _ => true⟩ 1 (defBody (top 13)) d_do_clash :=
  ss_one (s_ret (e_and (e_cmp r_eq o_eq (e_ix (e_var 0) (e_int)) (e_ix (e_var 1) (e_int))) (e_one (e_or (e_call (ok_closes T) (by decide) (a_cons (e_var 0) (a_cons (e_ix (e_var 1) (e_int)) (a_nil)))) (e_one (e_call (ok_closes T) (by decide) (a_cons (e_var 1) (a_cons (e_ix (e_var 0) (e_int)) (a_nil)))))))))
theorem ok_do_clash (T : Txt G) : Def G 2 "do_clash" ["one", "other"] n_do_clash := def_mk T.f_do_clash sc_do_clash rfl (bd_do_clash T) (fun _ _ _ _ _ _ us hl => match us, hl with | [_, _], _ => rfl)
theorem sc_clash_in : FnScope ["log", "second", "entry", "first", "earlier"] ["log"] (defScope (top 14)) := ⟨rfl, rfl, rfl, by decide +kernel, rfl, by decide +kernel, by decide +kernel⟩
theorem bd_clash_in (T : Txt G) : SsOk G ⟨["log", "second", "entry", "first", "earlier"], defScope (top 14), fun _ => true⟩ 2 (defBody (top 14)) d_clash_in :=
  ss_cons (s_for (i_enum (e_var 0) T.b_enumerate) (g_tup (gs_cons (g_name 1) (gs_cons (g_name 2) (gs_nil)))) (ss_one (s_for (i_enum (e_sl (e_var 0) (o_none) (o_some (e_var 1))) T.b_enumerate) (g_tup (gs_cons (g_name 3) (gs_cons (g_name 4) (gs_nil)))) (ss_one (s_if (b_val (e_call (ok_do_clash T) (by decide) (a_cons (e_var 4) (a_cons (e_var 2) (a_nil))))) (ss_one (s_ret (e_tup (a_cons (e_var 3) (a_cons (e_var 1) (a_nil)))))) (ss_nil))))))
  (ss_one (s_ret (e_non)))
theorem ok_clash_in (T : Txt G) : Def G 3 "clash_in" ["log"] n_clash_in := def_mk T.f_clash_in sc_clash_in rfl (bd_clash_in T) (fun _ _ _ _ _ _ us hl => match us, hl with | [_], _ => rfl)
theorem sc_find_clash : FnScope ["log"] ["log"] (defScope (top 15)) := ⟨rfl, rfl, rfl, by decide +kernel, rfl, by decide +kernel, by decide +kernel⟩
theorem bd_find_clash (T : Txt G) : SsOk G ⟨["log"], defScope (top 15), fun _ => true⟩ 4 (defBody (top 15)) d_find_clash :=
  ss_cons (s_expr (e_call (ok_require_log T) (by decide) (a_cons (e_var 0) (a_nil))))
  (ss_one (s_ret (e_call (ok_clash_in T) (by decide) (a_cons (e_var 0) (a_nil)))))
theorem ok_find_clash (T : Txt G) : Def G 5 "find_clash" ["log"] n_find_clash := def_mk T.f_find_clash sc_find_clash rfl (bd_find_clash T) (fun _ _ _ _ _ _ us hl => match us, hl with | [_], _ => rfl)
theorem ok_find_clash_0_log (T : Txt G) : DefK G 5 "find_clash" ["log"] n_find_clash ["log"] 0 [] [0] := defK_mk T.f_find_clash sc_find_clash rfl (bd_find_clash T) (fun _ _ _ _ _ _ us ws zs h1 h2 h3 => match us, ws, h1, h2, h3 with | [], [_], _, _, h3 => by cases h3; rfl)
theorem sc_law_deck : FnScope ["script", "pools", "k", "cell"] ["script"] (defScope (top 17)) := ⟨rfl, rfl, rfl, by decide +kernel, rfl, by decide +kernel, by decide +kernel⟩
theorem bd_law_deck (T : Txt G) : SsOk G ⟨["script", "pools", "k", "cell"], defScope (top 17), fun _ => true⟩ 0 (defBody (top 17)) d_law_deck :=
  ss_cons (s_set 1 (e_lst (a_nil)))
  (ss_cons (s_for (i_rng1 (e_max2 (e_int) (e_min2 (e_int) (e_len (e_var 0) T.b_len) T.b_min) T.b_max) T.b_range) (g_name 2) (ss_cons (s_set 3 (e_int))
  (ss_cons (s_if (b_cmp r_lt o_lt (e_var 2) (e_len (e_var 0) T.b_len)) (ss_one (s_set 3 (e_ix (e_var 0) (e_var 2)))) (ss_nil))
  (ss_one (s_expr (e_append (e_var 1) (e_lst (a_cons (e_var 3) (a_cons (e_intC (e_cmp r_ge o_ge (e_var 3) (e_pow (e_int) (e_int))) T.b_int) (a_cons (e_mul (e_int) (e_var 2)) (a_nil)))))))))))
  (ss_one (s_ret (e_lst (a_cons (e_var 1) (a_cons (e_int) (a_nil)))))))
theorem ok_law_deck (T : Txt G) : Def G 1 "_law_deck" ["script"] n_law_deck := def_mk T.f_law_deck sc_law_deck rfl (bd_law_deck T) (fun _ _ _ _ _ _ us hl => match us, hl with | [_], _ => rfl)
theorem sc_law_draw : FnScope ["deck", "many", "pool", "mixed", "found"] ["deck", "many"] (defScope (top 18)) := ⟨rfl, rfl, rfl, by decide +kernel, rfl, by decide +kernel, by decide +kernel⟩
theorem bd_law_draw (T : Txt G) : SsOk G ⟨["deck", "many", "pool", "mixed", "found"], defScope (top 18), fun _ => true⟩ 0 (defBody (top 18)) d_law_draw :=
  ss_cons (s_set 2 (e_ix (e_ix (e_var 0) (e_int)) (e_mod (e_ix (e_var 0) (e_int)) (e_len (e_ix (e_var 0) (e_int)) T.b_len))))
  (ss_cons (s_put (e_add (e_ix (e_var 0) (e_int)) (e_int)) (e_var 0) (e_int))
  (ss_cons (s_if (bw_pt (bw_and (b_cmp r_eq o_eq (e_ix (e_var 2) (e_int)) (e_int)) (bw_and1 (b_cmp r_gt o_gt (e_ix (e_var 2) (e_int)) (e_int))))) (ss_cons (s_set 4 (e_mod (e_ix (e_var 2) (e_int)) (e_var 1)))
  (ss_cons (s_put (e_fdiv (e_ix (e_var 2) (e_int)) (e_var 1)) (e_var 2) (e_int))
  (ss_one (s_ret (e_var 4))))) (ss_nil))
  (ss_cons (s_put (e_add (e_ix (e_var 2) (e_int)) (e_int)) (e_var 2) (e_int))
  (ss_cons (s_set 3 (e_add (e_mod (e_ix (e_var 2) (e_int)) (e_int)) (e_mul (e_int) (e_ix (e_var 2) (e_int)))))
  (ss_cons (s_set 3 (e_mod (e_pow (e_var 3) (e_int)) (e_int)))
  (ss_cons (s_set 3 (e_mod (e_pow (e_add (e_var 3) (e_mul (e_int) (e_ix (e_var 2) (e_int)))) (e_int)) (e_int)))
  (ss_one (s_ret (e_mod (e_fdiv (e_var 3) (e_int)) (e_var 1))))))))))
theorem ok_law_draw (T : Txt G) : Def G 1 "_law_draw" ["deck", "many"] n_law_draw := def_mk T.f_law_draw sc_law_draw rfl (bd_law_draw T) (fun _ _ _ _ _ _ us hl => match us, hl with | [_, _], _ => rfl)
theorem sc_law_same : FnScope ["found", "due", "one", "two"] ["found", "due"] (defScope (top 19)) := ⟨rfl, rfl, rfl, by decide +kernel, rfl, by decide +kernel, by decide +kernel⟩
theorem bd_law_same (T : Txt G) {k : Nat} {r : List W → M W} (hk : 0 ≤ k) (ih : Def G k "_law_same" ["found", "due"] r) : SsOk G ⟨["found", "due", "one", "two"], defScope (top 19), fun _ => true⟩ k (defBody (top 19)) (d_law_same r) :=
  ss_cons (s_if (b_val (e_isi2 "list" "tuple" (e_var 1) T.b_isinstance T.b_list T.b_tuple)) (ss_cons (s_if (bw_pt (bw_or (b_cmp r_ne o_ne (e_isi "list" (e_var 0) T.b_isinstance T.b_list) (e_isi "list" (e_var 1) T.b_isinstance T.b_list)) (bw_or1 (b_cmp r_ne o_ne (e_isi "tuple" (e_var 0) T.b_isinstance T.b_tuple) (e_isi "tuple" (e_var 1) T.b_isinstance T.b_tuple))))) (ss_one (s_ret (e_bl))) (ss_nil))
  (ss_cons (s_if (b_cmp r_ne o_ne (e_len (e_var 0) T.b_len) (e_len (e_var 1) T.b_len)) (ss_one (s_ret (e_bl))) (ss_nil))
  (ss_one (s_ret (e_cmp r_eq o_eq (e_lc [("one", 2), ("two", 3)] (i_zip (e_var 0) (e_var 1) T.b_zip) (gw_tup (gsw_cons (gw_name 2) (gsw_cons (gw_name 3) (gsw_nil)))) (cs_one (b_not (b_val (e_call ih (Nat.le_refl _) (a_cons (e_var 2) (a_cons (e_var 3) (a_nil))))))) (e_int)) (e_lst (a_nil))))))) (ss_nil))
  (ss_cons (s_if (bw_pt (bw_or (b_cmp r_isN o_isN (e_var 1) (e_non)) (bw_or1 (b_cmp r_isN o_isN (e_var 0) (e_non))))) (ss_one (s_ret (e_and (e_cmp r_isN o_isN (e_var 1) (e_non)) (e_one (e_cmp r_isN o_isN (e_var 0) (e_non)))))) (ss_nil))
  (ss_cons (s_if (bw_pt (bw_or (b_cmp r_ne o_ne (e_isi "bool" (e_var 0) T.b_isinstance T.b_bool) (e_isi "bool" (e_var 1) T.b_isinstance T.b_bool)) (bw_or1 (b_cmp r_ne o_ne (e_isi "str" (e_var 0) T.b_isinstance T.b_str) (e_isi "str" (e_var 1) T.b_isinstance T.b_str))))) (ss_one (s_ret (e_bl))) (ss_nil))
  (ss_one (s_ret (e_cmp r_eq o_eq (e_var 0) (e_var 1))))))
theorem okr_law_same (T : Txt G) : ∀ j, Def G (0 + j) "_law_same" ["found", "due"] (n_law_same j)
  | 0 => def_bad T.f_law_same (fun _ _ _ _ _ _ us hl => match us, hl with | [_, _], _ => rfl)
  | j + 1 => def_mk T.f_law_same sc_law_same rfl (bd_law_same T (by omega) (okr_law_same T j)) (fun _ _ _ _ _ _ us hl => match us, hl with | [_, _], _ => rfl)
theorem ok_law_same (T : Txt G) : Def G 8 "_law_same" ["found", "due"] (n_law_same 8) := okr_law_same T 8
theorem sc_law_closes : FnScope ["entry", "when"] ["entry", "when"] (defScope (top 20)) := ⟨rfl, rfl, rfl, by decide +kernel, rfl, by decide +kernel, by decide +kernel⟩
theorem bd_law_closes (T : Txt G) : SsOk G ⟨["entry", "when"], defScope (top 20), fun _ => true⟩ 0 (defBody (top 20)) d_law_closes :=
  ss_one (s_ret (e_chain r_le r_lt o_le o_lt (e_ix (e_var 0) (e_int)) (e_var 1) (e_ix (e_var 0) (e_int))))
theorem ok_law_closes (T : Txt G) : Def G 1 "_law_closes" ["entry", "when"] n_law_closes := def_mk T.f_law_closes sc_law_closes rfl (bd_law_closes T) (fun _ _ _ _ _ _ us hl => match us, hl with | [_, _], _ => rfl)
theorem sc_law_first_clash : FnScope ["entries", "two", "one"] ["entries"] (defScope (top 21)) := ⟨rfl, rfl, rfl, by decide +kernel, rfl, by decide +kernel, by decide +kernel⟩
theorem bd_law_first_clash (T : Txt G) : SsOk G ⟨["entries", "two", "one"], defScope (top 21), fun _ => true⟩ 1 (defBody (top 21)) d_law_first_clash :=
  ss_cons (s_for (i_rng1 (e_len (e_var 0) T.b_len) T.b_range) (g_name 1) (ss_one (s_for (i_rng1 (e_var 1) T.b_range) (g_name 2) (ss_one (s_if (b_cmp r_eq o_eq (e_ix (e_ix (e_var 0) (e_var 2)) (e_int)) (e_ix (e_ix (e_var 0) (e_var 1)) (e_int))) (ss_one (s_if (bw_pt (bw_or (b_val (e_call (ok_law_closes T) (by decide) (a_cons (e_ix (e_var 0) (e_var 2)) (a_cons (e_ix (e_ix (e_var 0) (e_var 1)) (e_int)) (a_nil))))) (bw_or1 (b_val (e_call (ok_law_closes T) (by decide) (a_cons (e_ix (e_var 0) (e_var 1)) (a_cons (e_ix (e_ix (e_var 0) (e_var 2)) (e_int)) (a_nil)))))))) (ss_one (s_ret (e_tup (a_cons (e_var 2) (a_cons (e_var 1) (a_nil)))))) (ss_nil))) (ss_nil))))))
  (ss_one (s_ret (e_non)))
theorem ok_law_first_clash (T : Txt G) : Def G 2 "_law_first_clash" ["entries"] n_law_first_clash := def_mk T.f_law_first_clash sc_law_first_clash rfl (bd_law_first_clash T) (fun _ _ _ _ _ _ us hl => match us, hl with | [_], _ => rfl)
theorem sc_law_sets : FnScope ["size", "found", "turn", "row"] ["size"] (defScope (top 22)) := ⟨rfl, rfl, rfl, by decide +kernel, rfl, by decide +kernel, by decide +kernel⟩
theorem bd_law_sets (T : Txt G) : SsOk G ⟨["size", "found", "turn", "row"], defScope (top 22), fun _ => true⟩ 0 (defBody (top 22)) d_law_sets :=
  ss_cons (s_set 1 (e_lst (a_cons (e_lst (a_nil)) (a_nil))))
  (ss_cons (s_for (i_rng1 (e_var 0) T.b_range) (g_name 2) (ss_one (s_set 1 (e_add (e_lc [("row", 3)] (i_seq (e_var 1)) (gw_name 3) (cs_nil) (e_add (e_var 3) (e_lst (a_cons (e_bl) (a_nil))))) (e_lc [("row", 3)] (i_seq (e_var 1)) (gw_name 3) (cs_nil) (e_add (e_var 3) (e_lst (a_cons (e_bl) (a_nil)))))))))
  (ss_one (s_ret (e_var 1))))
theorem ok_law_sets (T : Txt G) : Def G 1 "_law_sets" ["size"] n_law_sets := def_mk T.f_law_sets sc_law_sets rfl (bd_law_sets T) (fun _ _ _ _ _ _ us hl => match us, hl with | [_], _ => rfl)
theorem sc_law_agrees : FnScope ["row", "entries", "name", "begin", "there", "spot"] ["row", "entries"] (defScope (top 23)) := ⟨rfl, rfl, rfl, by decide +kernel, rfl, by decide +kernel, by decide +kernel⟩
theorem bd_law_agrees (T : Txt G) : SsOk G ⟨["row", "entries", "name", "begin", "there", "spot"], defScope (top 23), fun _ => true⟩ 0 (defBody (top 23)) d_law_agrees :=
  ss_cons (s_for (i_seq (e_var 1)) (g_tup (gs_cons (g_name 2) (gs_cons (g_name 3) (gs_cons (g_name 4) (gs_nil))))) (ss_cons (s_set 5 (e_var 3))
  (ss_cons (s_while (bw_pt (bw_and (b_chain r_le r_lt o_le o_lt (e_int) (e_var 5) (e_len (e_var 0) T.b_len)) (bw_and1 (b_not (b_val (e_ix (e_var 0) (e_var 5))))))) (ss_one (s_set 5 (e_add (e_var 5) (e_int)))))
  (ss_one (s_if (b_cmp r_ne o_ne (e_var 5) (e_var 4)) (ss_one (s_ret (e_bl))) (ss_nil))))))
  (ss_one (s_ret (e_bl)))
theorem ok_law_agrees (T : Txt G) : Def G 1 "_law_agrees" ["row", "entries"] n_law_agrees := def_mk T.f_law_agrees sc_law_agrees rfl (bd_law_agrees T) (fun _ _ _ _ _ _ us hl => match us, hl with | [_, _], _ => rfl)
theorem sc_law_some_days : FnScope ["deck", "size", "spot"] ["deck", "size"] (defScope (top 24)) := ⟨rfl, rfl, rfl, by decide +kernel, rfl, by decide +kernel, by decide +kernel⟩
theorem bd_law_some_days (T : Txt G) : SsOk G ⟨["deck", "size", "spot"], defScope (top 24), fun _ => true⟩ 1 (defBody (top 24)) d_law_some_days :=
  ss_one (s_ret (e_lc [("spot", 2)] (i_rng1 (e_var 1) T.b_range) (gw_name 2) (cs_nil) (e_cmp r_eq o_eq (e_call (ok_law_draw T) (by decide) (a_cons (e_var 0) (a_cons (e_int) (a_nil)))) (e_int))))
theorem ok_law_some_days (T : Txt G) : Def G 2 "_law_some_days" ["deck", "size"] n_law_some_days := def_mk T.f_law_some_days sc_law_some_days rfl (bd_law_some_days T) (fun _ _ _ _ _ _ us hl => match us, hl with | [_, _], _ => rfl)
theorem sc_law_entries : FnScope ["deck", "many", "size", "most", "names", "rows", "found", "turn", "at", "begin", "there", "name"] ["deck", "many", "size", "most"] (defScope (top 25)) := ⟨rfl, rfl, rfl, by decide +kernel, rfl, by decide +kernel, by decide +kernel⟩
theorem bd_law_entries (T : Txt G) : SsOk G ⟨["deck", "many", "size", "most", "names", "rows", "found", "turn", "at", "begin", "there", "name"], defScope (top 25), fun _ => true⟩ 2 (defBody (top 25)) d_law_entries :=
  ss_cons (s_set 4 (e_sl (e_lst (a_cons (e_str) (a_cons (e_str) (a_cons (e_str) (a_nil))))) (o_none) (o_some (e_var 1))))
  (ss_cons (s_lc 5 [("name", 11)] (i_seq (e_var 4)) (gw_name 11) (cs_nil) (e_call (ok_law_some_days T) (by decide) (a_cons (e_var 0) (a_cons (e_var 2) (a_nil)))))
  (ss_cons (s_set 6 (e_lst (a_nil)))
  (ss_cons (s_for (i_rng1 (e_call (ok_law_draw T) (by decide) (a_cons (e_var 0) (a_cons (e_add (e_var 3) (e_int)) (a_nil)))) T.b_range) (g_name 7) (ss_cons (s_set 8 (e_call (ok_law_draw T) (by decide) (a_cons (e_var 0) (a_cons (e_var 1) (a_nil)))))
  (ss_cons (s_set 9 (e_call (ok_law_draw T) (by decide) (a_cons (e_var 0) (a_cons (e_var 2) (a_nil)))))
  (ss_cons (s_set 10 (e_var 9))
  (ss_cons (s_while (bw_pt (bw_and (b_cmp r_lt o_lt (e_var 10) (e_sub (e_var 2) (e_int))) (bw_and1 (b_not (b_val (e_ix (e_ix (e_var 5) (e_var 8)) (e_var 10))))))) (ss_one (s_set 10 (e_add (e_var 10) (e_int)))))
  (ss_cons (s_if (b_cmp r_eq o_eq (e_call (ok_law_draw T) (by decide) (a_cons (e_var 0) (a_cons (e_int) (a_nil)))) (e_int)) (ss_one (s_set 10 (e_add (e_var 9) (e_call (ok_law_draw T) (by decide) (a_cons (e_var 0) (a_cons (e_sub (e_var 2) (e_var 9)) (a_nil))))))) (ss_nil))
  (ss_one (s_expr (e_append (e_var 6) (e_tup (a_cons (e_ix (e_var 4) (e_var 8)) (a_cons (e_var 9) (a_cons (e_var 10) (a_nil))))))))))))))
  (ss_one (s_ret (e_var 6))))))
theorem ok_law_entries (T : Txt G) : Def G 3 "_law_entries" ["deck", "many", "size", "most"] n_law_entries := def_mk T.f_law_entries sc_law_entries rfl (bd_law_entries T) (fun _ _ _ _ _ _ us hl => match us, hl with | [_, _, _, _], _ => rfl)
theorem sc_law : FnScope ["script", "deck", "rows", "lap", "entries", "many", "able", "name", "kept", "due", "own", "entry", "row"] ["script"] (defScope (top 26)) := ⟨rfl, rfl, rfl, by decide +kernel, rfl, by decide +kernel, by decide +kernel⟩
theorem bd_law (T : Txt G) : SsOk G ⟨["script", "deck", "rows", "lap", "entries", "many", "able", "name", "kept", "due", "own", "entry", "row"], defScope (top 26), fun _ => true⟩ 8 (defBody (top 26)) d_law :=
  ss_cons (s_set 1 (e_call (ok_law_deck T) (by decide) (a_cons (e_var 0) (a_nil))))
  (ss_cons (s_set 2 (e_call (ok_law_sets T) (by decide) (a_cons (e_int) (a_nil))))
  (ss_cons (s_for (i_rng1 (e_max2 (e_int) (e_min2 (e_int) (e_len (e_var 0) T.b_len) T.b_min) T.b_max) T.b_range) (g_name 3) (ss_cons (s_set 5 (e_add (e_int) (e_call (ok_law_draw T) (by decide) (a_cons (e_var 1) (a_cons (e_int) (a_nil))))))
  (ss_cons (s_set 4 (e_call (ok_law_entries T) (by decide) (a_cons (e_var 1) (a_cons (e_var 5) (a_cons (e_int) (a_cons (e_int) (a_nil)))))))
  (ss_cons (s_par 8 9 (a_cons (e_repr (e_var 4) T.b_repr) (a_cons (e_call (ok_law_first_clash T) (by decide) (a_cons (e_var 4) (a_nil))) (a_nil))))
  (ss_cons (s_if (bw_pt (bw_or (b_not (b_val (e_call (ok_law_same T) (by decide) (a_cons (e_lst (a_cons (e_call (ok_find_clash T) (by decide) (a_cons (e_var 4) (a_nil))) (a_cons (e_callK0 (ok_find_clash_0_log T) (by decide) (k_cons (e_var 4) (k_nil))) (a_nil)))) (a_cons (e_lst (a_cons (e_var 9) (a_cons (e_var 9) (a_nil)))) (a_nil)))))) (bw_or1 (b_cmp r_ne o_ne (e_repr (e_var 4) T.b_repr) (e_var 8))))) (ss_one (s_ret (e_bl))) (ss_nil))
  (ss_cons (s_set 6 (e_bl))
  (ss_cons (s_for (i_seq (e_sl (e_lst (a_cons (e_str) (a_cons (e_str) (a_cons (e_str) (a_nil))))) (o_none) (o_some (e_var 5)))) (g_name 7) (ss_cons (s_setCell 10 (e_lc [("entry", 11)] (i_seq (e_var 4)) (gw_name 11) (cs_one (b_cmp r_eq o_eq (e_ix (e_var 11) (e_int)) (e_var 7))) (e_var 11)))
  (ss_one (s_set 6 (e_and (e_var 6) (e_one (e_cmp r_ne o_ne (e_lc [("row", 12)] (i_seq (e_var 2)) (gw_name 12) (cs_one (b_val (e_call (ok_law_agrees T) (by decide) (a_cons (e_var 12) (a_cons (e_var 10) (a_nil)))))) (e_int)) (e_lst (a_nil)))))))))
  (ss_one (s_if (b_cmp r_ne o_ne (e_var 6) (e_cmp r_isN o_isN (e_var 9) (e_non))) (ss_one (s_ret (e_bl))) (ss_nil))))))))))
  (ss_cons (s_set 4 (e_lst (a_cons (e_tup (a_cons (e_str) (a_cons (e_int) (a_cons (e_int) (a_nil))))) (a_cons (e_tup (a_cons (e_str) (a_cons (e_int) (a_cons (e_int) (a_nil))))) (a_cons (e_tup (a_cons (e_str) (a_cons (e_int) (a_cons (e_int) (a_nil))))) (a_cons (e_tup (a_cons (e_str) (a_cons (e_int) (a_cons (e_int) (a_nil))))) (a_cons (e_tup (a_cons (e_str) (a_cons (e_int) (a_cons (e_int) (a_nil))))) (a_nil))))))))
  (ss_one (s_ret (e_and (e_cmp r_eq o_eq (e_call (ok_find_clash T) (by decide) (a_cons (e_var 4) (a_nil))) (e_tup (a_cons (e_int) (a_cons (e_int) (a_nil))))) (e_one (e_cmp r_isN o_isN (e_call (ok_find_clash T) (by decide) (a_cons (e_lst (a_nil)) (a_nil))) (e_non)))))))))
end
end
end K49
/-! K49p: what the functions of k49 answer. -/
namespace K49
open PySem L2 N
abbrev Ent := Str × Int × Int
abbrev eW (e : Ent) : W := .tup [.str e.1, .int e.2.1, .int e.2.2]
theorem is_day_spec {i : Int} {S : Store} {Q : W → Store → Prop} {E : Ex → Store → Prop} (h : Q (.bl true) S) : wp (n_is_day [.int i] S) Q E := by
  unfold n_is_day d_is_day n_is_integer d_is_integer
  simp only [wp_ok, wp_exc, wp_ret, wp_badM, wp_lift, wp_chk, wp_alloc, wp_grd, wp_tgt, wp_noXe, wp_dVar, wp_dC, wp_aNil, wp_aCons, wp_dTup, wp_dLst, wp_dOp, wp_dUn, wp_dFn, wB_bl, wp_dChain, wp_dTru, wp_dBool, wp_dNot, wp_dAnd, wp_dOr, wp_dAndV, wp_dOrV, wp_dNotV, wp_dIfE, wp_dYes, wp_dCall, wp_dCallK, wp_dIsi, wp_dIsi2, wp_dMt, wp_oN, wI_int, wp_oS, wp_dSl, wp_dSrc, wp_dZip, wp_dRng1, wp_dRng2, wp_dEnum, wp_dLc, wpS_nx, wpS_rt, wpS_bk, wpS_ct, wpS_exc, wpS_bad, wpS_ite, wpS_dSeq, wpS_dNx, wpS_dBk, wpS_dCt, wpS_dDrop, wpS_dRet, wpS_dRetN, wpS_dIf, wpS_dSet, wpS_dAsg, wpS_dPar, wpS_dPut, wpS_dRaise, wpS_dFor, wp_dfn, wO_some, wO_none, wO_map, wO_bind, wO_ite, List.map_cons, List.map_nil, List.replicate_succ, List.replicate_zero, List.cons_append, List.nil_append, Nat.reduceSub, Nat.reduceAdd, List.getElem?_cons_zero, List.getElem?_cons_succ, List.set_cons_zero, List.set_cons_succ, List.length_cons, List.length_nil, tgN, tgNil, tgCons, tgTup, wipeE, isT, String.reduceBEq, Bool.and_false, Bool.false_and, Bool.true_and, Bool.and_true, Bool.or_false, Bool.false_or, Bool.true_or, Bool.or_true, Bool.not_true, Bool.not_false, if_true, if_false, true_and, and_true, Bool.false_eq_true, Bool.true_eq_false, reduceIte, opEq_int, opNe_int, opEq_str, opNe_str, opAdd_int, opSub_int, opMod_pos, opLt_int, opLe_int, opGt_int, opGe_int, opLt_str, opLe_str, opIsN_ref, opIsN_non, opIsN_int, opIsN_tup, opIsN_str, opIsN_bl, opEq_bl, opNe_bl, opFdiv_int, opMul_int, opPow_int, atI_0, atI_1, atI_2, opIx_ref, opIx_tup, opIx_rl, opLen_tup, opLen_str, opLen_rl, opMax2_int, opMin2_int, opInt_int, opInt_bl, tyN_non, tyN_bl, tyN_int, tyN_str, tyN_tup, tyN_rl, truthW_bl, srcW_tup, srcW_rl, permW, List.mapM_cons, List.mapM_nil, Option.pure_def, Option.bind_eq_bind, Option.bind_some, String.reduceBEq]
  exact h
/-- a name of an office -/
structure Name (x : Str) : Prop where
  len : 1 ≤ x.length ∧ x.length ≤ 8
  low : ∀ c ∈ x.cps.toList, 97 ≤ c ∧ c ≤ 122
theorem letter {c : Nat} (h : 97 ≤ c ∧ c ≤ 122) : (!decide ((⟨#[c]⟩ : Str).cps.toList < ("a" : Str).cps.toList)) = true ∧ (!decide (("z" : Str).cps.toList < (⟨#[c]⟩ : Str).cps.toList)) = true := by
  have e1 : ("a" : Str).cps.toList = [97] := by decide
  have e2 : ("z" : Str).cps.toList = [122] := by decide
  rw [e1, e2]
  have lt1 : ∀ a b : Nat, ([a] < [b]) ↔ a < b := fun a b => by
    rw [List.cons_lt_cons_iff]
    constructor
    · rintro (h | ⟨_, h⟩)
      · exact h
      · exact absurd h (List.not_lt_nil _)
    · exact .inl
  constructor
  · rw [Bool.not_eq_true', decide_eq_false_iff_not]
    exact fun q => absurd ((lt1 _ _).mp q) (by omega)
  · rw [Bool.not_eq_true', decide_eq_false_iff_not]
    exact fun q => absurd ((lt1 _ _).mp q) (by omega)
theorem is_office_spec {x : Str} {S : Store} {E : Ex → Store → Prop} (h : Name x) : wp (n_is_office [.str x] S) (fun r S' => r = .bl true ∧ Fr 0 S S') E := by
  unfold n_is_office d_is_office
  have h1 : x.length ≤ sizeLine := by rw [sizeLine_eq]; have := h.len.2; omega
  have h2 : (1 : Int) ≤ x.length := by have := h.len.1; omega
  have h3 : (x.length : Int) ≤ 8 := by have := h.len.2; omega
  have hl : x.cps.toList.length ≤ 8 := h.len.2
  simp only [wp_ok, wp_exc, wp_ret, wp_badM, wp_lift, wp_chk, wp_alloc, wp_grd, wp_tgt, wp_noXe, wp_dVar, wp_dC, wp_aNil, wp_aCons, wp_dTup, wp_dLst, wp_dOp, wp_dUn, wp_dFn, wB_bl, wp_dChain, wp_dTru, wp_dBool, wp_dNot, wp_dAnd, wp_dOr, wp_dAndV, wp_dOrV, wp_dNotV, wp_dIfE, wp_dYes, wp_dCall, wp_dCallK, wp_dIsi, wp_dIsi2, wp_dMt, wp_oN, wI_int, wp_oS, wp_dSl, wp_dSrc, wp_dZip, wp_dRng1, wp_dRng2, wp_dEnum, wp_dLc, wpS_nx, wpS_rt, wpS_bk, wpS_ct, wpS_exc, wpS_bad, wpS_ite, wpS_dSeq, wpS_dNx, wpS_dBk, wpS_dCt, wpS_dDrop, wpS_dRet, wpS_dRetN, wpS_dIf, wpS_dSet, wpS_dAsg, wpS_dPar, wpS_dPut, wpS_dRaise, wpS_dFor, wp_dfn, wO_some, wO_none, wO_map, wO_bind, wO_ite, List.map_cons, List.map_nil, List.replicate_succ, List.replicate_zero, List.cons_append, List.nil_append, Nat.reduceSub, Nat.reduceAdd, List.getElem?_cons_zero, List.getElem?_cons_succ, List.set_cons_zero, List.set_cons_succ, List.length_cons, List.length_nil, tgN, tgNil, tgCons, tgTup, wipeE, isT, String.reduceBEq, Bool.and_false, Bool.false_and, Bool.true_and, Bool.and_true, Bool.or_false, Bool.false_or, Bool.true_or, Bool.or_true, Bool.not_true, Bool.not_false, if_true, if_false, true_and, and_true, Bool.false_eq_true, Bool.true_eq_false, reduceIte, opEq_int, opNe_int, opEq_str, opNe_str, opAdd_int, opSub_int, opMod_pos, opLt_int, opLe_int, opGt_int, opGe_int, opLt_str, opLe_str, opIsN_ref, opIsN_non, opIsN_int, opIsN_tup, opIsN_str, opIsN_bl, opEq_bl, opNe_bl, opFdiv_int, opMul_int, opPow_int, atI_0, atI_1, atI_2, opIx_ref, opIx_tup, opIx_rl, opLen_tup, opLen_str, opLen_rl, opMax2_int, opMin2_int, opInt_int, opInt_bl, tyN_non, tyN_bl, tyN_int, tyN_str, tyN_tup, tyN_rl, truthW_bl, srcW_tup, srcW_rl, h1, decide_eq_true h2, decide_eq_true h3, srcW, List.length_map, lenOk_of (show x.cps.toList.length ≤ 1000000 by omega)]
  refine wp_mono (wp_lcF (f := fun _ => W.bl true) (fun S' => Fr 0 S S') Fr.refl (fun _ _ => trivial) ?_) ?_ (fun _ _ q => q)
  · intro i c S' e f
    have hc := letter (h.low c (List.mem_of_getElem? e))
    simp only [wp_ok, wp_exc, wp_ret, wp_badM, wp_lift, wp_chk, wp_alloc, wp_grd, wp_tgt, wp_noXe, wp_dVar, wp_dC, wp_aNil, wp_aCons, wp_dTup, wp_dLst, wp_dOp, wp_dUn, wp_dFn, wB_bl, wp_dChain, wp_dTru, wp_dBool, wp_dNot, wp_dAnd, wp_dOr, wp_dAndV, wp_dOrV, wp_dNotV, wp_dIfE, wp_dYes, wp_dCall, wp_dCallK, wp_dIsi, wp_dIsi2, wp_dMt, wp_oN, wI_int, wp_oS, wp_dSl, wp_dSrc, wp_dZip, wp_dRng1, wp_dRng2, wp_dEnum, wp_dLc, wpS_nx, wpS_rt, wpS_bk, wpS_ct, wpS_exc, wpS_bad, wpS_ite, wpS_dSeq, wpS_dNx, wpS_dBk, wpS_dCt, wpS_dDrop, wpS_dRet, wpS_dRetN, wpS_dIf, wpS_dSet, wpS_dAsg, wpS_dPar, wpS_dPut, wpS_dRaise, wpS_dFor, wp_dfn, wO_some, wO_none, wO_map, wO_bind, wO_ite, List.map_cons, List.map_nil, List.replicate_succ, List.replicate_zero, List.cons_append, List.nil_append, Nat.reduceSub, Nat.reduceAdd, List.getElem?_cons_zero, List.getElem?_cons_succ, List.set_cons_zero, List.set_cons_succ, List.length_cons, List.length_nil, tgN, tgNil, tgCons, tgTup, wipeE, isT, String.reduceBEq, Bool.and_false, Bool.false_and, Bool.true_and, Bool.and_true, Bool.or_false, Bool.false_or, Bool.true_or, Bool.or_true, Bool.not_true, Bool.not_false, if_true, if_false, true_and, and_true, Bool.false_eq_true, Bool.true_eq_false, reduceIte, opEq_int, opNe_int, opEq_str, opNe_str, opAdd_int, opSub_int, opMod_pos, opLt_int, opLe_int, opGt_int, opGe_int, opLt_str, opLe_str, opIsN_ref, opIsN_non, opIsN_int, opIsN_tup, opIsN_str, opIsN_bl, opEq_bl, opNe_bl, opFdiv_int, opMul_int, opPow_int, atI_0, atI_1, atI_2, opIx_ref, opIx_tup, opIx_rl, opLen_tup, opLen_str, opLen_rl, opMax2_int, opMin2_int, opInt_int, opInt_bl, tyN_non, tyN_bl, tyN_int, tyN_str, tyN_tup, tyN_rl, truthW_bl, srcW_tup, srcW_rl, hc.1, hc.2]
    exact f
  · rintro ws S' ⟨rfl, f⟩
    have e : (S' ++ [O.lst (x.cps.toList.map fun _ => W.bl true)])[S'.length]? = some (.lst ((x.cps.toList.map fun _ => true).map W.bl)) := by
      rw [List.map_map]; exact get_new
    rw [opAll_ref e, wO_some, map_true fun _ _ => rfl]
    exact ⟨rfl, f.snoc⟩
structure Good (e : Ent) : Prop where
  name : Name e.1
  le : e.2.1 ≤ e.2.2
theorem is_entry_spec {e : Ent} {S : Store} {E : Ex → Store → Prop} (h : Good e) : wp (n_is_entry [eW e] S) (fun r S' => r = .bl true ∧ Fr 0 S S') E := by
  unfold n_is_entry d_is_entry
  simp only [wp_ok, wp_exc, wp_ret, wp_badM, wp_lift, wp_chk, wp_alloc, wp_grd, wp_tgt, wp_noXe, wp_dVar, wp_dC, wp_aNil, wp_aCons, wp_dTup, wp_dLst, wp_dOp, wp_dUn, wp_dFn, wB_bl, wp_dChain, wp_dTru, wp_dBool, wp_dNot, wp_dAnd, wp_dOr, wp_dAndV, wp_dOrV, wp_dNotV, wp_dIfE, wp_dYes, wp_dCall, wp_dCallK, wp_dIsi, wp_dIsi2, wp_dMt, wp_oN, wI_int, wp_oS, wp_dSl, wp_dSrc, wp_dZip, wp_dRng1, wp_dRng2, wp_dEnum, wp_dLc, wpS_nx, wpS_rt, wpS_bk, wpS_ct, wpS_exc, wpS_bad, wpS_ite, wpS_dSeq, wpS_dNx, wpS_dBk, wpS_dCt, wpS_dDrop, wpS_dRet, wpS_dRetN, wpS_dIf, wpS_dSet, wpS_dAsg, wpS_dPar, wpS_dPut, wpS_dRaise, wpS_dFor, wp_dfn, wO_some, wO_none, wO_map, wO_bind, wO_ite, List.map_cons, List.map_nil, List.replicate_succ, List.replicate_zero, List.cons_append, List.nil_append, Nat.reduceSub, Nat.reduceAdd, List.getElem?_cons_zero, List.getElem?_cons_succ, List.set_cons_zero, List.set_cons_succ, List.length_cons, List.length_nil, tgN, tgNil, tgCons, tgTup, wipeE, isT, String.reduceBEq, Bool.and_false, Bool.false_and, Bool.true_and, Bool.and_true, Bool.or_false, Bool.false_or, Bool.true_or, Bool.or_true, Bool.not_true, Bool.not_false, if_true, if_false, true_and, and_true, Bool.false_eq_true, Bool.true_eq_false, reduceIte, opEq_int, opNe_int, opEq_str, opNe_str, opAdd_int, opSub_int, opMod_pos, opLt_int, opLe_int, opGt_int, opGe_int, opLt_str, opLe_str, opIsN_ref, opIsN_non, opIsN_int, opIsN_tup, opIsN_str, opIsN_bl, opEq_bl, opNe_bl, opFdiv_int, opMul_int, opPow_int, atI_0, atI_1, atI_2, opIx_ref, opIx_tup, opIx_rl, opLen_tup, opLen_str, opLen_rl, opMax2_int, opMin2_int, opInt_int, opInt_bl, tyN_non, tyN_bl, tyN_int, tyN_str, tyN_tup, tyN_rl, truthW_bl, srcW_tup, srcW_rl]
  refine wp_mono (is_office_spec h.name) ?_ (fun _ _ q => q)
  rintro r S' ⟨rfl, f⟩
  simp only [wp_ok, wp_exc, wp_ret, wp_badM, wp_lift, wp_chk, wp_alloc, wp_grd, wp_tgt, wp_noXe, wp_dVar, wp_dC, wp_aNil, wp_aCons, wp_dTup, wp_dLst, wp_dOp, wp_dUn, wp_dFn, wB_bl, wp_dChain, wp_dTru, wp_dBool, wp_dNot, wp_dAnd, wp_dOr, wp_dAndV, wp_dOrV, wp_dNotV, wp_dIfE, wp_dYes, wp_dCall, wp_dCallK, wp_dIsi, wp_dIsi2, wp_dMt, wp_oN, wI_int, wp_oS, wp_dSl, wp_dSrc, wp_dZip, wp_dRng1, wp_dRng2, wp_dEnum, wp_dLc, wpS_nx, wpS_rt, wpS_bk, wpS_ct, wpS_exc, wpS_bad, wpS_ite, wpS_dSeq, wpS_dNx, wpS_dBk, wpS_dCt, wpS_dDrop, wpS_dRet, wpS_dRetN, wpS_dIf, wpS_dSet, wpS_dAsg, wpS_dPar, wpS_dPut, wpS_dRaise, wpS_dFor, wp_dfn, wO_some, wO_none, wO_map, wO_bind, wO_ite, List.map_cons, List.map_nil, List.replicate_succ, List.replicate_zero, List.cons_append, List.nil_append, Nat.reduceSub, Nat.reduceAdd, List.getElem?_cons_zero, List.getElem?_cons_succ, List.set_cons_zero, List.set_cons_succ, List.length_cons, List.length_nil, tgN, tgNil, tgCons, tgTup, wipeE, isT, String.reduceBEq, Bool.and_false, Bool.false_and, Bool.true_and, Bool.and_true, Bool.or_false, Bool.false_or, Bool.true_or, Bool.or_true, Bool.not_true, Bool.not_false, if_true, if_false, true_and, and_true, Bool.false_eq_true, Bool.true_eq_false, reduceIte, opEq_int, opNe_int, opEq_str, opNe_str, opAdd_int, opSub_int, opMod_pos, opLt_int, opLe_int, opGt_int, opGe_int, opLt_str, opLe_str, opIsN_ref, opIsN_non, opIsN_int, opIsN_tup, opIsN_str, opIsN_bl, opEq_bl, opNe_bl, opFdiv_int, opMul_int, opPow_int, atI_0, atI_1, atI_2, opIx_ref, opIx_tup, opIx_rl, opLen_tup, opLen_str, opLen_rl, opMax2_int, opMin2_int, opInt_int, opInt_bl, tyN_non, tyN_bl, tyN_int, tyN_str, tyN_tup, tyN_rl, truthW_bl, srcW_tup, srcW_rl]
  refine is_day_spec ?_
  simp only [wp_ok, wp_exc, wp_ret, wp_badM, wp_lift, wp_chk, wp_alloc, wp_grd, wp_tgt, wp_noXe, wp_dVar, wp_dC, wp_aNil, wp_aCons, wp_dTup, wp_dLst, wp_dOp, wp_dUn, wp_dFn, wB_bl, wp_dChain, wp_dTru, wp_dBool, wp_dNot, wp_dAnd, wp_dOr, wp_dAndV, wp_dOrV, wp_dNotV, wp_dIfE, wp_dYes, wp_dCall, wp_dCallK, wp_dIsi, wp_dIsi2, wp_dMt, wp_oN, wI_int, wp_oS, wp_dSl, wp_dSrc, wp_dZip, wp_dRng1, wp_dRng2, wp_dEnum, wp_dLc, wpS_nx, wpS_rt, wpS_bk, wpS_ct, wpS_exc, wpS_bad, wpS_ite, wpS_dSeq, wpS_dNx, wpS_dBk, wpS_dCt, wpS_dDrop, wpS_dRet, wpS_dRetN, wpS_dIf, wpS_dSet, wpS_dAsg, wpS_dPar, wpS_dPut, wpS_dRaise, wpS_dFor, wp_dfn, wO_some, wO_none, wO_map, wO_bind, wO_ite, List.map_cons, List.map_nil, List.replicate_succ, List.replicate_zero, List.cons_append, List.nil_append, Nat.reduceSub, Nat.reduceAdd, List.getElem?_cons_zero, List.getElem?_cons_succ, List.set_cons_zero, List.set_cons_succ, List.length_cons, List.length_nil, tgN, tgNil, tgCons, tgTup, wipeE, isT, String.reduceBEq, Bool.and_false, Bool.false_and, Bool.true_and, Bool.and_true, Bool.or_false, Bool.false_or, Bool.true_or, Bool.or_true, Bool.not_true, Bool.not_false, if_true, if_false, true_and, and_true, Bool.false_eq_true, Bool.true_eq_false, reduceIte, opEq_int, opNe_int, opEq_str, opNe_str, opAdd_int, opSub_int, opMod_pos, opLt_int, opLe_int, opGt_int, opGe_int, opLt_str, opLe_str, opIsN_ref, opIsN_non, opIsN_int, opIsN_tup, opIsN_str, opIsN_bl, opEq_bl, opNe_bl, opFdiv_int, opMul_int, opPow_int, atI_0, atI_1, atI_2, opIx_ref, opIx_tup, opIx_rl, opLen_tup, opLen_str, opLen_rl, opMax2_int, opMin2_int, opInt_int, opInt_bl, tyN_non, tyN_bl, tyN_int, tyN_str, tyN_tup, tyN_rl, truthW_bl, srcW_tup, srcW_rl]
  refine is_day_spec ?_
  simp only [wp_ok, wp_exc, wp_ret, wp_badM, wp_lift, wp_chk, wp_alloc, wp_grd, wp_tgt, wp_noXe, wp_dVar, wp_dC, wp_aNil, wp_aCons, wp_dTup, wp_dLst, wp_dOp, wp_dUn, wp_dFn, wB_bl, wp_dChain, wp_dTru, wp_dBool, wp_dNot, wp_dAnd, wp_dOr, wp_dAndV, wp_dOrV, wp_dNotV, wp_dIfE, wp_dYes, wp_dCall, wp_dCallK, wp_dIsi, wp_dIsi2, wp_dMt, wp_oN, wI_int, wp_oS, wp_dSl, wp_dSrc, wp_dZip, wp_dRng1, wp_dRng2, wp_dEnum, wp_dLc, wpS_nx, wpS_rt, wpS_bk, wpS_ct, wpS_exc, wpS_bad, wpS_ite, wpS_dSeq, wpS_dNx, wpS_dBk, wpS_dCt, wpS_dDrop, wpS_dRet, wpS_dRetN, wpS_dIf, wpS_dSet, wpS_dAsg, wpS_dPar, wpS_dPut, wpS_dRaise, wpS_dFor, wp_dfn, wO_some, wO_none, wO_map, wO_bind, wO_ite, List.map_cons, List.map_nil, List.replicate_succ, List.replicate_zero, List.cons_append, List.nil_append, Nat.reduceSub, Nat.reduceAdd, List.getElem?_cons_zero, List.getElem?_cons_succ, List.set_cons_zero, List.set_cons_succ, List.length_cons, List.length_nil, tgN, tgNil, tgCons, tgTup, wipeE, isT, String.reduceBEq, Bool.and_false, Bool.false_and, Bool.true_and, Bool.and_true, Bool.or_false, Bool.false_or, Bool.true_or, Bool.or_true, Bool.not_true, Bool.not_false, if_true, if_false, true_and, and_true, Bool.false_eq_true, Bool.true_eq_false, reduceIte, opEq_int, opNe_int, opEq_str, opNe_str, opAdd_int, opSub_int, opMod_pos, opLt_int, opLe_int, opGt_int, opGe_int, opLt_str, opLe_str, opIsN_ref, opIsN_non, opIsN_int, opIsN_tup, opIsN_str, opIsN_bl, opEq_bl, opNe_bl, opFdiv_int, opMul_int, opPow_int, atI_0, atI_1, atI_2, opIx_ref, opIx_tup, opIx_rl, opLen_tup, opLen_str, opLen_rl, opMax2_int, opMin2_int, opInt_int, opInt_bl, tyN_non, tyN_bl, tyN_int, tyN_str, tyN_tup, tyN_rl, truthW_bl, srcW_tup, srcW_rl, decide_eq_true h.le]
  exact f
theorem require_log_spec {n : Nat} {es : List Ent} {S : Store} {E : Ex → Store → Prop} (g : S[n]? = some (.lst (es.map eW))) (hl : es.length ≤ 1000) (h : ∀ e ∈ es, Good e) : wp (n_require_log [.ref n] S) (fun r S' => Fr 0 S S') E := by
  unfold n_require_log d_require_log
  simp only [wp_ok, wp_exc, wp_ret, wp_badM, wp_lift, wp_chk, wp_alloc, wp_grd, wp_tgt, wp_noXe, wp_dVar, wp_dC, wp_aNil, wp_aCons, wp_dTup, wp_dLst, wp_dOp, wp_dUn, wp_dFn, wB_bl, wp_dChain, wp_dTru, wp_dBool, wp_dNot, wp_dAnd, wp_dOr, wp_dAndV, wp_dOrV, wp_dNotV, wp_dIfE, wp_dYes, wp_dCall, wp_dCallK, wp_dIsi, wp_dIsi2, wp_dMt, wp_oN, wI_int, wp_oS, wp_dSl, wp_dSrc, wp_dZip, wp_dRng1, wp_dRng2, wp_dEnum, wp_dLc, wpS_nx, wpS_rt, wpS_bk, wpS_ct, wpS_exc, wpS_bad, wpS_ite, wpS_dSeq, wpS_dNx, wpS_dBk, wpS_dCt, wpS_dDrop, wpS_dRet, wpS_dRetN, wpS_dIf, wpS_dSet, wpS_dAsg, wpS_dPar, wpS_dPut, wpS_dRaise, wpS_dFor, wp_dfn, wO_some, wO_none, wO_map, wO_bind, wO_ite, List.map_cons, List.map_nil, List.replicate_succ, List.replicate_zero, List.cons_append, List.nil_append, Nat.reduceSub, Nat.reduceAdd, List.getElem?_cons_zero, List.getElem?_cons_succ, List.set_cons_zero, List.set_cons_succ, List.length_cons, List.length_nil, tgN, tgNil, tgCons, tgTup, wipeE, isT, String.reduceBEq, Bool.and_false, Bool.false_and, Bool.true_and, Bool.and_true, Bool.or_false, Bool.false_or, Bool.true_or, Bool.or_true, Bool.not_true, Bool.not_false, if_true, if_false, true_and, and_true, Bool.false_eq_true, Bool.true_eq_false, reduceIte, opEq_int, opNe_int, opEq_str, opNe_str, opAdd_int, opSub_int, opMod_pos, opLt_int, opLe_int, opGt_int, opGe_int, opLt_str, opLe_str, opIsN_ref, opIsN_non, opIsN_int, opIsN_tup, opIsN_str, opIsN_bl, opEq_bl, opNe_bl, opFdiv_int, opMul_int, opPow_int, atI_0, atI_1, atI_2, opIx_ref, opIx_tup, opIx_rl, opLen_tup, opLen_str, opLen_rl, opMax2_int, opMin2_int, opInt_int, opInt_bl, tyN_non, tyN_bl, tyN_int, tyN_str, tyN_tup, tyN_rl, truthW_bl, srcW_tup, srcW_rl, tyN_ref g, srcW_ref g, List.length_map, lenOk_of (show es.length ≤ 1000000 by omega)]
  refine wp_mono (wp_lcF (f := fun _ => W.bl true) (fun S' => Fr 0 S S') Fr.refl (fun S' f => f.g0 g) ?_) ?_ (fun _ _ q => q)
  · intro i c S' e f
    simp only [wp_ok, wp_exc, wp_ret, wp_badM, wp_lift, wp_chk, wp_alloc, wp_grd, wp_tgt, wp_noXe, wp_dVar, wp_dC, wp_aNil, wp_aCons, wp_dTup, wp_dLst, wp_dOp, wp_dUn, wp_dFn, wB_bl, wp_dChain, wp_dTru, wp_dBool, wp_dNot, wp_dAnd, wp_dOr, wp_dAndV, wp_dOrV, wp_dNotV, wp_dIfE, wp_dYes, wp_dCall, wp_dCallK, wp_dIsi, wp_dIsi2, wp_dMt, wp_oN, wI_int, wp_oS, wp_dSl, wp_dSrc, wp_dZip, wp_dRng1, wp_dRng2, wp_dEnum, wp_dLc, wpS_nx, wpS_rt, wpS_bk, wpS_ct, wpS_exc, wpS_bad, wpS_ite, wpS_dSeq, wpS_dNx, wpS_dBk, wpS_dCt, wpS_dDrop, wpS_dRet, wpS_dRetN, wpS_dIf, wpS_dSet, wpS_dAsg, wpS_dPar, wpS_dPut, wpS_dRaise, wpS_dFor, wp_dfn, wO_some, wO_none, wO_map, wO_bind, wO_ite, List.map_cons, List.map_nil, List.replicate_succ, List.replicate_zero, List.cons_append, List.nil_append, Nat.reduceSub, Nat.reduceAdd, List.getElem?_cons_zero, List.getElem?_cons_succ, List.set_cons_zero, List.set_cons_succ, List.length_cons, List.length_nil, tgN, tgNil, tgCons, tgTup, wipeE, isT, String.reduceBEq, Bool.and_false, Bool.false_and, Bool.true_and, Bool.and_true, Bool.or_false, Bool.false_or, Bool.true_or, Bool.or_true, Bool.not_true, Bool.not_false, if_true, if_false, true_and, and_true, Bool.false_eq_true, Bool.true_eq_false, reduceIte, opEq_int, opNe_int, opEq_str, opNe_str, opAdd_int, opSub_int, opMod_pos, opLt_int, opLe_int, opGt_int, opGe_int, opLt_str, opLe_str, opIsN_ref, opIsN_non, opIsN_int, opIsN_tup, opIsN_str, opIsN_bl, opEq_bl, opNe_bl, opFdiv_int, opMul_int, opPow_int, atI_0, atI_1, atI_2, opIx_ref, opIx_tup, opIx_rl, opLen_tup, opLen_str, opLen_rl, opMax2_int, opMin2_int, opInt_int, opInt_bl, tyN_non, tyN_bl, tyN_int, tyN_str, tyN_tup, tyN_rl, truthW_bl, srcW_tup, srcW_rl]
    refine wp_mono (is_entry_spec (h c (List.mem_of_getElem? e))) ?_ (fun _ _ q => q)
    rintro r S2 ⟨rfl, f2⟩
    exact ⟨rfl, f.trans f2⟩
  · rintro ws S' ⟨rfl, f⟩
    have e : (S' ++ [O.lst (es.map fun _ => W.bl true)])[S'.length]? = some (.lst ((es.map fun _ => true).map W.bl)) := by
      rw [List.map_map]; exact get_new
    rw [opAll_ref e, wO_some, map_true fun _ _ => rfl]
    simp only [wp_ok, wp_exc, wp_ret, wp_badM, wp_lift, wp_chk, wp_alloc, wp_grd, wp_tgt, wp_noXe, wp_dVar, wp_dC, wp_aNil, wp_aCons, wp_dTup, wp_dLst, wp_dOp, wp_dUn, wp_dFn, wB_bl, wp_dChain, wp_dTru, wp_dBool, wp_dNot, wp_dAnd, wp_dOr, wp_dAndV, wp_dOrV, wp_dNotV, wp_dIfE, wp_dYes, wp_dCall, wp_dCallK, wp_dIsi, wp_dIsi2, wp_dMt, wp_oN, wI_int, wp_oS, wp_dSl, wp_dSrc, wp_dZip, wp_dRng1, wp_dRng2, wp_dEnum, wp_dLc, wpS_nx, wpS_rt, wpS_bk, wpS_ct, wpS_exc, wpS_bad, wpS_ite, wpS_dSeq, wpS_dNx, wpS_dBk, wpS_dCt, wpS_dDrop, wpS_dRet, wpS_dRetN, wpS_dIf, wpS_dSet, wpS_dAsg, wpS_dPar, wpS_dPut, wpS_dRaise, wpS_dFor, wp_dfn, wO_some, wO_none, wO_map, wO_bind, wO_ite, List.map_cons, List.map_nil, List.replicate_succ, List.replicate_zero, List.cons_append, List.nil_append, Nat.reduceSub, Nat.reduceAdd, List.getElem?_cons_zero, List.getElem?_cons_succ, List.set_cons_zero, List.set_cons_succ, List.length_cons, List.length_nil, tgN, tgNil, tgCons, tgTup, wipeE, isT, String.reduceBEq, Bool.and_false, Bool.false_and, Bool.true_and, Bool.and_true, Bool.or_false, Bool.false_or, Bool.true_or, Bool.or_true, Bool.not_true, Bool.not_false, if_true, if_false, true_and, and_true, Bool.false_eq_true, Bool.true_eq_false, reduceIte, opEq_int, opNe_int, opEq_str, opNe_str, opAdd_int, opSub_int, opMod_pos, opLt_int, opLe_int, opGt_int, opGe_int, opLt_str, opLe_str, opIsN_ref, opIsN_non, opIsN_int, opIsN_tup, opIsN_str, opIsN_bl, opEq_bl, opNe_bl, opFdiv_int, opMul_int, opPow_int, atI_0, atI_1, atI_2, opIx_ref, opIx_tup, opIx_rl, opLen_tup, opLen_str, opLen_rl, opMax2_int, opMin2_int, opInt_int, opInt_bl, tyN_non, tyN_bl, tyN_int, tyN_str, tyN_tup, tyN_rl, truthW_bl, srcW_tup, srcW_rl]
    exact f.snoc
def closes (e : Ent) (d : Int) : Bool := decide (e.2.1 ≤ d) && decide (d < e.2.2)
def clash (a b : Ent) : Bool := (a.1 == b.1) && (closes a b.2.2 || closes b a.2.2)
theorem closes_spec {e : Ent} {d : Int} {S : Store} {Q : W → Store → Prop} {E : Ex → Store → Prop} (h : Q (.bl (closes e d)) S) : wp (n_closes [eW e, .int d] S) Q E := by
  unfold n_closes d_closes
  simp only [wp_ok, wp_exc, wp_ret, wp_badM, wp_lift, wp_chk, wp_alloc, wp_grd, wp_tgt, wp_noXe, wp_dVar, wp_dC, wp_aNil, wp_aCons, wp_dTup, wp_dLst, wp_dOp, wp_dUn, wp_dFn, wB_bl, wp_dChain, wp_dTru, wp_dBool, wp_dNot, wp_dAnd, wp_dOr, wp_dAndV, wp_dOrV, wp_dNotV, wp_dIfE, wp_dYes, wp_dCall, wp_dCallK, wp_dIsi, wp_dIsi2, wp_dMt, wp_oN, wI_int, wp_oS, wp_dSl, wp_dSrc, wp_dZip, wp_dRng1, wp_dRng2, wp_dEnum, wp_dLc, wpS_nx, wpS_rt, wpS_bk, wpS_ct, wpS_exc, wpS_bad, wpS_ite, wpS_dSeq, wpS_dNx, wpS_dBk, wpS_dCt, wpS_dDrop, wpS_dRet, wpS_dRetN, wpS_dIf, wpS_dSet, wpS_dAsg, wpS_dPar, wpS_dPut, wpS_dRaise, wpS_dFor, wp_dfn, wO_some, wO_none, wO_map, wO_bind, wO_ite, List.map_cons, List.map_nil, List.replicate_succ, List.replicate_zero, List.cons_append, List.nil_append, Nat.reduceSub, Nat.reduceAdd, List.getElem?_cons_zero, List.getElem?_cons_succ, List.set_cons_zero, List.set_cons_succ, List.length_cons, List.length_nil, tgN, tgNil, tgCons, tgTup, wipeE, isT, String.reduceBEq, Bool.and_false, Bool.false_and, Bool.true_and, Bool.and_true, Bool.or_false, Bool.false_or, Bool.true_or, Bool.or_true, Bool.not_true, Bool.not_false, if_true, if_false, true_and, and_true, Bool.false_eq_true, Bool.true_eq_false, reduceIte, opEq_int, opNe_int, opEq_str, opNe_str, opAdd_int, opSub_int, opMod_pos, opLt_int, opLe_int, opGt_int, opGe_int, opLt_str, opLe_str, opIsN_ref, opIsN_non, opIsN_int, opIsN_tup, opIsN_str, opIsN_bl, opEq_bl, opNe_bl, opFdiv_int, opMul_int, opPow_int, atI_0, atI_1, atI_2, opIx_ref, opIx_tup, opIx_rl, opLen_tup, opLen_str, opLen_rl, opMax2_int, opMin2_int, opInt_int, opInt_bl, tyN_non, tyN_bl, tyN_int, tyN_str, tyN_tup, tyN_rl, truthW_bl, srcW_tup, srcW_rl]
  unfold closes at h
  cases h1 : decide (e.2.1 ≤ d) <;> rw [h1] at h <;> simpa using h
theorem do_clash_spec {a b : Ent} {S : Store} {Q : W → Store → Prop} {E : Ex → Store → Prop} (h : Q (.bl (clash a b)) S) : wp (n_do_clash [eW a, eW b] S) Q E := by
  unfold n_do_clash d_do_clash
  simp only [wp_ok, wp_exc, wp_ret, wp_badM, wp_lift, wp_chk, wp_alloc, wp_grd, wp_tgt, wp_noXe, wp_dVar, wp_dC, wp_aNil, wp_aCons, wp_dTup, wp_dLst, wp_dOp, wp_dUn, wp_dFn, wB_bl, wp_dChain, wp_dTru, wp_dBool, wp_dNot, wp_dAnd, wp_dOr, wp_dAndV, wp_dOrV, wp_dNotV, wp_dIfE, wp_dYes, wp_dCall, wp_dCallK, wp_dIsi, wp_dIsi2, wp_dMt, wp_oN, wI_int, wp_oS, wp_dSl, wp_dSrc, wp_dZip, wp_dRng1, wp_dRng2, wp_dEnum, wp_dLc, wpS_nx, wpS_rt, wpS_bk, wpS_ct, wpS_exc, wpS_bad, wpS_ite, wpS_dSeq, wpS_dNx, wpS_dBk, wpS_dCt, wpS_dDrop, wpS_dRet, wpS_dRetN, wpS_dIf, wpS_dSet, wpS_dAsg, wpS_dPar, wpS_dPut, wpS_dRaise, wpS_dFor, wp_dfn, wO_some, wO_none, wO_map, wO_bind, wO_ite, List.map_cons, List.map_nil, List.replicate_succ, List.replicate_zero, List.cons_append, List.nil_append, Nat.reduceSub, Nat.reduceAdd, List.getElem?_cons_zero, List.getElem?_cons_succ, List.set_cons_zero, List.set_cons_succ, List.length_cons, List.length_nil, tgN, tgNil, tgCons, tgTup, wipeE, isT, String.reduceBEq, Bool.and_false, Bool.false_and, Bool.true_and, Bool.and_true, Bool.or_false, Bool.false_or, Bool.true_or, Bool.or_true, Bool.not_true, Bool.not_false, if_true, if_false, true_and, and_true, Bool.false_eq_true, Bool.true_eq_false, reduceIte, opEq_int, opNe_int, opEq_str, opNe_str, opAdd_int, opSub_int, opMod_pos, opLt_int, opLe_int, opGt_int, opGe_int, opLt_str, opLe_str, opIsN_ref, opIsN_non, opIsN_int, opIsN_tup, opIsN_str, opIsN_bl, opEq_bl, opNe_bl, opFdiv_int, opMul_int, opPow_int, atI_0, atI_1, atI_2, opIx_ref, opIx_tup, opIx_rl, opLen_tup, opLen_str, opLen_rl, opMax2_int, opMin2_int, opInt_int, opInt_bl, tyN_non, tyN_bl, tyN_int, tyN_str, tyN_tup, tyN_rl, truthW_bl, srcW_tup, srcW_rl]
  unfold clash at h
  cases h1 : (a.1 == b.1) <;> rw [h1] at h
  · simpa using h
  · rw [if_pos rfl]
    refine closes_spec ?_
    rw [wB_bl]
    cases h2 : closes a b.2.2 <;> rw [h2] at h
    · refine closes_spec ?_
      simpa using h
    · simpa using h

/-- the first pair that clashes -/
def pair (es : List Ent) (two one : Nat) : Option W := match es[one]?, es[two]? with
  | some a, some b => if clash a b = true then some (.tup [.int one, .int two]) else none
  | _, _ => none
def found (es : List Ent) : W := (fstN (fun two => fstN (pair es two) two) es.length).getD .non
theorem enumL_get {ws : List W} {i : Nat} {w : W} (e : (enumL ws)[i]? = some w) : ∃ u, ws[i]? = some u ∧ w = .tup [.int i, u] := by
  unfold enumL at e
  rw [List.getElem?_zipWith] at e
  cases z : ws[i]? with
  | none => rw [z] at e; simp at e
  | some u =>
    have lt := (List.getElem?_eq_some_iff.mp z).1
    rw [z, List.getElem?_range lt] at e
    simp at e
    exact ⟨u, rfl, e.symm⟩
theorem enumL_len {ws : List W} : (enumL ws).length = ws.length := by simp [enumL]
theorem clash_in_spec {n : Nat} {es : List Ent} {S : Store} {E : Ex → Store → Prop} (g : S[n]? = some (.lst (es.map eW))) (hl : es.length ≤ 1000) : wp (n_clash_in [.ref n] S) (fun r S' => r = found es ∧ Fr 0 S S') E := by
  unfold n_clash_in d_clash_in
  simp only [wp_ok, wp_exc, wp_ret, wp_badM, wp_lift, wp_chk, wp_alloc, wp_grd, wp_tgt, wp_noXe, wp_dVar, wp_dC, wp_aNil, wp_aCons, wp_dTup, wp_dLst, wp_dOp, wp_dUn, wp_dFn, wB_bl, wp_dChain, wp_dTru, wp_dBool, wp_dNot, wp_dAnd, wp_dOr, wp_dAndV, wp_dOrV, wp_dNotV, wp_dIfE, wp_dYes, wp_dCall, wp_dCallK, wp_dIsi, wp_dIsi2, wp_dMt, wp_oN, wI_int, wp_oS, wp_dSl, wp_dSrc, wp_dZip, wp_dRng1, wp_dRng2, wp_dEnum, wp_dLc, wpS_nx, wpS_rt, wpS_bk, wpS_ct, wpS_exc, wpS_bad, wpS_ite, wpS_dSeq, wpS_dNx, wpS_dBk, wpS_dCt, wpS_dDrop, wpS_dRet, wpS_dRetN, wpS_dIf, wpS_dSet, wpS_dAsg, wpS_dPar, wpS_dPut, wpS_dRaise, wpS_dFor, wp_dfn, wO_some, wO_none, wO_map, wO_bind, wO_ite, List.map_cons, List.map_nil, List.replicate_succ, List.replicate_zero, List.cons_append, List.nil_append, Nat.reduceSub, Nat.reduceAdd, List.getElem?_cons_zero, List.getElem?_cons_succ, List.set_cons_zero, List.set_cons_succ, List.length_cons, List.length_nil, tgN, tgNil, tgCons, tgTup, wipeE, isT, String.reduceBEq, Bool.and_false, Bool.false_and, Bool.true_and, Bool.and_true, Bool.or_false, Bool.false_or, Bool.true_or, Bool.or_true, Bool.not_true, Bool.not_false, if_true, if_false, true_and, and_true, Bool.false_eq_true, Bool.true_eq_false, reduceIte, opEq_int, opNe_int, opEq_str, opNe_str, opAdd_int, opSub_int, opMod_pos, opLt_int, opLe_int, opGt_int, opGe_int, opLt_str, opLe_str, opIsN_ref, opIsN_non, opIsN_int, opIsN_tup, opIsN_str, opIsN_bl, opEq_bl, opNe_bl, opFdiv_int, opMul_int, opPow_int, atI_0, atI_1, atI_2, opIx_ref, opIx_tup, opIx_rl, opLen_tup, opLen_str, opLen_rl, opMax2_int, opMin2_int, opInt_int, opInt_bl, tyN_non, tyN_bl, tyN_int, tyN_str, tyN_tup, tyN_rl, truthW_bl, srcW_tup, srcW_rl]
  refine ⟨n, es.map eW, rfl, g, ?_⟩
  refine wpS_forFind (fun two => fstN (pair es two) two) (fun ε S' => (∃ a b c d, ε = [some (.ref n), a, b, c, d]) ∧ Fr 0 S S') ⟨⟨_, _, _, _, rfl⟩, Fr.refl⟩ (fun ε S' h => h.2.g0 g) ?_ ?_
  · rintro two x ε S1 e ⟨⟨a, b, c, d, rfl⟩, f⟩
    obtain ⟨u, e1, rfl⟩ := enumL_get e
    rw [List.getElem?_map, Option.map_eq_some_iff] at e1
    obtain ⟨e2, h2, rfl⟩ := e1
    have g1 := f.g0 g
    have lt := (List.getElem?_eq_some_iff.mp h2).1
    have hc : cutL (es.map eW) none (some (two : Int)) = (es.take two).map eW := by
      unfold cutL
      rw [HT.sIx_none, HT.sIx_nat, List.drop_zero, List.length_map, Nat.min_eq_left (by omega), List.map_take, Nat.sub_zero]
    simp only [wp_ok, wp_exc, wp_ret, wp_badM, wp_lift, wp_chk, wp_alloc, wp_grd, wp_tgt, wp_noXe, wp_dVar, wp_dC, wp_aNil, wp_aCons, wp_dTup, wp_dLst, wp_dOp, wp_dUn, wp_dFn, wB_bl, wp_dChain, wp_dTru, wp_dBool, wp_dNot, wp_dAnd, wp_dOr, wp_dAndV, wp_dOrV, wp_dNotV, wp_dIfE, wp_dYes, wp_dCall, wp_dCallK, wp_dIsi, wp_dIsi2, wp_dMt, wp_oN, wI_int, wp_oS, wp_dSl, wp_dSrc, wp_dZip, wp_dRng1, wp_dRng2, wp_dEnum, wp_dLc, wpS_nx, wpS_rt, wpS_bk, wpS_ct, wpS_exc, wpS_bad, wpS_ite, wpS_dSeq, wpS_dNx, wpS_dBk, wpS_dCt, wpS_dDrop, wpS_dRet, wpS_dRetN, wpS_dIf, wpS_dSet, wpS_dAsg, wpS_dPar, wpS_dPut, wpS_dRaise, wpS_dFor, wp_dfn, wO_some, wO_none, wO_map, wO_bind, wO_ite, List.map_cons, List.map_nil, List.replicate_succ, List.replicate_zero, List.cons_append, List.nil_append, Nat.reduceSub, Nat.reduceAdd, List.getElem?_cons_zero, List.getElem?_cons_succ, List.set_cons_zero, List.set_cons_succ, List.length_cons, List.length_nil, tgN, tgNil, tgCons, tgTup, wipeE, isT, String.reduceBEq, Bool.and_false, Bool.false_and, Bool.true_and, Bool.and_true, Bool.or_false, Bool.false_or, Bool.true_or, Bool.or_true, Bool.not_true, Bool.not_false, if_true, if_false, true_and, and_true, Bool.false_eq_true, Bool.true_eq_false, reduceIte, opEq_int, opNe_int, opEq_str, opNe_str, opAdd_int, opSub_int, opMod_pos, opLt_int, opLe_int, opGt_int, opGe_int, opLt_str, opLe_str, opIsN_ref, opIsN_non, opIsN_int, opIsN_tup, opIsN_str, opIsN_bl, opEq_bl, opNe_bl, opFdiv_int, opMul_int, opPow_int, atI_0, atI_1, atI_2, opIx_ref, opIx_tup, opIx_rl, opLen_tup, opLen_str, opLen_rl, opMax2_int, opMin2_int, opInt_int, opInt_bl, tyN_non, tyN_bl, tyN_int, tyN_str, tyN_tup, tyN_rl, truthW_bl, srcW_tup, srcW_rl, opSl, listW_ref g1, hc]
    refine ⟨S1.length, (es.take two).map eW, rfl, get_new, ?_⟩
    refine wpS_forFind (pair es two) (fun ε S' => (∃ c d, ε = [some (.ref n), some (.int two), some (eW e2), c, d]) ∧ Fr 0 (S1 ++ [O.lst ((es.take two).map eW)]) S') ⟨⟨_, _, rfl⟩, Fr.refl⟩ (fun ε S' h => h.2.g0 get_new) ?_ ?_
    · rintro one x ε S2 e' ⟨⟨c, d, rfl⟩, f2⟩
      obtain ⟨u, e1', rfl⟩ := enumL_get e'
      rw [List.getElem?_map, Option.map_eq_some_iff] at e1'
      obtain ⟨e3, h3, rfl⟩ := e1'
      have lt3 : one < two := by
        have := (List.getElem?_eq_some_iff.mp h3).1
        simp at this; omega
      rw [List.getElem?_take_of_lt lt3] at h3
      simp only [wp_ok, wp_exc, wp_ret, wp_badM, wp_lift, wp_chk, wp_alloc, wp_grd, wp_tgt, wp_noXe, wp_dVar, wp_dC, wp_aNil, wp_aCons, wp_dTup, wp_dLst, wp_dOp, wp_dUn, wp_dFn, wB_bl, wp_dChain, wp_dTru, wp_dBool, wp_dNot, wp_dAnd, wp_dOr, wp_dAndV, wp_dOrV, wp_dNotV, wp_dIfE, wp_dYes, wp_dCall, wp_dCallK, wp_dIsi, wp_dIsi2, wp_dMt, wp_oN, wI_int, wp_oS, wp_dSl, wp_dSrc, wp_dZip, wp_dRng1, wp_dRng2, wp_dEnum, wp_dLc, wpS_nx, wpS_rt, wpS_bk, wpS_ct, wpS_exc, wpS_bad, wpS_ite, wpS_dSeq, wpS_dNx, wpS_dBk, wpS_dCt, wpS_dDrop, wpS_dRet, wpS_dRetN, wpS_dIf, wpS_dSet, wpS_dAsg, wpS_dPar, wpS_dPut, wpS_dRaise, wpS_dFor, wp_dfn, wO_some, wO_none, wO_map, wO_bind, wO_ite, List.map_cons, List.map_nil, List.replicate_succ, List.replicate_zero, List.cons_append, List.nil_append, Nat.reduceSub, Nat.reduceAdd, List.getElem?_cons_zero, List.getElem?_cons_succ, List.set_cons_zero, List.set_cons_succ, List.length_cons, List.length_nil, tgN, tgNil, tgCons, tgTup, wipeE, isT, String.reduceBEq, Bool.and_false, Bool.false_and, Bool.true_and, Bool.and_true, Bool.or_false, Bool.false_or, Bool.true_or, Bool.or_true, Bool.not_true, Bool.not_false, if_true, if_false, true_and, and_true, Bool.false_eq_true, Bool.true_eq_false, reduceIte, opEq_int, opNe_int, opEq_str, opNe_str, opAdd_int, opSub_int, opMod_pos, opLt_int, opLe_int, opGt_int, opGe_int, opLt_str, opLe_str, opIsN_ref, opIsN_non, opIsN_int, opIsN_tup, opIsN_str, opIsN_bl, opEq_bl, opNe_bl, opFdiv_int, opMul_int, opPow_int, atI_0, atI_1, atI_2, opIx_ref, opIx_tup, opIx_rl, opLen_tup, opLen_str, opLen_rl, opMax2_int, opMin2_int, opInt_int, opInt_bl, tyN_non, tyN_bl, tyN_int, tyN_str, tyN_tup, tyN_rl, truthW_bl, srcW_tup, srcW_rl]
      refine do_clash_spec ?_
      have hp : pair es two one = if clash e3 e2 = true then some (.tup [.int one, .int two]) else none := by
        unfold pair
        rw [h3, h2]
      simp only [wp_ok, wp_exc, wp_ret, wp_badM, wp_lift, wp_chk, wp_alloc, wp_grd, wp_tgt, wp_noXe, wp_dVar, wp_dC, wp_aNil, wp_aCons, wp_dTup, wp_dLst, wp_dOp, wp_dUn, wp_dFn, wB_bl, wp_dChain, wp_dTru, wp_dBool, wp_dNot, wp_dAnd, wp_dOr, wp_dAndV, wp_dOrV, wp_dNotV, wp_dIfE, wp_dYes, wp_dCall, wp_dCallK, wp_dIsi, wp_dIsi2, wp_dMt, wp_oN, wI_int, wp_oS, wp_dSl, wp_dSrc, wp_dZip, wp_dRng1, wp_dRng2, wp_dEnum, wp_dLc, wpS_nx, wpS_rt, wpS_bk, wpS_ct, wpS_exc, wpS_bad, wpS_ite, wpS_dSeq, wpS_dNx, wpS_dBk, wpS_dCt, wpS_dDrop, wpS_dRet, wpS_dRetN, wpS_dIf, wpS_dSet, wpS_dAsg, wpS_dPar, wpS_dPut, wpS_dRaise, wpS_dFor, wp_dfn, wO_some, wO_none, wO_map, wO_bind, wO_ite, List.map_cons, List.map_nil, List.replicate_succ, List.replicate_zero, List.cons_append, List.nil_append, Nat.reduceSub, Nat.reduceAdd, List.getElem?_cons_zero, List.getElem?_cons_succ, List.set_cons_zero, List.set_cons_succ, List.length_cons, List.length_nil, tgN, tgNil, tgCons, tgTup, wipeE, isT, String.reduceBEq, Bool.and_false, Bool.false_and, Bool.true_and, Bool.and_true, Bool.or_false, Bool.false_or, Bool.true_or, Bool.or_true, Bool.not_true, Bool.not_false, if_true, if_false, true_and, and_true, Bool.false_eq_true, Bool.true_eq_false, reduceIte, opEq_int, opNe_int, opEq_str, opNe_str, opAdd_int, opSub_int, opMod_pos, opLt_int, opLe_int, opGt_int, opGe_int, opLt_str, opLe_str, opIsN_ref, opIsN_non, opIsN_int, opIsN_tup, opIsN_str, opIsN_bl, opEq_bl, opNe_bl, opFdiv_int, opMul_int, opPow_int, atI_0, atI_1, atI_2, opIx_ref, opIx_tup, opIx_rl, opLen_tup, opLen_str, opLen_rl, opMax2_int, opMin2_int, opInt_int, opInt_bl, tyN_non, tyN_bl, tyN_int, tyN_str, tyN_tup, tyN_rl, truthW_bl, srcW_tup, srcW_rl]
      rw [hp]
      have l1 : (enumL (List.map eW (List.take two es))).length = two := by rw [enumL_len, List.length_map, List.length_take]; omega
      have l2 : (enumL (List.map eW es)).length = es.length := by rw [enumL_len, List.length_map]
      split
      · refine ⟨lenOk_of (by decide), rfl, fun q => ⟨by rw [l1] at q; exact q, fun q2 => ⟨?_, f.trans (Fr.app.trans f2)⟩⟩⟩
        rw [l2] at q2
        unfold found
        rw [q2]; rfl
      · exact ⟨rfl, ⟨_, _, rfl⟩, f2⟩
    · rintro ε S2 q ⟨⟨c, d, rfl⟩, f2⟩
      have l1 : (enumL (List.map eW (List.take two es))).length = two := by rw [enumL_len, List.length_map, List.length_take]; omega
      rw [l1] at q
      exact ⟨q, ⟨_, _, _, _, rfl⟩, f.trans (Fr.app.trans f2)⟩
  · rintro ε S2 q ⟨⟨a, b, c, d, rfl⟩, f2⟩
    have l2 : (enumL (List.map eW es)).length = es.length := by rw [enumL_len, List.length_map]
    rw [l2] at q
    simp only [wp_ok, wp_exc, wp_ret, wp_badM, wp_lift, wp_chk, wp_alloc, wp_grd, wp_tgt, wp_noXe, wp_dVar, wp_dC, wp_aNil, wp_aCons, wp_dTup, wp_dLst, wp_dOp, wp_dUn, wp_dFn, wB_bl, wp_dChain, wp_dTru, wp_dBool, wp_dNot, wp_dAnd, wp_dOr, wp_dAndV, wp_dOrV, wp_dNotV, wp_dIfE, wp_dYes, wp_dCall, wp_dCallK, wp_dIsi, wp_dIsi2, wp_dMt, wp_oN, wI_int, wp_oS, wp_dSl, wp_dSrc, wp_dZip, wp_dRng1, wp_dRng2, wp_dEnum, wp_dLc, wpS_nx, wpS_rt, wpS_bk, wpS_ct, wpS_exc, wpS_bad, wpS_ite, wpS_dSeq, wpS_dNx, wpS_dBk, wpS_dCt, wpS_dDrop, wpS_dRet, wpS_dRetN, wpS_dIf, wpS_dSet, wpS_dAsg, wpS_dPar, wpS_dPut, wpS_dRaise, wpS_dFor, wp_dfn, wO_some, wO_none, wO_map, wO_bind, wO_ite, List.map_cons, List.map_nil, List.replicate_succ, List.replicate_zero, List.cons_append, List.nil_append, Nat.reduceSub, Nat.reduceAdd, List.getElem?_cons_zero, List.getElem?_cons_succ, List.set_cons_zero, List.set_cons_succ, List.length_cons, List.length_nil, tgN, tgNil, tgCons, tgTup, wipeE, isT, String.reduceBEq, Bool.and_false, Bool.false_and, Bool.true_and, Bool.and_true, Bool.or_false, Bool.false_or, Bool.true_or, Bool.or_true, Bool.not_true, Bool.not_false, if_true, if_false, true_and, and_true, Bool.false_eq_true, Bool.true_eq_false, reduceIte, opEq_int, opNe_int, opEq_str, opNe_str, opAdd_int, opSub_int, opMod_pos, opLt_int, opLe_int, opGt_int, opGe_int, opLt_str, opLe_str, opIsN_ref, opIsN_non, opIsN_int, opIsN_tup, opIsN_str, opIsN_bl, opEq_bl, opNe_bl, opFdiv_int, opMul_int, opPow_int, atI_0, atI_1, atI_2, opIx_ref, opIx_tup, opIx_rl, opLen_tup, opLen_str, opLen_rl, opMax2_int, opMin2_int, opInt_int, opInt_bl, tyN_non, tyN_bl, tyN_int, tyN_str, tyN_tup, tyN_rl, truthW_bl, srcW_tup, srcW_rl]
    unfold found
    rw [q]
    exact ⟨rfl, f2⟩
theorem find_clash_spec {n : Nat} {es : List Ent} {S : Store} {E : Ex → Store → Prop} (g : S[n]? = some (.lst (es.map eW))) (hl : es.length ≤ 1000) (h : ∀ e ∈ es, Good e) : wp (n_find_clash [.ref n] S) (fun r S' => r = found es ∧ Fr 0 S S') E := by
  unfold n_find_clash d_find_clash
  simp only [wp_ok, wp_exc, wp_ret, wp_badM, wp_lift, wp_chk, wp_alloc, wp_grd, wp_tgt, wp_noXe, wp_dVar, wp_dC, wp_aNil, wp_aCons, wp_dTup, wp_dLst, wp_dOp, wp_dUn, wp_dFn, wB_bl, wp_dChain, wp_dTru, wp_dBool, wp_dNot, wp_dAnd, wp_dOr, wp_dAndV, wp_dOrV, wp_dNotV, wp_dIfE, wp_dYes, wp_dCall, wp_dCallK, wp_dIsi, wp_dIsi2, wp_dMt, wp_oN, wI_int, wp_oS, wp_dSl, wp_dSrc, wp_dZip, wp_dRng1, wp_dRng2, wp_dEnum, wp_dLc, wpS_nx, wpS_rt, wpS_bk, wpS_ct, wpS_exc, wpS_bad, wpS_ite, wpS_dSeq, wpS_dNx, wpS_dBk, wpS_dCt, wpS_dDrop, wpS_dRet, wpS_dRetN, wpS_dIf, wpS_dSet, wpS_dAsg, wpS_dPar, wpS_dPut, wpS_dRaise, wpS_dFor, wp_dfn, wO_some, wO_none, wO_map, wO_bind, wO_ite, List.map_cons, List.map_nil, List.replicate_succ, List.replicate_zero, List.cons_append, List.nil_append, Nat.reduceSub, Nat.reduceAdd, List.getElem?_cons_zero, List.getElem?_cons_succ, List.set_cons_zero, List.set_cons_succ, List.length_cons, List.length_nil, tgN, tgNil, tgCons, tgTup, wipeE, isT, String.reduceBEq, Bool.and_false, Bool.false_and, Bool.true_and, Bool.and_true, Bool.or_false, Bool.false_or, Bool.true_or, Bool.or_true, Bool.not_true, Bool.not_false, if_true, if_false, true_and, and_true, Bool.false_eq_true, Bool.true_eq_false, reduceIte, opEq_int, opNe_int, opEq_str, opNe_str, opAdd_int, opSub_int, opMod_pos, opLt_int, opLe_int, opGt_int, opGe_int, opLt_str, opLe_str, opIsN_ref, opIsN_non, opIsN_int, opIsN_tup, opIsN_str, opIsN_bl, opEq_bl, opNe_bl, opFdiv_int, opMul_int, opPow_int, atI_0, atI_1, atI_2, opIx_ref, opIx_tup, opIx_rl, opLen_tup, opLen_str, opLen_rl, opMax2_int, opMin2_int, opInt_int, opInt_bl, tyN_non, tyN_bl, tyN_int, tyN_str, tyN_tup, tyN_rl, truthW_bl, srcW_tup, srcW_rl]
  refine wp_mono (require_log_spec g hl h) ?_ (fun _ _ q => q)
  intro r S' f
  refine wp_mono (clash_in_spec (f.g0 g) hl) ?_ (fun _ _ q => q)
  rintro r S2 ⟨rfl, f2⟩
  exact ⟨rfl, f.trans f2⟩
/-! ### the law's own -/
theorem law_closes_spec {e : Ent} {d : Int} {S : Store} {Q : W → Store → Prop} {E : Ex → Store → Prop} (h : Q (.bl (closes e d)) S) : wp (n_law_closes [eW e, .int d] S) Q E := closes_spec h
theorem rng_get {es : List Ent} {n : Nat} {x : W} {i : Nat} (e : (rngW 0 (n : Int).toNat)[i]? = some x) : i < n ∧ x = .int (i : Nat) := by
  obtain ⟨h, rfl⟩ := rngW_get e
  exact ⟨by simpa using h, by rw [Int.zero_add]⟩
theorem law_first_clash_spec {n : Nat} {es : List Ent} {S : Store} {E : Ex → Store → Prop} (g : S[n]? = some (.lst (es.map eW))) (hl : es.length ≤ 1000) : wp (n_law_first_clash [.ref n] S) (fun r S' => r = found es ∧ Fr 0 S S') E := by
  unfold n_law_first_clash d_law_first_clash
  simp only [wp_ok, wp_exc, wp_ret, wp_badM, wp_lift, wp_chk, wp_alloc, wp_grd, wp_tgt, wp_noXe, wp_dVar, wp_dC, wp_aNil, wp_aCons, wp_dTup, wp_dLst, wp_dOp, wp_dUn, wp_dFn, wB_bl, wp_dChain, wp_dTru, wp_dBool, wp_dNot, wp_dAnd, wp_dOr, wp_dAndV, wp_dOrV, wp_dNotV, wp_dIfE, wp_dYes, wp_dCall, wp_dCallK, wp_dIsi, wp_dIsi2, wp_dMt, wp_oN, wI_int, wp_oS, wp_dSl, wp_dSrc, wp_dZip, wp_dRng1, wp_dRng2, wp_dEnum, wp_dLc, wpS_nx, wpS_rt, wpS_bk, wpS_ct, wpS_exc, wpS_bad, wpS_ite, wpS_dSeq, wpS_dNx, wpS_dBk, wpS_dCt, wpS_dDrop, wpS_dRet, wpS_dRetN, wpS_dIf, wpS_dSet, wpS_dAsg, wpS_dPar, wpS_dPut, wpS_dRaise, wpS_dFor, wp_dfn, wO_some, wO_none, wO_map, wO_bind, wO_ite, List.map_cons, List.map_nil, List.replicate_succ, List.replicate_zero, List.cons_append, List.nil_append, Nat.reduceSub, Nat.reduceAdd, List.getElem?_cons_zero, List.getElem?_cons_succ, List.set_cons_zero, List.set_cons_succ, List.length_cons, List.length_nil, tgN, tgNil, tgCons, tgTup, wipeE, isT, String.reduceBEq, Bool.and_false, Bool.false_and, Bool.true_and, Bool.and_true, Bool.or_false, Bool.false_or, Bool.true_or, Bool.or_true, Bool.not_true, Bool.not_false, if_true, if_false, true_and, and_true, Bool.false_eq_true, Bool.true_eq_false, reduceIte, opEq_int, opNe_int, opEq_str, opNe_str, opAdd_int, opSub_int, opMod_pos, opLt_int, opLe_int, opGt_int, opGe_int, opLt_str, opLe_str, opIsN_ref, opIsN_non, opIsN_int, opIsN_tup, opIsN_str, opIsN_bl, opEq_bl, opNe_bl, opFdiv_int, opMul_int, opPow_int, atI_0, atI_1, atI_2, opIx_ref, opIx_tup, opIx_rl, opLen_tup, opLen_str, opLen_rl, opMax2_int, opMin2_int, opInt_int, opInt_bl, tyN_non, tyN_bl, tyN_int, tyN_str, tyN_tup, tyN_rl, truthW_bl, srcW_tup, srcW_rl, opLen_ref g, List.length_map]
  have hb : ∀ k : Nat, k ≤ 1000 → bnd (k : Int) = true := fun k hk => by unfold bnd; exact decide_eq_true (by omega)
  refine ⟨hb _ hl, ?_⟩
  refine wpS_forFind (fun two => fstN (pair es two) two) (fun ε S' => (∃ a b, ε = [some (.ref n), a, b]) ∧ S' = S) ⟨⟨_, _, rfl⟩, rfl⟩ (fun ε S' h => trivial) ?_ ?_
  · rintro two x ε S1 e ⟨⟨a, b, rfl⟩, rfl⟩
    obtain ⟨lt, rfl⟩ := rng_get (es := es) e
    simp only [wp_ok, wp_exc, wp_ret, wp_badM, wp_lift, wp_chk, wp_alloc, wp_grd, wp_tgt, wp_noXe, wp_dVar, wp_dC, wp_aNil, wp_aCons, wp_dTup, wp_dLst, wp_dOp, wp_dUn, wp_dFn, wB_bl, wp_dChain, wp_dTru, wp_dBool, wp_dNot, wp_dAnd, wp_dOr, wp_dAndV, wp_dOrV, wp_dNotV, wp_dIfE, wp_dYes, wp_dCall, wp_dCallK, wp_dIsi, wp_dIsi2, wp_dMt, wp_oN, wI_int, wp_oS, wp_dSl, wp_dSrc, wp_dZip, wp_dRng1, wp_dRng2, wp_dEnum, wp_dLc, wpS_nx, wpS_rt, wpS_bk, wpS_ct, wpS_exc, wpS_bad, wpS_ite, wpS_dSeq, wpS_dNx, wpS_dBk, wpS_dCt, wpS_dDrop, wpS_dRet, wpS_dRetN, wpS_dIf, wpS_dSet, wpS_dAsg, wpS_dPar, wpS_dPut, wpS_dRaise, wpS_dFor, wp_dfn, wO_some, wO_none, wO_map, wO_bind, wO_ite, List.map_cons, List.map_nil, List.replicate_succ, List.replicate_zero, List.cons_append, List.nil_append, Nat.reduceSub, Nat.reduceAdd, List.getElem?_cons_zero, List.getElem?_cons_succ, List.set_cons_zero, List.set_cons_succ, List.length_cons, List.length_nil, tgN, tgNil, tgCons, tgTup, wipeE, isT, String.reduceBEq, Bool.and_false, Bool.false_and, Bool.true_and, Bool.and_true, Bool.or_false, Bool.false_or, Bool.true_or, Bool.or_true, Bool.not_true, Bool.not_false, if_true, if_false, true_and, and_true, Bool.false_eq_true, Bool.true_eq_false, reduceIte, opEq_int, opNe_int, opEq_str, opNe_str, opAdd_int, opSub_int, opMod_pos, opLt_int, opLe_int, opGt_int, opGe_int, opLt_str, opLe_str, opIsN_ref, opIsN_non, opIsN_int, opIsN_tup, opIsN_str, opIsN_bl, opEq_bl, opNe_bl, opFdiv_int, opMul_int, opPow_int, atI_0, atI_1, atI_2, opIx_ref, opIx_tup, opIx_rl, opLen_tup, opLen_str, opLen_rl, opMax2_int, opMin2_int, opInt_int, opInt_bl, tyN_non, tyN_bl, tyN_int, tyN_str, tyN_tup, tyN_rl, truthW_bl, srcW_tup, srcW_rl]
    refine ⟨hb _ (by omega), ?_⟩
    refine wpS_forFind (pair es two) (fun ε S' => (∃ c, ε = [some (.ref n), some (.int two), c]) ∧ S' = S1) ⟨⟨_, rfl⟩, rfl⟩ (fun ε S' h => trivial) ?_ ?_
    · rintro one x ε S2 e' ⟨⟨c, rfl⟩, rfl⟩
      obtain ⟨lt3, rfl⟩ := rng_get (es := es) e'
      have h2 : es[two]? = some es[two] := List.getElem?_eq_getElem lt
      have h3 : es[one]? = some es[one] := List.getElem?_eq_getElem (by omega)
      generalize es[two] = e2 at h2
      generalize es[one] = e3 at h3
      have hp : pair es two one = if clash e3 e2 = true then some (.tup [.int one, .int two]) else none := by
        unfold pair
        rw [h3, h2]
      have l1 : (rngW 0 (two : Int).toNat).length = two := by rw [rngW_len]; omega
      have l2 : (rngW 0 (es.length : Int).toNat).length = es.length := by rw [rngW_len]; omega
      have fin : pair es two one = some (.tup [.int one, .int two]) → pair es two one = some (W.tup [W.int ↑one, W.int ↑two]) ∧
        (fstN (pair es two) (rngW 0 (two : Int).toNat).length = some (W.tup [W.int ↑one, W.int ↑two]) →
          fstN (pair es two) two = some (W.tup [W.int ↑one, W.int ↑two]) ∧
            (fstN (fun two => fstN (pair es two) two) (rngW 0 (es.length : Int).toNat).length =
                some (W.tup [W.int ↑one, W.int ↑two]) →
              W.tup [W.int ↑one, W.int ↑two] = found es ∧ Fr 0 S2 S2)) := fun q => ⟨q, fun q1 => ⟨by rw [l1] at q1; exact q1, fun q2 => by
                rw [l2] at q2
                unfold found
                rw [q2]
                exact ⟨rfl, Fr.refl⟩⟩⟩
      simp only [wp_ok, wp_exc, wp_ret, wp_badM, wp_lift, wp_chk, wp_alloc, wp_grd, wp_tgt, wp_noXe, wp_dVar, wp_dC, wp_aNil, wp_aCons, wp_dTup, wp_dLst, wp_dOp, wp_dUn, wp_dFn, wB_bl, wp_dChain, wp_dTru, wp_dBool, wp_dNot, wp_dAnd, wp_dOr, wp_dAndV, wp_dOrV, wp_dNotV, wp_dIfE, wp_dYes, wp_dCall, wp_dCallK, wp_dIsi, wp_dIsi2, wp_dMt, wp_oN, wI_int, wp_oS, wp_dSl, wp_dSrc, wp_dZip, wp_dRng1, wp_dRng2, wp_dEnum, wp_dLc, wpS_nx, wpS_rt, wpS_bk, wpS_ct, wpS_exc, wpS_bad, wpS_ite, wpS_dSeq, wpS_dNx, wpS_dBk, wpS_dCt, wpS_dDrop, wpS_dRet, wpS_dRetN, wpS_dIf, wpS_dSet, wpS_dAsg, wpS_dPar, wpS_dPut, wpS_dRaise, wpS_dFor, wp_dfn, wO_some, wO_none, wO_map, wO_bind, wO_ite, List.map_cons, List.map_nil, List.replicate_succ, List.replicate_zero, List.cons_append, List.nil_append, Nat.reduceSub, Nat.reduceAdd, List.getElem?_cons_zero, List.getElem?_cons_succ, List.set_cons_zero, List.set_cons_succ, List.length_cons, List.length_nil, tgN, tgNil, tgCons, tgTup, wipeE, isT, String.reduceBEq, Bool.and_false, Bool.false_and, Bool.true_and, Bool.and_true, Bool.or_false, Bool.false_or, Bool.true_or, Bool.or_true, Bool.not_true, Bool.not_false, if_true, if_false, true_and, and_true, Bool.false_eq_true, Bool.true_eq_false, reduceIte, opEq_int, opNe_int, opEq_str, opNe_str, opAdd_int, opSub_int, opMod_pos, opLt_int, opLe_int, opGt_int, opGe_int, opLt_str, opLe_str, opIsN_ref, opIsN_non, opIsN_int, opIsN_tup, opIsN_str, opIsN_bl, opEq_bl, opNe_bl, opFdiv_int, opMul_int, opPow_int, atI_0, atI_1, atI_2, opIx_ref, opIx_tup, opIx_rl, opLen_tup, opLen_str, opLen_rl, opMax2_int, opMin2_int, opInt_int, opInt_bl, tyN_non, tyN_bl, tyN_int, tyN_str, tyN_tup, tyN_rl, truthW_bl, srcW_tup, srcW_rl, lstAt_of g, atI_n, List.getElem?_map, h2, h3, Option.map_some]
      have no : (∃ c, [some (W.ref n), some (W.int ↑two), some (W.int ↑one)] = [some (W.ref n), some (W.int ↑two), c]) := ⟨_, rfl⟩
      cases h4 : (e3.1 == e2.1)
      · rw [if_neg (by decide)]
        refine ⟨?_, no⟩
        rw [hp]; unfold clash; rw [h4]; rfl
      · rw [if_pos rfl]
        refine law_closes_spec ?_
        simp only [wp_ok, wp_exc, wp_ret, wp_badM, wp_lift, wp_chk, wp_alloc, wp_grd, wp_tgt, wp_noXe, wp_dVar, wp_dC, wp_aNil, wp_aCons, wp_dTup, wp_dLst, wp_dOp, wp_dUn, wp_dFn, wB_bl, wp_dChain, wp_dTru, wp_dBool, wp_dNot, wp_dAnd, wp_dOr, wp_dAndV, wp_dOrV, wp_dNotV, wp_dIfE, wp_dYes, wp_dCall, wp_dCallK, wp_dIsi, wp_dIsi2, wp_dMt, wp_oN, wI_int, wp_oS, wp_dSl, wp_dSrc, wp_dZip, wp_dRng1, wp_dRng2, wp_dEnum, wp_dLc, wpS_nx, wpS_rt, wpS_bk, wpS_ct, wpS_exc, wpS_bad, wpS_ite, wpS_dSeq, wpS_dNx, wpS_dBk, wpS_dCt, wpS_dDrop, wpS_dRet, wpS_dRetN, wpS_dIf, wpS_dSet, wpS_dAsg, wpS_dPar, wpS_dPut, wpS_dRaise, wpS_dFor, wp_dfn, wO_some, wO_none, wO_map, wO_bind, wO_ite, List.map_cons, List.map_nil, List.replicate_succ, List.replicate_zero, List.cons_append, List.nil_append, Nat.reduceSub, Nat.reduceAdd, List.getElem?_cons_zero, List.getElem?_cons_succ, List.set_cons_zero, List.set_cons_succ, List.length_cons, List.length_nil, tgN, tgNil, tgCons, tgTup, wipeE, isT, String.reduceBEq, Bool.and_false, Bool.false_and, Bool.true_and, Bool.and_true, Bool.or_false, Bool.false_or, Bool.true_or, Bool.or_true, Bool.not_true, Bool.not_false, if_true, if_false, true_and, and_true, Bool.false_eq_true, Bool.true_eq_false, reduceIte, opEq_int, opNe_int, opEq_str, opNe_str, opAdd_int, opSub_int, opMod_pos, opLt_int, opLe_int, opGt_int, opGe_int, opLt_str, opLe_str, opIsN_ref, opIsN_non, opIsN_int, opIsN_tup, opIsN_str, opIsN_bl, opEq_bl, opNe_bl, opFdiv_int, opMul_int, opPow_int, atI_0, atI_1, atI_2, opIx_ref, opIx_tup, opIx_rl, opLen_tup, opLen_str, opLen_rl, opMax2_int, opMin2_int, opInt_int, opInt_bl, tyN_non, tyN_bl, tyN_int, tyN_str, tyN_tup, tyN_rl, truthW_bl, srcW_tup, srcW_rl]
        cases h5 : closes e3 e2.2.2
        · rw [if_neg (by decide)]
          simp only [wp_ok, wp_exc, wp_ret, wp_badM, wp_lift, wp_chk, wp_alloc, wp_grd, wp_tgt, wp_noXe, wp_dVar, wp_dC, wp_aNil, wp_aCons, wp_dTup, wp_dLst, wp_dOp, wp_dUn, wp_dFn, wB_bl, wp_dChain, wp_dTru, wp_dBool, wp_dNot, wp_dAnd, wp_dOr, wp_dAndV, wp_dOrV, wp_dNotV, wp_dIfE, wp_dYes, wp_dCall, wp_dCallK, wp_dIsi, wp_dIsi2, wp_dMt, wp_oN, wI_int, wp_oS, wp_dSl, wp_dSrc, wp_dZip, wp_dRng1, wp_dRng2, wp_dEnum, wp_dLc, wpS_nx, wpS_rt, wpS_bk, wpS_ct, wpS_exc, wpS_bad, wpS_ite, wpS_dSeq, wpS_dNx, wpS_dBk, wpS_dCt, wpS_dDrop, wpS_dRet, wpS_dRetN, wpS_dIf, wpS_dSet, wpS_dAsg, wpS_dPar, wpS_dPut, wpS_dRaise, wpS_dFor, wp_dfn, wO_some, wO_none, wO_map, wO_bind, wO_ite, List.map_cons, List.map_nil, List.replicate_succ, List.replicate_zero, List.cons_append, List.nil_append, Nat.reduceSub, Nat.reduceAdd, List.getElem?_cons_zero, List.getElem?_cons_succ, List.set_cons_zero, List.set_cons_succ, List.length_cons, List.length_nil, tgN, tgNil, tgCons, tgTup, wipeE, isT, String.reduceBEq, Bool.and_false, Bool.false_and, Bool.true_and, Bool.and_true, Bool.or_false, Bool.false_or, Bool.true_or, Bool.or_true, Bool.not_true, Bool.not_false, if_true, if_false, true_and, and_true, Bool.false_eq_true, Bool.true_eq_false, reduceIte, opEq_int, opNe_int, opEq_str, opNe_str, opAdd_int, opSub_int, opMod_pos, opLt_int, opLe_int, opGt_int, opGe_int, opLt_str, opLe_str, opIsN_ref, opIsN_non, opIsN_int, opIsN_tup, opIsN_str, opIsN_bl, opEq_bl, opNe_bl, opFdiv_int, opMul_int, opPow_int, atI_0, atI_1, atI_2, opIx_ref, opIx_tup, opIx_rl, opLen_tup, opLen_str, opLen_rl, opMax2_int, opMin2_int, opInt_int, opInt_bl, tyN_non, tyN_bl, tyN_int, tyN_str, tyN_tup, tyN_rl, truthW_bl, srcW_tup, srcW_rl, lstAt_of g, atI_n, List.getElem?_map, h2, h3, Option.map_some]
          refine law_closes_spec ?_
          simp only [wp_ok, wp_exc, wp_ret, wp_badM, wp_lift, wp_chk, wp_alloc, wp_grd, wp_tgt, wp_noXe, wp_dVar, wp_dC, wp_aNil, wp_aCons, wp_dTup, wp_dLst, wp_dOp, wp_dUn, wp_dFn, wB_bl, wp_dChain, wp_dTru, wp_dBool, wp_dNot, wp_dAnd, wp_dOr, wp_dAndV, wp_dOrV, wp_dNotV, wp_dIfE, wp_dYes, wp_dCall, wp_dCallK, wp_dIsi, wp_dIsi2, wp_dMt, wp_oN, wI_int, wp_oS, wp_dSl, wp_dSrc, wp_dZip, wp_dRng1, wp_dRng2, wp_dEnum, wp_dLc, wpS_nx, wpS_rt, wpS_bk, wpS_ct, wpS_exc, wpS_bad, wpS_ite, wpS_dSeq, wpS_dNx, wpS_dBk, wpS_dCt, wpS_dDrop, wpS_dRet, wpS_dRetN, wpS_dIf, wpS_dSet, wpS_dAsg, wpS_dPar, wpS_dPut, wpS_dRaise, wpS_dFor, wp_dfn, wO_some, wO_none, wO_map, wO_bind, wO_ite, List.map_cons, List.map_nil, List.replicate_succ, List.replicate_zero, List.cons_append, List.nil_append, Nat.reduceSub, Nat.reduceAdd, List.getElem?_cons_zero, List.getElem?_cons_succ, List.set_cons_zero, List.set_cons_succ, List.length_cons, List.length_nil, tgN, tgNil, tgCons, tgTup, wipeE, isT, String.reduceBEq, Bool.and_false, Bool.false_and, Bool.true_and, Bool.and_true, Bool.or_false, Bool.false_or, Bool.true_or, Bool.or_true, Bool.not_true, Bool.not_false, if_true, if_false, true_and, and_true, Bool.false_eq_true, Bool.true_eq_false, reduceIte, opEq_int, opNe_int, opEq_str, opNe_str, opAdd_int, opSub_int, opMod_pos, opLt_int, opLe_int, opGt_int, opGe_int, opLt_str, opLe_str, opIsN_ref, opIsN_non, opIsN_int, opIsN_tup, opIsN_str, opIsN_bl, opEq_bl, opNe_bl, opFdiv_int, opMul_int, opPow_int, atI_0, atI_1, atI_2, opIx_ref, opIx_tup, opIx_rl, opLen_tup, opLen_str, opLen_rl, opMax2_int, opMin2_int, opInt_int, opInt_bl, tyN_non, tyN_bl, tyN_int, tyN_str, tyN_tup, tyN_rl, truthW_bl, srcW_tup, srcW_rl]
          cases h6 : closes e2 e3.2.2
          · rw [if_neg (by decide)]
            refine ⟨?_, no⟩
            rw [hp]; unfold clash; rw [h4, h5, h6]; rfl
          · rw [if_pos rfl]
            refine ⟨lenOk_of (by decide), fin ?_⟩
            rw [hp]; unfold clash; rw [h4, h5, h6]; rfl
        · rw [if_pos rfl]
          refine ⟨lenOk_of (by decide), fin ?_⟩
          rw [hp]; unfold clash; rw [h4, h5]; rfl
    · rintro ε S2 q ⟨⟨c, rfl⟩, rfl⟩
      have l1 : (rngW 0 (two : Int).toNat).length = two := by rw [rngW_len]; omega
      rw [l1] at q
      exact ⟨q, ⟨_, _, rfl⟩, rfl⟩
  · rintro ε S2 q ⟨⟨a, b, rfl⟩, rfl⟩
    have l2 : (rngW 0 (es.length : Int).toNat).length = es.length := by rw [rngW_len]; omega
    rw [l2] at q
    simp only [wp_ok, wp_exc, wp_ret, wp_badM, wp_lift, wp_chk, wp_alloc, wp_grd, wp_tgt, wp_noXe, wp_dVar, wp_dC, wp_aNil, wp_aCons, wp_dTup, wp_dLst, wp_dOp, wp_dUn, wp_dFn, wB_bl, wp_dChain, wp_dTru, wp_dBool, wp_dNot, wp_dAnd, wp_dOr, wp_dAndV, wp_dOrV, wp_dNotV, wp_dIfE, wp_dYes, wp_dCall, wp_dCallK, wp_dIsi, wp_dIsi2, wp_dMt, wp_oN, wI_int, wp_oS, wp_dSl, wp_dSrc, wp_dZip, wp_dRng1, wp_dRng2, wp_dEnum, wp_dLc, wpS_nx, wpS_rt, wpS_bk, wpS_ct, wpS_exc, wpS_bad, wpS_ite, wpS_dSeq, wpS_dNx, wpS_dBk, wpS_dCt, wpS_dDrop, wpS_dRet, wpS_dRetN, wpS_dIf, wpS_dSet, wpS_dAsg, wpS_dPar, wpS_dPut, wpS_dRaise, wpS_dFor, wp_dfn, wO_some, wO_none, wO_map, wO_bind, wO_ite, List.map_cons, List.map_nil, List.replicate_succ, List.replicate_zero, List.cons_append, List.nil_append, Nat.reduceSub, Nat.reduceAdd, List.getElem?_cons_zero, List.getElem?_cons_succ, List.set_cons_zero, List.set_cons_succ, List.length_cons, List.length_nil, tgN, tgNil, tgCons, tgTup, wipeE, isT, String.reduceBEq, Bool.and_false, Bool.false_and, Bool.true_and, Bool.and_true, Bool.or_false, Bool.false_or, Bool.true_or, Bool.or_true, Bool.not_true, Bool.not_false, if_true, if_false, true_and, and_true, Bool.false_eq_true, Bool.true_eq_false, reduceIte, opEq_int, opNe_int, opEq_str, opNe_str, opAdd_int, opSub_int, opMod_pos, opLt_int, opLe_int, opGt_int, opGe_int, opLt_str, opLe_str, opIsN_ref, opIsN_non, opIsN_int, opIsN_tup, opIsN_str, opIsN_bl, opEq_bl, opNe_bl, opFdiv_int, opMul_int, opPow_int, atI_0, atI_1, atI_2, opIx_ref, opIx_tup, opIx_rl, opLen_tup, opLen_str, opLen_rl, opMax2_int, opMin2_int, opInt_int, opInt_bl, tyN_non, tyN_bl, tyN_int, tyN_str, tyN_tup, tyN_rl, truthW_bl, srcW_tup, srcW_rl]
    unfold found
    rw [q]
    exact ⟨rfl, Fr.refl⟩
end K49
/-! K49q: the law's own functions. -/
namespace K49
open PySem L2 N
/-- rows of truth values -/
inductive Rows (B : Nat) (S : Store) : List W → List (List Bool) → Prop
  | nil : Rows B S [] []
  | cons {q : Nat} {bs : List Bool} {ps : List W} {bss : List (List Bool)} : B ≤ q → S[q]? = some (.lst (bs.map W.bl)) → Rows B S ps bss → Rows B S (.ref q :: ps) (bs :: bss)
theorem Rows.mono {B : Nat} {S S' : Store} (f : Fr B S S') : ∀ {ps : List W} {bss : List (List Bool)}, Rows B S ps bss → Rows B S' ps bss
  | _, _, .nil => .nil
  | _, _, .cons h g t => .cons h (f.get _ _ h g) (Rows.mono f t)
theorem Rows.append {B : Nat} {S : Store} {qs : List W} {css : List (List Bool)} (u : Rows B S qs css) : ∀ {ps : List W} {bss : List (List Bool)}, Rows B S ps bss → Rows B S (ps ++ qs) (bss ++ css)
  | _, _, .nil => u
  | _, _, .cons h g t => .cons h g (Rows.append u t)
theorem Rows.length {B : Nat} {S : Store} : ∀ {ps : List W} {bss : List (List Bool)}, Rows B S ps bss → ps.length = bss.length
  | _, _, .nil => rfl
  | _, _, .cons _ _ t => congrArg Nat.succ t.length
theorem Rows.get {B : Nat} {S : Store} : ∀ {ps : List W} {bss : List (List Bool)}, Rows B S ps bss → ∀ {i : Nat} {x : W}, ps[i]? = some x → ∃ q bs, x = .ref q ∧ bss[i]? = some bs ∧ B ≤ q ∧ S[q]? = some (.lst (bs.map W.bl))
  | _, _, .nil, i, x, e => by simp at e
  | _, _, .cons h g t, 0, x, e => by simp at e; subst e; exact ⟨_, _, rfl, rfl, h, g⟩
  | _, _, .cons h g t, i + 1, x, e => by
    obtain ⟨q, bs, e1, e2, e3⟩ := t.get (i := i) (x := x) (by simpa using e)
    exact ⟨q, bs, e1, by simpa using e2, e3⟩
def sets : Nat → List (List Bool)
  | 0 => [[]]
  | n + 1 => (sets n).map (· ++ [true]) ++ (sets n).map (· ++ [false])
theorem sets_len : ∀ n, (sets n).length = 2 ^ n
  | 0 => rfl
  | n + 1 => by
    simp only [sets, List.length_append, List.length_map, sets_len n]
    omega
theorem sets_mem : ∀ (n : Nat) (bs : List Bool), bs.length = n → bs ∈ sets n
  | 0, bs, h => by
    rw [List.length_eq_zero_iff.mp h]
    exact List.mem_singleton.mpr rfl
  | n + 1, bs, h => by
    have hne : bs ≠ [] := fun e => by rw [e] at h; simp at h
    have e := List.dropLast_concat_getLast hne
    have hl : bs.dropLast.length = n := by simp [h]
    have m := sets_mem n _ hl
    rw [← e]
    simp only [sets, List.mem_append, List.mem_map]
    cases bs.getLast hne with
    | true => exact .inl ⟨_, m, rfl⟩
    | false => exact .inr ⟨_, m, rfl⟩
/-- [row + [b] for row in found] -/
theorem more_spec {B r : Nat} {b : Bool} {ps : List W} {bss : List (List Bool)} {x0 x2 x3 : Option W} {S : Store} {E : Ex → Store → Prop} {g : Store → Prop} (gs : ∀ S', Fr 0 S S' → g S') (R : Rows B S ps bss) (hB : B ≤ S.length) (hl : ∀ bs ∈ bss, bs.length ≤ 100) :
    wp (lcL (tgN 3) dYes (dOp opAdd (dVar 3) (dLst (aCons (dC (.bl b)) (aNil)))) g [x0, x2, x3, none] ps S) (fun ws S' => Rows B S' ws (bss.map (· ++ [b])) ∧ Fr 0 S S') E := by
  refine wp_mono (wp_lcL (acc := []) (fun i acc S' => Rows B S' acc ((bss.take i).map (· ++ [b])) ∧ Fr 0 S S') ⟨.nil, Fr.refl⟩ (fun _ _ S' _ h => gs _ h.2) ?_) (fun ws S' q => ?_) (fun _ _ q => q)
  · rintro i x acc S' e ⟨R', f⟩
    obtain ⟨q, bs, rfl, e1, hq, gq⟩ := R.get e
    have gq' := f.g0 gq
    have hbs := hl bs (List.mem_of_getElem? e1)
    have z : opAdd (.ref q) (.ref S'.length) (S' ++ [O.lst [W.bl b]]) = some (.ref (S'.length + 1), S' ++ [O.lst [W.bl b]] ++ [O.lst ((bs ++ [b]).map W.bl)]) := by
      unfold opAdd
      have h1 : (S' ++ [O.lst [W.bl b]])[q]? = some (.lst (bs.map W.bl)) := Fr.app.g0 gq'
      have h2 : (S' ++ [O.lst [W.bl b]])[S'.length]? = some (.lst [.bl b]) := get_new
      simp only [h1, h2, List.length_map, List.length_cons, List.length_nil, sizeLine_eq]
      rw [if_pos (by omega)]
      simp
    simp only [wp_ok, wp_exc, wp_ret, wp_badM, wp_lift, wp_chk, wp_alloc, wp_grd, wp_tgt, wp_noXe, wp_dVar, wp_dC, wp_aNil, wp_aCons, wp_dTup, wp_dLst, wp_dOp, wp_dUn, wp_dFn, wB_bl, wp_dChain, wp_dTru, wp_dBool, wp_dNot, wp_dAnd, wp_dOr, wp_dAndV, wp_dOrV, wp_dNotV, wp_dIfE, wp_dYes, wp_dCall, wp_dCallK, wp_dIsi, wp_dIsi2, wp_dMt, wp_oN, wI_int, wp_oS, wp_dSl, wp_dSrc, wp_dZip, wp_dRng1, wp_dRng2, wp_dEnum, wp_dLc, wpS_nx, wpS_rt, wpS_bk, wpS_ct, wpS_exc, wpS_bad, wpS_ite, wpS_dSeq, wpS_dNx, wpS_dBk, wpS_dCt, wpS_dDrop, wpS_dRet, wpS_dRetN, wpS_dIf, wpS_dSet, wpS_dAsg, wpS_dPar, wpS_dPut, wpS_dRaise, wpS_dFor, wp_dfn, wO_some, wO_none, wO_map, wO_bind, wO_ite, List.map_cons, List.map_nil, List.replicate_succ, List.replicate_zero, List.cons_append, List.nil_append, Nat.reduceSub, Nat.reduceAdd, List.getElem?_cons_zero, List.getElem?_cons_succ, List.set_cons_zero, List.set_cons_succ, List.length_cons, List.length_nil, tgN, tgNil, tgCons, tgTup, wipeE, isT, String.reduceBEq, Bool.and_false, Bool.false_and, Bool.true_and, Bool.and_true, Bool.or_false, Bool.false_or, Bool.true_or, Bool.or_true, Bool.not_true, Bool.not_false, if_true, if_false, true_and, and_true, Bool.false_eq_true, Bool.true_eq_false, reduceIte, opEq_int, opNe_int, opEq_str, opNe_str, opAdd_int, opSub_int, opMod_pos, opLt_int, opLe_int, opGt_int, opGe_int, opLt_str, opLe_str, opIsN_ref, opIsN_non, opIsN_int, opIsN_tup, opIsN_str, opIsN_bl, opEq_bl, opNe_bl, opFdiv_int, opMul_int, opPow_int, atI_0, atI_1, atI_2, opIx_ref, opIx_tup, opIx_rl, opLen_tup, opLen_str, opLen_rl, opMax2_int, opMin2_int, opInt_int, opInt_bl, tyN_non, tyN_bl, tyN_int, tyN_str, tyN_tup, tyN_rl, truthW_bl, srcW_tup, srcW_rl, lenOk_of (show 1 ≤ 1000000 by decide), z]
    refine ⟨?_, f.snoc.snoc⟩
    have e3 : (bss.take (i + 1)).map (· ++ [b]) = (bss.take i).map (· ++ [b]) ++ [bs ++ [b]] := by
      rw [List.take_succ, e1]
      simp
    rw [e3]
    refine Rows.append (.cons ?_ ?_ .nil) (R'.mono (Fr.app.trans Fr.app))
    · have := f.len; omega
    · rw [show S'.length + 1 = (S' ++ [O.lst [W.bl b]]).length by simp]; exact get_new
  · have l := R.length
    simp only [List.nil_append] at q
    rw [l, List.take_length] at q
    exact q
theorem law_sets_spec {S : Store} {E : Ex → Store → Prop} : wp (n_law_sets [.int 7] S) (fun r S' => ∃ q ps, r = .ref q ∧ S.length ≤ q ∧ S'[q]? = some (.lst ps) ∧ Rows S.length S' ps (sets 7) ∧ Fr 0 S S') E := by
  unfold n_law_sets d_law_sets
  simp only [wp_ok, wp_exc, wp_ret, wp_badM, wp_lift, wp_chk, wp_alloc, wp_grd, wp_tgt, wp_noXe, wp_dVar, wp_dC, wp_aNil, wp_aCons, wp_dTup, wp_dLst, wp_dOp, wp_dUn, wp_dFn, wB_bl, wp_dChain, wp_dTru, wp_dBool, wp_dNot, wp_dAnd, wp_dOr, wp_dAndV, wp_dOrV, wp_dNotV, wp_dIfE, wp_dYes, wp_dCall, wp_dCallK, wp_dIsi, wp_dIsi2, wp_dMt, wp_oN, wI_int, wp_oS, wp_dSl, wp_dSrc, wp_dZip, wp_dRng1, wp_dRng2, wp_dEnum, wp_dLc, wpS_nx, wpS_rt, wpS_bk, wpS_ct, wpS_exc, wpS_bad, wpS_ite, wpS_dSeq, wpS_dNx, wpS_dBk, wpS_dCt, wpS_dDrop, wpS_dRet, wpS_dRetN, wpS_dIf, wpS_dSet, wpS_dAsg, wpS_dPar, wpS_dPut, wpS_dRaise, wpS_dFor, wp_dfn, wO_some, wO_none, wO_map, wO_bind, wO_ite, List.map_cons, List.map_nil, List.replicate_succ, List.replicate_zero, List.cons_append, List.nil_append, Nat.reduceSub, Nat.reduceAdd, List.getElem?_cons_zero, List.getElem?_cons_succ, List.set_cons_zero, List.set_cons_succ, List.length_cons, List.length_nil, tgN, tgNil, tgCons, tgTup, wipeE, isT, String.reduceBEq, Bool.and_false, Bool.false_and, Bool.true_and, Bool.and_true, Bool.or_false, Bool.false_or, Bool.true_or, Bool.or_true, Bool.not_true, Bool.not_false, if_true, if_false, true_and, and_true, Bool.false_eq_true, Bool.true_eq_false, reduceIte, opEq_int, opNe_int, opEq_str, opNe_str, opAdd_int, opSub_int, opMod_pos, opLt_int, opLe_int, opGt_int, opGe_int, opLt_str, opLe_str, opIsN_ref, opIsN_non, opIsN_int, opIsN_tup, opIsN_str, opIsN_bl, opEq_bl, opNe_bl, opFdiv_int, opMul_int, opPow_int, atI_0, atI_1, atI_2, opIx_ref, opIx_tup, opIx_rl, opLen_tup, opLen_str, opLen_rl, opMax2_int, opMin2_int, opInt_int, opInt_bl, tyN_non, tyN_bl, tyN_int, tyN_str, tyN_tup, tyN_rl, truthW_bl, srcW_tup, srcW_rl, lenOk_of (show 0 ≤ 1000000 by decide), lenOk_of (show 1 ≤ 1000000 by decide), lenOk_of (show 0 + 1 ≤ 1000000 by decide)]
  refine ⟨by decide, ?_⟩
  refine wpS_forL (fun i ε S' => ∃ q ps x y, ε = [some (.int 7), some (.ref q), x, y] ∧ S.length ≤ q ∧ S'[q]? = some (.lst ps) ∧ Rows S.length S' ps (sets i) ∧ Fr 0 S S') ?_ ?_ ?_ ?_
  · refine ⟨_, [.ref S.length], _, _, rfl, by simp, get_new, .cons (Nat.le_refl _) (Fr.app.g0 get_new) .nil, Fr.app.snoc⟩
  · intros; trivial
  · rintro i x ε S' e ⟨q, ps, x0, y0, rfl, hq, gq, R, f⟩
    obtain ⟨hi, rfl⟩ := rngW_get e
    have hi : i < 7 := by simpa using hi
    have l1 : ps.length ≤ 128 := by
      rw [R.length, sets_len]
      exact Nat.le_trans (Nat.pow_le_pow_right (by decide) (by omega : i ≤ 7)) (by decide)
    have l2 : ∀ bs ∈ sets i, bs.length ≤ 100 := by
      have : ∀ n, ∀ bs ∈ sets n, bs.length = n := fun n => by
        induction n with
        | zero => intro bs h; rw [List.mem_singleton.mp h]; rfl
        | succ n ih =>
          intro bs h
          simp only [sets, List.mem_append, List.mem_map] at h
          rcases h with ⟨a, h, rfl⟩ | ⟨a, h, rfl⟩
          · simp [ih a h]
          · simp [ih a h]
      intro bs h; rw [this i bs h]; omega
    simp only [wp_ok, wp_exc, wp_ret, wp_badM, wp_lift, wp_chk, wp_alloc, wp_grd, wp_tgt, wp_noXe, wp_dVar, wp_dC, wp_aNil, wp_aCons, wp_dTup, wp_dLst, wp_dOp, wp_dUn, wp_dFn, wB_bl, wp_dChain, wp_dTru, wp_dBool, wp_dNot, wp_dAnd, wp_dOr, wp_dAndV, wp_dOrV, wp_dNotV, wp_dIfE, wp_dYes, wp_dCall, wp_dCallK, wp_dIsi, wp_dIsi2, wp_dMt, wp_oN, wI_int, wp_oS, wp_dSl, wp_dSrc, wp_dZip, wp_dRng1, wp_dRng2, wp_dEnum, wp_dLc, wpS_nx, wpS_rt, wpS_bk, wpS_ct, wpS_exc, wpS_bad, wpS_ite, wpS_dSeq, wpS_dNx, wpS_dBk, wpS_dCt, wpS_dDrop, wpS_dRet, wpS_dRetN, wpS_dIf, wpS_dSet, wpS_dAsg, wpS_dPar, wpS_dPut, wpS_dRaise, wpS_dFor, wp_dfn, wO_some, wO_none, wO_map, wO_bind, wO_ite, List.map_cons, List.map_nil, List.replicate_succ, List.replicate_zero, List.cons_append, List.nil_append, Nat.reduceSub, Nat.reduceAdd, List.getElem?_cons_zero, List.getElem?_cons_succ, List.set_cons_zero, List.set_cons_succ, List.length_cons, List.length_nil, tgN, tgNil, tgCons, tgTup, wipeE, isT, String.reduceBEq, Bool.and_false, Bool.false_and, Bool.true_and, Bool.and_true, Bool.or_false, Bool.false_or, Bool.true_or, Bool.or_true, Bool.not_true, Bool.not_false, if_true, if_false, true_and, and_true, Bool.false_eq_true, Bool.true_eq_false, reduceIte, opEq_int, opNe_int, opEq_str, opNe_str, opAdd_int, opSub_int, opMod_pos, opLt_int, opLe_int, opGt_int, opGe_int, opLt_str, opLe_str, opIsN_ref, opIsN_non, opIsN_int, opIsN_tup, opIsN_str, opIsN_bl, opEq_bl, opNe_bl, opFdiv_int, opMul_int, opPow_int, atI_0, atI_1, atI_2, opIx_ref, opIx_tup, opIx_rl, opLen_tup, opLen_str, opLen_rl, opMax2_int, opMin2_int, opInt_int, opInt_bl, tyN_non, tyN_bl, tyN_int, tyN_str, tyN_tup, tyN_rl, truthW_bl, srcW_tup, srcW_rl, srcW_ref gq, lenOk_of (show ps.length ≤ 1000000 by omega)]
    refine wp_mono (more_spec (r := q) (fun S2 f2 => f2.g0 gq) R f.len l2) ?_ (fun _ _ q => q)
    rintro ws S2 ⟨R2, f2⟩
    have gq2 : (S2 ++ [O.lst ws])[q]? = some (.lst ps) := Fr.app.g0 (f2.g0 gq)
    simp only [wp_ok, wp_exc, wp_ret, wp_badM, wp_lift, wp_chk, wp_alloc, wp_grd, wp_tgt, wp_noXe, wp_dVar, wp_dC, wp_aNil, wp_aCons, wp_dTup, wp_dLst, wp_dOp, wp_dUn, wp_dFn, wB_bl, wp_dChain, wp_dTru, wp_dBool, wp_dNot, wp_dAnd, wp_dOr, wp_dAndV, wp_dOrV, wp_dNotV, wp_dIfE, wp_dYes, wp_dCall, wp_dCallK, wp_dIsi, wp_dIsi2, wp_dMt, wp_oN, wI_int, wp_oS, wp_dSl, wp_dSrc, wp_dZip, wp_dRng1, wp_dRng2, wp_dEnum, wp_dLc, wpS_nx, wpS_rt, wpS_bk, wpS_ct, wpS_exc, wpS_bad, wpS_ite, wpS_dSeq, wpS_dNx, wpS_dBk, wpS_dCt, wpS_dDrop, wpS_dRet, wpS_dRetN, wpS_dIf, wpS_dSet, wpS_dAsg, wpS_dPar, wpS_dPut, wpS_dRaise, wpS_dFor, wp_dfn, wO_some, wO_none, wO_map, wO_bind, wO_ite, List.map_cons, List.map_nil, List.replicate_succ, List.replicate_zero, List.cons_append, List.nil_append, Nat.reduceSub, Nat.reduceAdd, List.getElem?_cons_zero, List.getElem?_cons_succ, List.set_cons_zero, List.set_cons_succ, List.length_cons, List.length_nil, tgN, tgNil, tgCons, tgTup, wipeE, isT, String.reduceBEq, Bool.and_false, Bool.false_and, Bool.true_and, Bool.and_true, Bool.or_false, Bool.false_or, Bool.true_or, Bool.or_true, Bool.not_true, Bool.not_false, if_true, if_false, true_and, and_true, Bool.false_eq_true, Bool.true_eq_false, reduceIte, opEq_int, opNe_int, opEq_str, opNe_str, opAdd_int, opSub_int, opMod_pos, opLt_int, opLe_int, opGt_int, opGe_int, opLt_str, opLe_str, opIsN_ref, opIsN_non, opIsN_int, opIsN_tup, opIsN_str, opIsN_bl, opEq_bl, opNe_bl, opFdiv_int, opMul_int, opPow_int, atI_0, atI_1, atI_2, opIx_ref, opIx_tup, opIx_rl, opLen_tup, opLen_str, opLen_rl, opMax2_int, opMin2_int, opInt_int, opInt_bl, tyN_non, tyN_bl, tyN_int, tyN_str, tyN_tup, tyN_rl, truthW_bl, srcW_tup, srcW_rl, srcW_ref gq2, lenOk_of (show ps.length ≤ 1000000 by omega)]
    have hlen := Nat.le_trans f.len f2.len
    refine wp_mono (more_spec (r := q) (fun S2 f2 => f2.g0 gq2) (R.mono ((f2.up (Nat.zero_le _)).snoc)) (by simp; omega) l2) ?_ (fun _ _ q => q)
    rintro us S3 ⟨R3, f3⟩
    have gw : (S3 ++ [O.lst us])[S2.length]? = some (.lst ws) := Fr.app.g0 (f3.g0 get_new)
    have lw : ws.length ≤ 128 := by rw [R2.length, List.length_map, ← R.length]; exact l1
    have lu : us.length ≤ 128 := by rw [R3.length, List.length_map, ← R.length]; exact l1
    rw [opAdd_ref gw get_new (by omega), wO_some]
    have l3 : S.length ≤ S3.length := Nat.le_trans hlen (Nat.le_trans (by simp) f3.len)
    refine ⟨_, ws ++ us, _, _, rfl, by simp; omega, get_new, ?_, f.trans (f2.snoc.trans f3.snoc.snoc)⟩
    exact Rows.append (R3.mono (Fr.app.trans Fr.app)) (R2.mono ((Fr.app.trans (f3.up (Nat.zero_le _))).snoc.snoc))
  · rintro ε S' ⟨q, ps, x0, y0, rfl, hq, gq, R, f⟩
    simp only [wp_ok, wp_exc, wp_ret, wp_badM, wp_lift, wp_chk, wp_alloc, wp_grd, wp_tgt, wp_noXe, wp_dVar, wp_dC, wp_aNil, wp_aCons, wp_dTup, wp_dLst, wp_dOp, wp_dUn, wp_dFn, wB_bl, wp_dChain, wp_dTru, wp_dBool, wp_dNot, wp_dAnd, wp_dOr, wp_dAndV, wp_dOrV, wp_dNotV, wp_dIfE, wp_dYes, wp_dCall, wp_dCallK, wp_dIsi, wp_dIsi2, wp_dMt, wp_oN, wI_int, wp_oS, wp_dSl, wp_dSrc, wp_dZip, wp_dRng1, wp_dRng2, wp_dEnum, wp_dLc, wpS_nx, wpS_rt, wpS_bk, wpS_ct, wpS_exc, wpS_bad, wpS_ite, wpS_dSeq, wpS_dNx, wpS_dBk, wpS_dCt, wpS_dDrop, wpS_dRet, wpS_dRetN, wpS_dIf, wpS_dSet, wpS_dAsg, wpS_dPar, wpS_dPut, wpS_dRaise, wpS_dFor, wp_dfn, wO_some, wO_none, wO_map, wO_bind, wO_ite, List.map_cons, List.map_nil, List.replicate_succ, List.replicate_zero, List.cons_append, List.nil_append, Nat.reduceSub, Nat.reduceAdd, List.getElem?_cons_zero, List.getElem?_cons_succ, List.set_cons_zero, List.set_cons_succ, List.length_cons, List.length_nil, tgN, tgNil, tgCons, tgTup, wipeE, isT, String.reduceBEq, Bool.and_false, Bool.false_and, Bool.true_and, Bool.and_true, Bool.or_false, Bool.false_or, Bool.true_or, Bool.or_true, Bool.not_true, Bool.not_false, if_true, if_false, true_and, and_true, Bool.false_eq_true, Bool.true_eq_false, reduceIte, opEq_int, opNe_int, opEq_str, opNe_str, opAdd_int, opSub_int, opMod_pos, opLt_int, opLe_int, opGt_int, opGe_int, opLt_str, opLe_str, opIsN_ref, opIsN_non, opIsN_int, opIsN_tup, opIsN_str, opIsN_bl, opEq_bl, opNe_bl, opFdiv_int, opMul_int, opPow_int, atI_0, atI_1, atI_2, opIx_ref, opIx_tup, opIx_rl, opLen_tup, opLen_str, opLen_rl, opMax2_int, opMin2_int, opInt_int, opInt_bl, tyN_non, tyN_bl, tyN_int, tyN_str, tyN_tup, tyN_rl, truthW_bl, srcW_tup, srcW_rl]
    rw [rngW_len] at R
    exact ⟨q, ps, rfl, hq, gq, R, f⟩

/-- from day b on, the first open day is t -/
def Spot (bs : List Bool) (b t : Int) : Prop := b ≤ t ∧ (∀ j : Int, b ≤ j → j < t → bs[j.toNat]? = some false) ∧ bs[t.toNat]? ≠ some false
theorem Spot.uniq {bs : List Bool} {b t u : Int} (h1 : Spot bs b t) (h2 : Spot bs b u) : t = u := by
  rcases Int.lt_trichotomy t u with h | h | h
  · exact absurd (h2.2.1 t h1.1 h) h1.2.2
  · exact h
  · exact absurd (h1.2.1 u h2.1 h) h2.2.2
theorem law_agrees_spec {q n : Nat} {bs : List Bool} {es : List Ent} {S : Store} {E : Ex → Store → Prop} (gq : S[q]? = some (.lst (bs.map W.bl))) (gn : S[n]? = some (.lst (es.map eW))) (hl : bs.length ≤ 1000) (h0 : ∀ e ∈ es, 0 ≤ e.2.1) :
    wp (n_law_agrees [.ref q, .ref n] S) (fun r S' => S' = S ∧ ∃ ok : Bool, r = .bl ok ∧ (ok = true ↔ ∀ e ∈ es, Spot bs e.2.1 e.2.2)) E := by
  unfold n_law_agrees d_law_agrees
  simp only [wp_ok, wp_exc, wp_ret, wp_badM, wp_lift, wp_chk, wp_alloc, wp_grd, wp_tgt, wp_noXe, wp_dVar, wp_dC, wp_aNil, wp_aCons, wp_dTup, wp_dLst, wp_dOp, wp_dUn, wp_dFn, wB_bl, wp_dChain, wp_dTru, wp_dBool, wp_dNot, wp_dAnd, wp_dOr, wp_dAndV, wp_dOrV, wp_dNotV, wp_dIfE, wp_dYes, wp_dCall, wp_dCallK, wp_dIsi, wp_dIsi2, wp_dMt, wp_oN, wI_int, wp_oS, wp_dSl, wp_dSrc, wp_dZip, wp_dRng1, wp_dRng2, wp_dEnum, wp_dLc, wpS_nx, wpS_rt, wpS_bk, wpS_ct, wpS_exc, wpS_bad, wpS_ite, wpS_dSeq, wpS_dNx, wpS_dBk, wpS_dCt, wpS_dDrop, wpS_dRet, wpS_dRetN, wpS_dIf, wpS_dSet, wpS_dAsg, wpS_dPar, wpS_dPut, wpS_dRaise, wpS_dFor, wp_dfn, wO_some, wO_none, wO_map, wO_bind, wO_ite, List.map_cons, List.map_nil, List.replicate_succ, List.replicate_zero, List.cons_append, List.nil_append, Nat.reduceSub, Nat.reduceAdd, List.getElem?_cons_zero, List.getElem?_cons_succ, List.set_cons_zero, List.set_cons_succ, List.length_cons, List.length_nil, tgN, tgNil, tgCons, tgTup, wipeE, isT, String.reduceBEq, Bool.and_false, Bool.false_and, Bool.true_and, Bool.and_true, Bool.or_false, Bool.false_or, Bool.true_or, Bool.or_true, Bool.not_true, Bool.not_false, if_true, if_false, true_and, and_true, Bool.false_eq_true, Bool.true_eq_false, reduceIte, opEq_int, opNe_int, opEq_str, opNe_str, opAdd_int, opSub_int, opMod_pos, opLt_int, opLe_int, opGt_int, opGe_int, opLt_str, opLe_str, opIsN_ref, opIsN_non, opIsN_int, opIsN_tup, opIsN_str, opIsN_bl, opEq_bl, opNe_bl, opFdiv_int, opMul_int, opPow_int, atI_0, atI_1, atI_2, opIx_ref, opIx_tup, opIx_rl, opLen_tup, opLen_str, opLen_rl, opMax2_int, opMin2_int, opInt_int, opInt_bl, tyN_non, tyN_bl, tyN_int, tyN_str, tyN_tup, tyN_rl, truthW_bl, srcW_tup, srcW_rl, srcW_ref gn]
  refine wpS_forL (fun i ε S' => S' = S ∧ (∃ a b c d, ε = [some (.ref q), some (.ref n), a, b, c, d]) ∧ ∀ e ∈ es.take i, Spot bs e.2.1 e.2.2) ⟨rfl, ⟨_, _, _, _, rfl⟩, fun e h => by simp at h⟩ (fun _ _ S' _ h => by rw [h.1]; exact gn) ?_ ?_
  · rintro i x ε S' e ⟨rfl, ⟨a, b, c, d, rfl⟩, hs⟩
    rw [List.getElem?_map, Option.map_eq_some_iff] at e
    obtain ⟨en, e1, rfl⟩ := e
    have hb := h0 en (List.mem_of_getElem? e1)
    simp only [wp_ok, wp_exc, wp_ret, wp_badM, wp_lift, wp_chk, wp_alloc, wp_grd, wp_tgt, wp_noXe, wp_dVar, wp_dC, wp_aNil, wp_aCons, wp_dTup, wp_dLst, wp_dOp, wp_dUn, wp_dFn, wB_bl, wp_dChain, wp_dTru, wp_dBool, wp_dNot, wp_dAnd, wp_dOr, wp_dAndV, wp_dOrV, wp_dNotV, wp_dIfE, wp_dYes, wp_dCall, wp_dCallK, wp_dIsi, wp_dIsi2, wp_dMt, wp_oN, wI_int, wp_oS, wp_dSl, wp_dSrc, wp_dZip, wp_dRng1, wp_dRng2, wp_dEnum, wp_dLc, wpS_nx, wpS_rt, wpS_bk, wpS_ct, wpS_exc, wpS_bad, wpS_ite, wpS_dSeq, wpS_dNx, wpS_dBk, wpS_dCt, wpS_dDrop, wpS_dRet, wpS_dRetN, wpS_dIf, wpS_dSet, wpS_dAsg, wpS_dPar, wpS_dPut, wpS_dRaise, wpS_dFor, wp_dfn, wO_some, wO_none, wO_map, wO_bind, wO_ite, List.map_cons, List.map_nil, List.replicate_succ, List.replicate_zero, List.cons_append, List.nil_append, Nat.reduceSub, Nat.reduceAdd, List.getElem?_cons_zero, List.getElem?_cons_succ, List.set_cons_zero, List.set_cons_succ, List.length_cons, List.length_nil, tgN, tgNil, tgCons, tgTup, wipeE, isT, String.reduceBEq, Bool.and_false, Bool.false_and, Bool.true_and, Bool.and_true, Bool.or_false, Bool.false_or, Bool.true_or, Bool.or_true, Bool.not_true, Bool.not_false, if_true, if_false, true_and, and_true, Bool.false_eq_true, Bool.true_eq_false, reduceIte, opEq_int, opNe_int, opEq_str, opNe_str, opAdd_int, opSub_int, opMod_pos, opLt_int, opLe_int, opGt_int, opGe_int, opLt_str, opLe_str, opIsN_ref, opIsN_non, opIsN_int, opIsN_tup, opIsN_str, opIsN_bl, opEq_bl, opNe_bl, opFdiv_int, opMul_int, opPow_int, atI_0, atI_1, atI_2, opIx_ref, opIx_tup, opIx_rl, opLen_tup, opLen_str, opLen_rl, opMax2_int, opMin2_int, opInt_int, opInt_bl, tyN_non, tyN_bl, tyN_int, tyN_str, tyN_tup, tyN_rl, truthW_bl, srcW_tup, srcW_rl]
    refine wpS_dWhile (bs.length - en.2.1.toNat) (fun m ε S2 => S2 = S' ∧ ∃ s : Int, ε = [some (.ref q), some (.ref n), some (.str en.1), some (.int en.2.1), some (.int en.2.2), some (.int s)] ∧ en.2.1 ≤ s ∧ (∀ j : Int, en.2.1 ≤ j → j < s → bs[j.toNat]? = some false) ∧ m = bs.length - s.toNat) (by omega) ⟨rfl, en.2.1, rfl, Int.le_refl _, fun j h1 h2 => absurd h1 (by omega), rfl⟩ ?_
    · rintro m ε S2 ⟨rfl, s, rfl, h1, h2, rfl⟩
      simp only [wp_ok, wp_exc, wp_ret, wp_badM, wp_lift, wp_chk, wp_alloc, wp_grd, wp_tgt, wp_noXe, wp_dVar, wp_dC, wp_aNil, wp_aCons, wp_dTup, wp_dLst, wp_dOp, wp_dUn, wp_dFn, wB_bl, wp_dChain, wp_dTru, wp_dBool, wp_dNot, wp_dAnd, wp_dOr, wp_dAndV, wp_dOrV, wp_dNotV, wp_dIfE, wp_dYes, wp_dCall, wp_dCallK, wp_dIsi, wp_dIsi2, wp_dMt, wp_oN, wI_int, wp_oS, wp_dSl, wp_dSrc, wp_dZip, wp_dRng1, wp_dRng2, wp_dEnum, wp_dLc, wpS_nx, wpS_rt, wpS_bk, wpS_ct, wpS_exc, wpS_bad, wpS_ite, wpS_dSeq, wpS_dNx, wpS_dBk, wpS_dCt, wpS_dDrop, wpS_dRet, wpS_dRetN, wpS_dIf, wpS_dSet, wpS_dAsg, wpS_dPar, wpS_dPut, wpS_dRaise, wpS_dFor, wp_dfn, wO_some, wO_none, wO_map, wO_bind, wO_ite, List.map_cons, List.map_nil, List.replicate_succ, List.replicate_zero, List.cons_append, List.nil_append, Nat.reduceSub, Nat.reduceAdd, List.getElem?_cons_zero, List.getElem?_cons_succ, List.set_cons_zero, List.set_cons_succ, List.length_cons, List.length_nil, tgN, tgNil, tgCons, tgTup, wipeE, isT, String.reduceBEq, Bool.and_false, Bool.false_and, Bool.true_and, Bool.and_true, Bool.or_false, Bool.false_or, Bool.true_or, Bool.or_true, Bool.not_true, Bool.not_false, if_true, if_false, true_and, and_true, Bool.false_eq_true, Bool.true_eq_false, reduceIte, opEq_int, opNe_int, opEq_str, opNe_str, opAdd_int, opSub_int, opMod_pos, opLt_int, opLe_int, opGt_int, opGe_int, opLt_str, opLe_str, opIsN_ref, opIsN_non, opIsN_int, opIsN_tup, opIsN_str, opIsN_bl, opEq_bl, opNe_bl, opFdiv_int, opMul_int, opPow_int, atI_0, atI_1, atI_2, opIx_ref, opIx_tup, opIx_rl, opLen_tup, opLen_str, opLen_rl, opMax2_int, opMin2_int, opInt_int, opInt_bl, tyN_non, tyN_bl, tyN_int, tyN_str, tyN_tup, tyN_rl, truthW_bl, srcW_tup, srcW_rl, opLen_ref gq, List.length_map, lstAt_of gq]
      have out : bs[s.toNat]? ≠ some false → if (!s == en.snd.snd) = true then ∃ ok, W.bl false = W.bl ok ∧ (ok = true ↔ ∀ (e : Ent), e ∈ es → Spot bs e.snd.fst e.snd.snd)
          else (∃ a b c d, [some (W.ref q), some (W.ref n), some (W.str en.fst), some (W.int en.snd.fst), some (W.int en.snd.snd), some (W.int s)] = [some (W.ref q), some (W.ref n), a, b, c, d]) ∧
            ∀ (e : Ent), e ∈ List.take (i + 1) es → Spot bs e.snd.fst e.snd.snd := fun hn => by
        have sp : Spot bs en.2.1 s := ⟨h1, h2, hn⟩
        by_cases e : s = en.2.2
        · rw [if_neg (by simp [e])]
          refine ⟨⟨_, _, _, _, rfl⟩, fun e' he' => ?_⟩
          rw [List.take_succ, e1] at he'
          rcases List.mem_append.mp he' with h | h
          · exact hs e' h
          · have : e' = en := by simpa using h
            rw [this, ← e]; exact sp
        · rw [if_pos (by simp [e])]
          refine ⟨false, rfl, ?_⟩
          simp only [Bool.false_eq_true, false_iff]
          exact fun h => e (sp.uniq (h en (List.mem_of_getElem? e1)))
      have s0 : 0 ≤ s := Int.le_trans hb h1
      rw [if_pos (decide_eq_true s0)]
      by_cases hlt : s < bs.length
      · have ls : s.toNat < bs.length := by omega
        rw [if_pos (decide_eq_true hlt), atI_nn s0, List.getElem?_map, List.getElem?_eq_getElem ls, Option.map_some, wO_some, truthW_bl, wO_some]
        cases z : bs[s.toNat] with
        | true =>
          rw [if_neg (by decide)]
          exact out (by rw [List.getElem?_eq_getElem ls, z]; decide)
        | false =>
          rw [if_pos (by decide)]
          refine ⟨_, by omega, s + 1, rfl, by omega, fun j a b => ?_, rfl⟩
          by_cases e : j = s
          · rw [e, List.getElem?_eq_getElem ls, z]
          · exact h2 j a (by omega)
      · rw [if_neg (by simpa using hlt)]
        exact out (by rw [List.getElem?_eq_none (by omega)]; decide)
  · rintro ε S' ⟨rfl, ⟨a, b, c, d, rfl⟩, hs⟩
    simp only [wp_ok, wp_exc, wp_ret, wp_badM, wp_lift, wp_chk, wp_alloc, wp_grd, wp_tgt, wp_noXe, wp_dVar, wp_dC, wp_aNil, wp_aCons, wp_dTup, wp_dLst, wp_dOp, wp_dUn, wp_dFn, wB_bl, wp_dChain, wp_dTru, wp_dBool, wp_dNot, wp_dAnd, wp_dOr, wp_dAndV, wp_dOrV, wp_dNotV, wp_dIfE, wp_dYes, wp_dCall, wp_dCallK, wp_dIsi, wp_dIsi2, wp_dMt, wp_oN, wI_int, wp_oS, wp_dSl, wp_dSrc, wp_dZip, wp_dRng1, wp_dRng2, wp_dEnum, wp_dLc, wpS_nx, wpS_rt, wpS_bk, wpS_ct, wpS_exc, wpS_bad, wpS_ite, wpS_dSeq, wpS_dNx, wpS_dBk, wpS_dCt, wpS_dDrop, wpS_dRet, wpS_dRetN, wpS_dIf, wpS_dSet, wpS_dAsg, wpS_dPar, wpS_dPut, wpS_dRaise, wpS_dFor, wp_dfn, wO_some, wO_none, wO_map, wO_bind, wO_ite, List.map_cons, List.map_nil, List.replicate_succ, List.replicate_zero, List.cons_append, List.nil_append, Nat.reduceSub, Nat.reduceAdd, List.getElem?_cons_zero, List.getElem?_cons_succ, List.set_cons_zero, List.set_cons_succ, List.length_cons, List.length_nil, tgN, tgNil, tgCons, tgTup, wipeE, isT, String.reduceBEq, Bool.and_false, Bool.false_and, Bool.true_and, Bool.and_true, Bool.or_false, Bool.false_or, Bool.true_or, Bool.or_true, Bool.not_true, Bool.not_false, if_true, if_false, true_and, and_true, Bool.false_eq_true, Bool.true_eq_false, reduceIte, opEq_int, opNe_int, opEq_str, opNe_str, opAdd_int, opSub_int, opMod_pos, opLt_int, opLe_int, opGt_int, opGe_int, opLt_str, opLe_str, opIsN_ref, opIsN_non, opIsN_int, opIsN_tup, opIsN_str, opIsN_bl, opEq_bl, opNe_bl, opFdiv_int, opMul_int, opPow_int, atI_0, atI_1, atI_2, opIx_ref, opIx_tup, opIx_rl, opLen_tup, opLen_str, opLen_rl, opMax2_int, opMin2_int, opInt_int, opInt_bl, tyN_non, tyN_bl, tyN_int, tyN_str, tyN_tup, tyN_rl, truthW_bl, srcW_tup, srcW_rl]
    rw [List.length_map, List.take_length] at hs
    exact ⟨true, rfl, by simpa using hs⟩

/-! ### entries -/
theorem some_days_spec {B m d : Nat} {S : Store} {E : Ex → Store → Prop} (D : Deck B m d S) (hm : m < 10000) : wp (n_law_some_days [.ref d, .int 7] S) (fun r S' => ∃ (q : Nat) (bs : List Bool), r = .ref q ∧ B ≤ q ∧ S'[q]? = some (.lst (bs.map W.bl)) ∧ bs.length = 7 ∧ Deck B (m + 7) d S' ∧ Fr B S S') E := by
  unfold n_law_some_days d_law_some_days
  simp only [wp_ok, wp_exc, wp_ret, wp_badM, wp_lift, wp_chk, wp_alloc, wp_grd, wp_tgt, wp_noXe, wp_dVar, wp_dC, wp_aNil, wp_aCons, wp_dTup, wp_dLst, wp_dOp, wp_dUn, wp_dFn, wB_bl, wp_dChain, wp_dTru, wp_dBool, wp_dNot, wp_dAnd, wp_dOr, wp_dAndV, wp_dOrV, wp_dNotV, wp_dIfE, wp_dYes, wp_dCall, wp_dCallK, wp_dIsi, wp_dIsi2, wp_dMt, wp_oN, wI_int, wp_oS, wp_dSl, wp_dSrc, wp_dZip, wp_dRng1, wp_dRng2, wp_dEnum, wp_dLc, wpS_nx, wpS_rt, wpS_bk, wpS_ct, wpS_exc, wpS_bad, wpS_ite, wpS_dSeq, wpS_dNx, wpS_dBk, wpS_dCt, wpS_dDrop, wpS_dRet, wpS_dRetN, wpS_dIf, wpS_dSet, wpS_dAsg, wpS_dPar, wpS_dPut, wpS_dRaise, wpS_dFor, wp_dfn, wO_some, wO_none, wO_map, wO_bind, wO_ite, List.map_cons, List.map_nil, List.replicate_succ, List.replicate_zero, List.cons_append, List.nil_append, Nat.reduceSub, Nat.reduceAdd, List.getElem?_cons_zero, List.getElem?_cons_succ, List.set_cons_zero, List.set_cons_succ, List.length_cons, List.length_nil, tgN, tgNil, tgCons, tgTup, wipeE, isT, String.reduceBEq, Bool.and_false, Bool.false_and, Bool.true_and, Bool.and_true, Bool.or_false, Bool.false_or, Bool.true_or, Bool.or_true, Bool.not_true, Bool.not_false, if_true, if_false, true_and, and_true, Bool.false_eq_true, Bool.true_eq_false, reduceIte, opEq_int, opNe_int, opEq_str, opNe_str, opAdd_int, opSub_int, opMod_pos, opLt_int, opLe_int, opGt_int, opGe_int, opLt_str, opLe_str, opIsN_ref, opIsN_non, opIsN_int, opIsN_tup, opIsN_str, opIsN_bl, opEq_bl, opNe_bl, opFdiv_int, opMul_int, opPow_int, atI_0, atI_1, atI_2, opIx_ref, opIx_tup, opIx_rl, opLen_tup, opLen_str, opLen_rl, opMax2_int, opMin2_int, opInt_int, opInt_bl, tyN_non, tyN_bl, tyN_int, tyN_str, tyN_tup, tyN_rl, truthW_bl, srcW_tup, srcW_rl, rngW_len]
  refine ⟨by decide, lenOk_of (by decide), ?_⟩
  refine wp_mono (wp_lcL (acc := []) (fun i acc S' => (∃ bs : List Bool, acc = bs.map W.bl ∧ bs.length = i) ∧ Deck B (m + i) d S' ∧ Fr B S S' ∧ i ≤ 7) ⟨⟨[], rfl, rfl⟩, D, Fr.refl, Nat.zero_le _⟩ (fun _ _ _ _ _ => trivial) ?_) ?_ (fun _ _ q => q)
  · rintro i x acc S' e ⟨⟨bs, rfl, hl⟩, D', f, hi⟩
    obtain ⟨hi, rfl⟩ := rngW_get e
    have hi : i < 7 := by simpa using hi
    simp only [wp_ok, wp_exc, wp_ret, wp_badM, wp_lift, wp_chk, wp_alloc, wp_grd, wp_tgt, wp_noXe, wp_dVar, wp_dC, wp_aNil, wp_aCons, wp_dTup, wp_dLst, wp_dOp, wp_dUn, wp_dFn, wB_bl, wp_dChain, wp_dTru, wp_dBool, wp_dNot, wp_dAnd, wp_dOr, wp_dAndV, wp_dOrV, wp_dNotV, wp_dIfE, wp_dYes, wp_dCall, wp_dCallK, wp_dIsi, wp_dIsi2, wp_dMt, wp_oN, wI_int, wp_oS, wp_dSl, wp_dSrc, wp_dZip, wp_dRng1, wp_dRng2, wp_dEnum, wp_dLc, wpS_nx, wpS_rt, wpS_bk, wpS_ct, wpS_exc, wpS_bad, wpS_ite, wpS_dSeq, wpS_dNx, wpS_dBk, wpS_dCt, wpS_dDrop, wpS_dRet, wpS_dRetN, wpS_dIf, wpS_dSet, wpS_dAsg, wpS_dPar, wpS_dPut, wpS_dRaise, wpS_dFor, wp_dfn, wO_some, wO_none, wO_map, wO_bind, wO_ite, List.map_cons, List.map_nil, List.replicate_succ, List.replicate_zero, List.cons_append, List.nil_append, Nat.reduceSub, Nat.reduceAdd, List.getElem?_cons_zero, List.getElem?_cons_succ, List.set_cons_zero, List.set_cons_succ, List.length_cons, List.length_nil, tgN, tgNil, tgCons, tgTup, wipeE, isT, String.reduceBEq, Bool.and_false, Bool.false_and, Bool.true_and, Bool.and_true, Bool.or_false, Bool.false_or, Bool.true_or, Bool.or_true, Bool.not_true, Bool.not_false, if_true, if_false, true_and, and_true, Bool.false_eq_true, Bool.true_eq_false, reduceIte, opEq_int, opNe_int, opEq_str, opNe_str, opAdd_int, opSub_int, opMod_pos, opLt_int, opLe_int, opGt_int, opGe_int, opLt_str, opLe_str, opIsN_ref, opIsN_non, opIsN_int, opIsN_tup, opIsN_str, opIsN_bl, opEq_bl, opNe_bl, opFdiv_int, opMul_int, opPow_int, atI_0, atI_1, atI_2, opIx_ref, opIx_tup, opIx_rl, opLen_tup, opLen_str, opLen_rl, opMax2_int, opMin2_int, opInt_int, opInt_bl, tyN_non, tyN_bl, tyN_int, tyN_str, tyN_tup, tyN_rl, truthW_bl, srcW_tup, srcW_rl]
    refine wp_mono (draw_spec D' (by omega) (by decide) (by decide)) ?_ (fun _ _ q => q)
    rintro r S2 ⟨k, rfl, h0, h1, D2, f2, l2⟩
    simp only [wp_ok, wp_exc, wp_ret, wp_badM, wp_lift, wp_chk, wp_alloc, wp_grd, wp_tgt, wp_noXe, wp_dVar, wp_dC, wp_aNil, wp_aCons, wp_dTup, wp_dLst, wp_dOp, wp_dUn, wp_dFn, wB_bl, wp_dChain, wp_dTru, wp_dBool, wp_dNot, wp_dAnd, wp_dOr, wp_dAndV, wp_dOrV, wp_dNotV, wp_dIfE, wp_dYes, wp_dCall, wp_dCallK, wp_dIsi, wp_dIsi2, wp_dMt, wp_oN, wI_int, wp_oS, wp_dSl, wp_dSrc, wp_dZip, wp_dRng1, wp_dRng2, wp_dEnum, wp_dLc, wpS_nx, wpS_rt, wpS_bk, wpS_ct, wpS_exc, wpS_bad, wpS_ite, wpS_dSeq, wpS_dNx, wpS_dBk, wpS_dCt, wpS_dDrop, wpS_dRet, wpS_dRetN, wpS_dIf, wpS_dSet, wpS_dAsg, wpS_dPar, wpS_dPut, wpS_dRaise, wpS_dFor, wp_dfn, wO_some, wO_none, wO_map, wO_bind, wO_ite, List.map_cons, List.map_nil, List.replicate_succ, List.replicate_zero, List.cons_append, List.nil_append, Nat.reduceSub, Nat.reduceAdd, List.getElem?_cons_zero, List.getElem?_cons_succ, List.set_cons_zero, List.set_cons_succ, List.length_cons, List.length_nil, tgN, tgNil, tgCons, tgTup, wipeE, isT, String.reduceBEq, Bool.and_false, Bool.false_and, Bool.true_and, Bool.and_true, Bool.or_false, Bool.false_or, Bool.true_or, Bool.or_true, Bool.not_true, Bool.not_false, if_true, if_false, true_and, and_true, Bool.false_eq_true, Bool.true_eq_false, reduceIte, opEq_int, opNe_int, opEq_str, opNe_str, opAdd_int, opSub_int, opMod_pos, opLt_int, opLe_int, opGt_int, opGe_int, opLt_str, opLe_str, opIsN_ref, opIsN_non, opIsN_int, opIsN_tup, opIsN_str, opIsN_bl, opEq_bl, opNe_bl, opFdiv_int, opMul_int, opPow_int, atI_0, atI_1, atI_2, opIx_ref, opIx_tup, opIx_rl, opLen_tup, opLen_str, opLen_rl, opMax2_int, opMin2_int, opInt_int, opInt_bl, tyN_non, tyN_bl, tyN_int, tyN_str, tyN_tup, tyN_rl, truthW_bl, srcW_tup, srcW_rl]
    exact ⟨⟨bs ++ [k == 0], by simp, by simp [hl]⟩, D2, f.trans f2, hi⟩
  · rintro ws S' ⟨⟨bs, e, hl⟩, D', f, hi⟩
    simp only [List.nil_append] at e
    subst e
    rw [rngW_len] at hl D'
    exact ⟨S'.length, bs, rfl, D'.bl, get_new, hl, D'.mono (Nat.le_refl _) Fr.app, f.snoc⟩
end K49
/-! K49r: entries, the law. -/
namespace K49
open PySem L2 N
def nm3 : List Str := ["ny", "a", "ldn"]
structure EOk (m : Nat) (e : Ent) : Prop where
  name : e.1 ∈ nm3.take m
  b0 : 0 ≤ e.2.1
  le : e.2.1 ≤ e.2.2
  t6 : e.2.2 ≤ 6
theorem cut_names {m : Nat} (hm : m ≤ 3) : cutL [W.str "ny", W.str "a", W.str "ldn"] none (some (m : Int)) = (nm3.take m).map W.str := by
  unfold cutL
  rw [HT.sIx_none, HT.sIx_nat, List.drop_zero, Nat.sub_zero]
  show List.take (min m 3) (nm3.map W.str) = _
  rw [Nat.min_eq_left hm, List.map_take]
def EInv (B n d m : Nat) (T : Store) (a b : Nat) (i : Nat) (ε : Ev) (S' : Store) : Prop := ∃ (es : List Ent) (x7 x8 x9 x10 x11 : Option W), ε = [some (.ref d), some (.int m), some (.int 7), some (.int 8), some (.ref a), some (.ref b), some (.ref T.length), x7, x8, x9, x10, x11] ∧
      S'[T.length]? = some (.lst (es.map eW)) ∧ es.length = i ∧ (∀ e ∈ es, EOk m e) ∧ Deck B (n + 4 * i) d S' ∧ Fr B T S'
theorem law_entries_spec {B n d m : Nat} {S : Store} {E : Ex → Store → Prop} (D : Deck B n d S) (hn : n < 5000) (hm1 : 1 ≤ m) (hm : m ≤ 3) : wp (n_law_entries [.ref d, .int m, .int 7, .int 8] S)
    (fun r S' => ∃ (q : Nat) (es : List Ent), r = .ref q ∧ B ≤ q ∧ S'[q]? = some (.lst (es.map eW)) ∧ es.length ≤ 8 ∧ (∀ e ∈ es, EOk m e) ∧ Deck B (n + 60) d S' ∧ Fr B S S') E := by
  unfold n_law_entries d_law_entries
  have e1 : opSl (.ref S.length) none (some (m : Int)) (S ++ [O.lst [W.str "ny", W.str "a", W.str "ldn"]]) = some (.ref (S.length + 1), S ++ [O.lst [W.str "ny", W.str "a", W.str "ldn"]] ++ [O.lst ((nm3.take m).map W.str)]) := by
    rw [opSl_ref get_new, cut_names hm]
    simp
  simp only [wp_ok, wp_exc, wp_ret, wp_badM, wp_lift, wp_chk, wp_alloc, wp_grd, wp_tgt, wp_noXe, wp_dVar, wp_dC, wp_aNil, wp_aCons, wp_dTup, wp_dLst, wp_dOp, wp_dUn, wp_dFn, wB_bl, wp_dChain, wp_dTru, wp_dBool, wp_dNot, wp_dAnd, wp_dOr, wp_dAndV, wp_dOrV, wp_dNotV, wp_dIfE, wp_dYes, wp_dCall, wp_dCallK, wp_dIsi, wp_dIsi2, wp_dMt, wp_oN, wI_int, wp_oS, wp_dSl, wp_dSrc, wp_dZip, wp_dRng1, wp_dRng2, wp_dEnum, wp_dLc, wpS_nx, wpS_rt, wpS_bk, wpS_ct, wpS_exc, wpS_bad, wpS_ite, wpS_dSeq, wpS_dNx, wpS_dBk, wpS_dCt, wpS_dDrop, wpS_dRet, wpS_dRetN, wpS_dIf, wpS_dSet, wpS_dAsg, wpS_dPar, wpS_dPut, wpS_dRaise, wpS_dFor, wp_dfn, wO_some, wO_none, wO_map, wO_bind, wO_ite, List.map_cons, List.map_nil, List.replicate_succ, List.replicate_zero, List.cons_append, List.nil_append, Nat.reduceSub, Nat.reduceAdd, List.getElem?_cons_zero, List.getElem?_cons_succ, List.set_cons_zero, List.set_cons_succ, List.length_cons, List.length_nil, tgN, tgNil, tgCons, tgTup, wipeE, isT, String.reduceBEq, Bool.and_false, Bool.false_and, Bool.true_and, Bool.and_true, Bool.or_false, Bool.false_or, Bool.true_or, Bool.or_true, Bool.not_true, Bool.not_false, if_true, if_false, true_and, and_true, Bool.false_eq_true, Bool.true_eq_false, reduceIte, opEq_int, opNe_int, opEq_str, opNe_str, opAdd_int, opSub_int, opMod_pos, opLt_int, opLe_int, opGt_int, opGe_int, opLt_str, opLe_str, opIsN_ref, opIsN_non, opIsN_int, opIsN_tup, opIsN_str, opIsN_bl, opEq_bl, opNe_bl, opFdiv_int, opMul_int, opPow_int, atI_0, atI_1, atI_2, opIx_ref, opIx_tup, opIx_rl, opLen_tup, opLen_str, opLen_rl, opMax2_int, opMin2_int, opInt_int, opInt_bl, tyN_non, tyN_bl, tyN_int, tyN_str, tyN_tup, tyN_rl, truthW_bl, srcW_tup, srcW_rl, lenOk_of (show 3 ≤ 1000000 by decide), e1]
  have g1 : (S ++ [O.lst [W.str "ny", W.str "a", W.str "ldn"]] ++ [O.lst ((nm3.take m).map W.str)])[S.length + 1]? = some (.lst ((nm3.take m).map W.str)) := by
    rw [show S.length + 1 = (S ++ [O.lst [W.str "ny", W.str "a", W.str "ldn"]]).length by simp]; exact get_new
  have f1 : Fr B S (S ++ [O.lst [W.str "ny", W.str "a", W.str "ldn"]] ++ [O.lst ((nm3.take m).map W.str)]) := Fr.app.snoc
  have D1 := D.mono (Nat.le_refl _) ((Fr.app (B := 0) (S := S) (T := [O.lst [W.str "ny", W.str "a", W.str "ldn"]])).snoc (T := [O.lst ((nm3.take m).map W.str)]))
  have hB := D.bl
  generalize S ++ [O.lst [W.str "ny", W.str "a", W.str "ldn"]] ++ [O.lst ((nm3.take m).map W.str)] = S1 at g1 f1 D1 ⊢
  have ln : (nm3.take m).length = m := by rw [List.length_take]; show min m 3 = m; omega
  simp only [srcW_ref g1, wO_some, List.length_map, ln, lenOk_of (show m ≤ 1000000 by omega), true_and]
  refine wp_mono (wp_lcL (acc := []) (fun i acc S' => (∃ bss, Rows B S' acc bss ∧ bss.length = i ∧ ∀ bs ∈ bss, bs.length = 7) ∧ Deck B (n + 7 * i) d S' ∧ Fr B S1 S' ∧ i ≤ m) ⟨⟨[], .nil, rfl, fun _ h => by simp at h⟩, D1, Fr.refl, Nat.zero_le _⟩ (fun _ _ S' _ h => h.2.2.1.get _ _ (by omega) g1) ?_) ?_ (fun _ _ q => q)
  · rintro i x acc S' e ⟨⟨bss, R, hl, h7⟩, D', f, hi⟩
    have hi : i < m := by
      have := (List.getElem?_eq_some_iff.mp e).1
      rw [List.length_map, ln] at this; exact this
    simp only [wp_ok, wp_exc, wp_ret, wp_badM, wp_lift, wp_chk, wp_alloc, wp_grd, wp_tgt, wp_noXe, wp_dVar, wp_dC, wp_aNil, wp_aCons, wp_dTup, wp_dLst, wp_dOp, wp_dUn, wp_dFn, wB_bl, wp_dChain, wp_dTru, wp_dBool, wp_dNot, wp_dAnd, wp_dOr, wp_dAndV, wp_dOrV, wp_dNotV, wp_dIfE, wp_dYes, wp_dCall, wp_dCallK, wp_dIsi, wp_dIsi2, wp_dMt, wp_oN, wI_int, wp_oS, wp_dSl, wp_dSrc, wp_dZip, wp_dRng1, wp_dRng2, wp_dEnum, wp_dLc, wpS_nx, wpS_rt, wpS_bk, wpS_ct, wpS_exc, wpS_bad, wpS_ite, wpS_dSeq, wpS_dNx, wpS_dBk, wpS_dCt, wpS_dDrop, wpS_dRet, wpS_dRetN, wpS_dIf, wpS_dSet, wpS_dAsg, wpS_dPar, wpS_dPut, wpS_dRaise, wpS_dFor, wp_dfn, wO_some, wO_none, wO_map, wO_bind, wO_ite, List.map_cons, List.map_nil, List.replicate_succ, List.replicate_zero, List.cons_append, List.nil_append, Nat.reduceSub, Nat.reduceAdd, List.getElem?_cons_zero, List.getElem?_cons_succ, List.set_cons_zero, List.set_cons_succ, List.length_cons, List.length_nil, tgN, tgNil, tgCons, tgTup, wipeE, isT, String.reduceBEq, Bool.and_false, Bool.false_and, Bool.true_and, Bool.and_true, Bool.or_false, Bool.false_or, Bool.true_or, Bool.or_true, Bool.not_true, Bool.not_false, if_true, if_false, true_and, and_true, Bool.false_eq_true, Bool.true_eq_false, reduceIte, opEq_int, opNe_int, opEq_str, opNe_str, opAdd_int, opSub_int, opMod_pos, opLt_int, opLe_int, opGt_int, opGe_int, opLt_str, opLe_str, opIsN_ref, opIsN_non, opIsN_int, opIsN_tup, opIsN_str, opIsN_bl, opEq_bl, opNe_bl, opFdiv_int, opMul_int, opPow_int, atI_0, atI_1, atI_2, opIx_ref, opIx_tup, opIx_rl, opLen_tup, opLen_str, opLen_rl, opMax2_int, opMin2_int, opInt_int, opInt_bl, tyN_non, tyN_bl, tyN_int, tyN_str, tyN_tup, tyN_rl, truthW_bl, srcW_tup, srcW_rl]
    refine wp_mono (some_days_spec D' (by omega)) ?_ (fun _ _ q => q)
    rintro r S2 ⟨q, bs, rfl, hq, gq, lq, D2, f2⟩
    refine ⟨⟨bss ++ [bs], Rows.append (.cons hq gq .nil) (R.mono f2), by simp [hl], fun b hb => ?_⟩, D2, f.trans f2, hi⟩
    rcases List.mem_append.mp hb with h | h
    · exact h7 b h
    · rw [List.mem_singleton.mp h]; exact lq
  · rintro ws S2 ⟨⟨bss, R, hl, h7⟩, D2, f2, _⟩
    simp only [List.nil_append] at R
    simp only [List.length_map, ln] at hl D2
    simp only [wp_ok, wp_exc, wp_ret, wp_badM, wp_lift, wp_chk, wp_alloc, wp_grd, wp_tgt, wp_noXe, wp_dVar, wp_dC, wp_aNil, wp_aCons, wp_dTup, wp_dLst, wp_dOp, wp_dUn, wp_dFn, wB_bl, wp_dChain, wp_dTru, wp_dBool, wp_dNot, wp_dAnd, wp_dOr, wp_dAndV, wp_dOrV, wp_dNotV, wp_dIfE, wp_dYes, wp_dCall, wp_dCallK, wp_dIsi, wp_dIsi2, wp_dMt, wp_oN, wI_int, wp_oS, wp_dSl, wp_dSrc, wp_dZip, wp_dRng1, wp_dRng2, wp_dEnum, wp_dLc, wpS_nx, wpS_rt, wpS_bk, wpS_ct, wpS_exc, wpS_bad, wpS_ite, wpS_dSeq, wpS_dNx, wpS_dBk, wpS_dCt, wpS_dDrop, wpS_dRet, wpS_dRetN, wpS_dIf, wpS_dSet, wpS_dAsg, wpS_dPar, wpS_dPut, wpS_dRaise, wpS_dFor, wp_dfn, wO_some, wO_none, wO_map, wO_bind, wO_ite, List.map_cons, List.map_nil, List.replicate_succ, List.replicate_zero, List.cons_append, List.nil_append, Nat.reduceSub, Nat.reduceAdd, List.getElem?_cons_zero, List.getElem?_cons_succ, List.set_cons_zero, List.set_cons_succ, List.length_cons, List.length_nil, tgN, tgNil, tgCons, tgTup, wipeE, isT, String.reduceBEq, Bool.and_false, Bool.false_and, Bool.true_and, Bool.and_true, Bool.or_false, Bool.false_or, Bool.true_or, Bool.or_true, Bool.not_true, Bool.not_false, if_true, if_false, true_and, and_true, Bool.false_eq_true, Bool.true_eq_false, reduceIte, opEq_int, opNe_int, opEq_str, opNe_str, opAdd_int, opSub_int, opMod_pos, opLt_int, opLe_int, opGt_int, opGe_int, opLt_str, opLe_str, opIsN_ref, opIsN_non, opIsN_int, opIsN_tup, opIsN_str, opIsN_bl, opEq_bl, opNe_bl, opFdiv_int, opMul_int, opPow_int, atI_0, atI_1, atI_2, opIx_ref, opIx_tup, opIx_rl, opLen_tup, opLen_str, opLen_rl, opMax2_int, opMin2_int, opInt_int, opInt_bl, tyN_non, tyN_bl, tyN_int, tyN_str, tyN_tup, tyN_rl, truthW_bl, srcW_tup, srcW_rl, lenOk_of (show 0 ≤ 1000000 by decide)]
    have D3 := D2.mono (Nat.le_refl _) (Fr.app (B := 0) (S := S2) (T := [O.lst ws]))
    have f3 : Fr B S (S2 ++ [O.lst ws]) := f1.trans f2.snoc
    have gn : (S2 ++ [O.lst ws])[S.length + 1]? = some (.lst ((nm3.take m).map W.str)) := Fr.app.g0 (f2.get _ _ (by omega) g1)
    have gr : (S2 ++ [O.lst ws])[S2.length]? = some (.lst ws) := get_new
    have R3 : Rows B (S2 ++ [O.lst ws]) ws bss := R.mono Fr.app
    have b2 := D2.bl
    have b3 := D3.bl
    generalize S2 ++ [O.lst ws] = T at f3 gn gr D3 R3 b3 ⊢
    refine wp_mono (draw_spec (D3.mono (Nat.le_refl _) Fr.app) (by omega) (by decide) (by decide)) ?_ (fun _ _ q => q)
    rintro r S4 ⟨k, rfl, k0, k1, D4, f4, l4⟩
    simp only [wp_ok, wp_exc, wp_ret, wp_badM, wp_lift, wp_chk, wp_alloc, wp_grd, wp_tgt, wp_noXe, wp_dVar, wp_dC, wp_aNil, wp_aCons, wp_dTup, wp_dLst, wp_dOp, wp_dUn, wp_dFn, wB_bl, wp_dChain, wp_dTru, wp_dBool, wp_dNot, wp_dAnd, wp_dOr, wp_dAndV, wp_dOrV, wp_dNotV, wp_dIfE, wp_dYes, wp_dCall, wp_dCallK, wp_dIsi, wp_dIsi2, wp_dMt, wp_oN, wI_int, wp_oS, wp_dSl, wp_dSrc, wp_dZip, wp_dRng1, wp_dRng2, wp_dEnum, wp_dLc, wpS_nx, wpS_rt, wpS_bk, wpS_ct, wpS_exc, wpS_bad, wpS_ite, wpS_dSeq, wpS_dNx, wpS_dBk, wpS_dCt, wpS_dDrop, wpS_dRet, wpS_dRetN, wpS_dIf, wpS_dSet, wpS_dAsg, wpS_dPar, wpS_dPut, wpS_dRaise, wpS_dFor, wp_dfn, wO_some, wO_none, wO_map, wO_bind, wO_ite, List.map_cons, List.map_nil, List.replicate_succ, List.replicate_zero, List.cons_append, List.nil_append, Nat.reduceSub, Nat.reduceAdd, List.getElem?_cons_zero, List.getElem?_cons_succ, List.set_cons_zero, List.set_cons_succ, List.length_cons, List.length_nil, tgN, tgNil, tgCons, tgTup, wipeE, isT, String.reduceBEq, Bool.and_false, Bool.false_and, Bool.true_and, Bool.and_true, Bool.or_false, Bool.false_or, Bool.true_or, Bool.or_true, Bool.not_true, Bool.not_false, if_true, if_false, true_and, and_true, Bool.false_eq_true, Bool.true_eq_false, reduceIte, opEq_int, opNe_int, opEq_str, opNe_str, opAdd_int, opSub_int, opMod_pos, opLt_int, opLe_int, opGt_int, opGe_int, opLt_str, opLe_str, opIsN_ref, opIsN_non, opIsN_int, opIsN_tup, opIsN_str, opIsN_bl, opEq_bl, opNe_bl, opFdiv_int, opMul_int, opPow_int, atI_0, atI_1, atI_2, opIx_ref, opIx_tup, opIx_rl, opLen_tup, opLen_str, opLen_rl, opMax2_int, opMin2_int, opInt_int, opInt_bl, tyN_non, tyN_bl, tyN_int, tyN_str, tyN_tup, tyN_rl, truthW_bl, srcW_tup, srcW_rl]
    refine ⟨by unfold bnd; exact decide_eq_true (by omega), ?_⟩
    refine wpS_forL (EInv B (n + 7 * m + 1) d m T (S.length + 1) S2.length) ?_ ?_ ?_ ?_
    · exact ⟨[], _, _, _, _, _, rfl, f4.get _ _ b3 get_new, rfl, fun _ h => by simp at h, D4, Fr.app.trans f4⟩
    · intros; trivial
    · rintro i x ε S' e ⟨es, x7, x8, x9, x10, x11, rfl, gf, hes, hok, D5, f5⟩
      obtain ⟨hi, rfl⟩ := rngW_get e
      simp only [wp_ok, wp_exc, wp_ret, wp_badM, wp_lift, wp_chk, wp_alloc, wp_grd, wp_tgt, wp_noXe, wp_dVar, wp_dC, wp_aNil, wp_aCons, wp_dTup, wp_dLst, wp_dOp, wp_dUn, wp_dFn, wB_bl, wp_dChain, wp_dTru, wp_dBool, wp_dNot, wp_dAnd, wp_dOr, wp_dAndV, wp_dOrV, wp_dNotV, wp_dIfE, wp_dYes, wp_dCall, wp_dCallK, wp_dIsi, wp_dIsi2, wp_dMt, wp_oN, wI_int, wp_oS, wp_dSl, wp_dSrc, wp_dZip, wp_dRng1, wp_dRng2, wp_dEnum, wp_dLc, wpS_nx, wpS_rt, wpS_bk, wpS_ct, wpS_exc, wpS_bad, wpS_ite, wpS_dSeq, wpS_dNx, wpS_dBk, wpS_dCt, wpS_dDrop, wpS_dRet, wpS_dRetN, wpS_dIf, wpS_dSet, wpS_dAsg, wpS_dPar, wpS_dPut, wpS_dRaise, wpS_dFor, wp_dfn, wO_some, wO_none, wO_map, wO_bind, wO_ite, List.map_cons, List.map_nil, List.replicate_succ, List.replicate_zero, List.cons_append, List.nil_append, Nat.reduceSub, Nat.reduceAdd, List.getElem?_cons_zero, List.getElem?_cons_succ, List.set_cons_zero, List.set_cons_succ, List.length_cons, List.length_nil, tgN, tgNil, tgCons, tgTup, wipeE, isT, String.reduceBEq, Bool.and_false, Bool.false_and, Bool.true_and, Bool.and_true, Bool.or_false, Bool.false_or, Bool.true_or, Bool.or_true, Bool.not_true, Bool.not_false, if_true, if_false, true_and, and_true, Bool.false_eq_true, Bool.true_eq_false, reduceIte, opEq_int, opNe_int, opEq_str, opNe_str, opAdd_int, opSub_int, opMod_pos, opLt_int, opLe_int, opGt_int, opGe_int, opLt_str, opLe_str, opIsN_ref, opIsN_non, opIsN_int, opIsN_tup, opIsN_str, opIsN_bl, opEq_bl, opNe_bl, opFdiv_int, opMul_int, opPow_int, atI_0, atI_1, atI_2, opIx_ref, opIx_tup, opIx_rl, opLen_tup, opLen_str, opLen_rl, opMax2_int, opMin2_int, opInt_int, opInt_bl, tyN_non, tyN_bl, tyN_int, tyN_str, tyN_tup, tyN_rl, truthW_bl, srcW_tup, srcW_rl]
      refine wp_mono (draw_spec D5 (by omega) (by omega) (by omega)) ?_ (fun _ _ q => q)
      rintro r S6 ⟨pos, rfl, a0, a1, D6, f6, l6⟩
      refine wp_mono (draw_spec D6 (by omega) (by omega) (by omega)) ?_ (fun _ _ q => q)
      rintro r S7 ⟨b, rfl, b0, b1, D7, f7, l7⟩
      have ff := f6.trans f7
      have f8 := f5.trans ff
      have gf7 := ff.get _ _ b3 gf
      have gr7 := f8.get _ _ b2 gr
      have R7 := R3.mono f8
      obtain ⟨w, hw⟩ : ∃ w, ws[pos.toNat]? = some w := by
        have : pos.toNat < ws.length := by rw [R7.length]; omega
        exact ⟨_, List.getElem?_eq_getElem this⟩
      obtain ⟨q, bs, rfl, hbs, hq, gq⟩ := R7.get hw
      have lbs := h7 bs (List.mem_of_getElem? hbs)
      have hnm : ∃ x, (nm3.take m)[pos.toNat]? = some x ∧ x ∈ nm3.take m := by
        have : pos.toNat < (nm3.take m).length := by rw [ln]; omega
        exact ⟨_, List.getElem?_eq_getElem this, List.getElem_mem this⟩
      obtain ⟨x, hx, hxm⟩ := hnm
      have app : ∀ (u : Int) (z : Option W) (S9 : Store), b ≤ u → u ≤ 6 → Deck B (n + 7 * m + 1 + 4 * (i + 1)) d S9 → Fr B S7 S9 → tyM "list" (W.ref T.length) S9 = true ∧
          wO (lstAt S9 (List.length S + 1)) fun a => wO a[pos.toNat]? fun a => lenOk 3 = true ∧ wO (mAppend (W.ref T.length) [W.tup [a, W.int b, W.int u]] S9) fun p =>
            EInv B (n + 7 * m + 1) d m T (S.length + 1) S2.length (i + 1) [some (W.ref d), some (W.int ↑m), some (W.int 7), some (W.int 8), some (W.ref (List.length S + 1)), some (W.ref (List.length S2)), some (W.ref T.length), some (W.int (0 + ↑i)), some (W.int pos), some (W.int b), some (W.int u), z] p.snd := fun u z S9 u0 u1 D9 f9 => by
        have g9 := f9.get _ _ b3 gf7
        have n9 := (f8.trans f9).get _ _ (by omega) gn
        refine ⟨tyM_ref g9, ?_⟩
        rw [lstAt_of n9, wO_some, List.getElem?_map, hx, Option.map_some, wO_some]
        refine ⟨lenOk_of (by decide), ?_⟩
        rw [mAppend_ref g9, if_pos (by rw [List.length_map, sizeLine_eq]; omega), wO_some]
        refine ⟨es ++ [(x, b, u)], _, _, _, _, _, rfl, ?_, by simp [hes], fun e' he' => ?_, ?_, (f8.trans f9).setN (Nat.le_refl _)⟩
        · rw [List.map_append]; exact get_set g9
        · rcases List.mem_append.mp he' with h | h
          · exact hok e' h
          · rw [List.mem_singleton.mp h]; exact ⟨hxm, b0, u0, u1⟩
        · exact D9.setB (Nat.le_refl _) b3
      refine wpS_dWhile (7 - b.toNat) (fun mm ε' S8 => S8 = S7 ∧ ∃ t : Int, ε' = [some (.ref d), some (.int m), some (.int 7), some (.int 8), some (.ref (S.length + 1)), some (.ref S2.length), some (.ref T.length), some (.int (0 + ↑i)), some (.int pos), some (.int b), some (.int t), x11] ∧ b ≤ t ∧ t ≤ 6 ∧ mm = 7 - t.toNat) (by omega) ⟨rfl, b, rfl, Int.le_refl _, by omega, rfl⟩ ?_
      rintro mm ε' S8 ⟨rfl, t, rfl, t0, t1, rfl⟩
      have rest : wp (n_law_draw [W.ref d, W.int 6] S8) (fun a S1 => wO (opEq a (W.int 0) S1) fun p => wB p.fst fun b_2 => if b_2 = true then
                    wp (n_law_draw [W.ref d, W.int (7 - b)] p.snd) (fun b_3 S2_1 => wO (opAdd (W.int b) b_3 S2_1) fun p => tyM "list" (W.ref T.length) p.snd = true ∧
                            wO (lstAt p.snd (List.length S + 1)) fun a => wO a[pos.toNat]? fun a => lenOk 3 = true ∧ wO (mAppend (W.ref T.length) [W.tup [a, W.int b, p.fst]] p.snd) fun p_1 =>
                              EInv B (n + 7 * m + 1) d m T (S.length + 1) S2.length (i + 1) [some (W.ref d), some (W.int ↑m), some (W.int 7), some (W.int 8), some (W.ref (List.length S + 1)), some (W.ref (List.length S2)), some (W.ref T.length), some (W.int (0 + ↑i)), some (W.int pos), some (W.int b), some p.fst, x11] p_1.snd)
                      fun x S1 => E x S1
                  else tyM "list" (W.ref T.length) p.snd = true ∧
                      wO (lstAt p.snd (List.length S + 1)) fun a => wO a[pos.toNat]? fun a => lenOk 3 = true ∧ wO (mAppend (W.ref T.length) [W.tup [a, W.int b, W.int t]] p.snd) fun p =>
                        EInv B (n + 7 * m + 1) d m T (S.length + 1) S2.length (i + 1) [some (W.ref d), some (W.int ↑m), some (W.int 7), some (W.int 8), some (W.ref (List.length S + 1)), some (W.ref (List.length S2)), some (W.ref T.length), some (W.int (0 + ↑i)), some (W.int pos), some (W.int b), some (W.int t), x11] p.snd)
            fun x S1 => E x S1 := by
        refine wp_mono (draw_spec D7 (by omega) (by decide) (by decide)) ?_ (fun _ _ q => q)
        rintro r S9 ⟨c, rfl, c0, c1, D9, f9, l9⟩
        simp only [wp_ok, wp_exc, wp_ret, wp_badM, wp_lift, wp_chk, wp_alloc, wp_grd, wp_tgt, wp_noXe, wp_dVar, wp_dC, wp_aNil, wp_aCons, wp_dTup, wp_dLst, wp_dOp, wp_dUn, wp_dFn, wB_bl, wp_dChain, wp_dTru, wp_dBool, wp_dNot, wp_dAnd, wp_dOr, wp_dAndV, wp_dOrV, wp_dNotV, wp_dIfE, wp_dYes, wp_dCall, wp_dCallK, wp_dIsi, wp_dIsi2, wp_dMt, wp_oN, wI_int, wp_oS, wp_dSl, wp_dSrc, wp_dZip, wp_dRng1, wp_dRng2, wp_dEnum, wp_dLc, wpS_nx, wpS_rt, wpS_bk, wpS_ct, wpS_exc, wpS_bad, wpS_ite, wpS_dSeq, wpS_dNx, wpS_dBk, wpS_dCt, wpS_dDrop, wpS_dRet, wpS_dRetN, wpS_dIf, wpS_dSet, wpS_dAsg, wpS_dPar, wpS_dPut, wpS_dRaise, wpS_dFor, wp_dfn, wO_some, wO_none, wO_map, wO_bind, wO_ite, List.map_cons, List.map_nil, List.replicate_succ, List.replicate_zero, List.cons_append, List.nil_append, Nat.reduceSub, Nat.reduceAdd, List.getElem?_cons_zero, List.getElem?_cons_succ, List.set_cons_zero, List.set_cons_succ, List.length_cons, List.length_nil, tgN, tgNil, tgCons, tgTup, wipeE, isT, String.reduceBEq, Bool.and_false, Bool.false_and, Bool.true_and, Bool.and_true, Bool.or_false, Bool.false_or, Bool.true_or, Bool.or_true, Bool.not_true, Bool.not_false, if_true, if_false, true_and, and_true, Bool.false_eq_true, Bool.true_eq_false, reduceIte, opEq_int, opNe_int, opEq_str, opNe_str, opAdd_int, opSub_int, opMod_pos, opLt_int, opLe_int, opGt_int, opGe_int, opLt_str, opLe_str, opIsN_ref, opIsN_non, opIsN_int, opIsN_tup, opIsN_str, opIsN_bl, opEq_bl, opNe_bl, opFdiv_int, opMul_int, opPow_int, atI_0, atI_1, atI_2, opIx_ref, opIx_tup, opIx_rl, opLen_tup, opLen_str, opLen_rl, opMax2_int, opMin2_int, opInt_int, opInt_bl, tyN_non, tyN_bl, tyN_int, tyN_str, tyN_tup, tyN_rl, truthW_bl, srcW_tup, srcW_rl]
        split
        · refine wp_mono (draw_spec D9 (by omega) (by omega) (by omega)) ?_ (fun _ _ q => q)
          rintro r S10 ⟨v, rfl, v0, v1, D10, f10, l10⟩
          simp only [wp_ok, wp_exc, wp_ret, wp_badM, wp_lift, wp_chk, wp_alloc, wp_grd, wp_tgt, wp_noXe, wp_dVar, wp_dC, wp_aNil, wp_aCons, wp_dTup, wp_dLst, wp_dOp, wp_dUn, wp_dFn, wB_bl, wp_dChain, wp_dTru, wp_dBool, wp_dNot, wp_dAnd, wp_dOr, wp_dAndV, wp_dOrV, wp_dNotV, wp_dIfE, wp_dYes, wp_dCall, wp_dCallK, wp_dIsi, wp_dIsi2, wp_dMt, wp_oN, wI_int, wp_oS, wp_dSl, wp_dSrc, wp_dZip, wp_dRng1, wp_dRng2, wp_dEnum, wp_dLc, wpS_nx, wpS_rt, wpS_bk, wpS_ct, wpS_exc, wpS_bad, wpS_ite, wpS_dSeq, wpS_dNx, wpS_dBk, wpS_dCt, wpS_dDrop, wpS_dRet, wpS_dRetN, wpS_dIf, wpS_dSet, wpS_dAsg, wpS_dPar, wpS_dPut, wpS_dRaise, wpS_dFor, wp_dfn, wO_some, wO_none, wO_map, wO_bind, wO_ite, List.map_cons, List.map_nil, List.replicate_succ, List.replicate_zero, List.cons_append, List.nil_append, Nat.reduceSub, Nat.reduceAdd, List.getElem?_cons_zero, List.getElem?_cons_succ, List.set_cons_zero, List.set_cons_succ, List.length_cons, List.length_nil, tgN, tgNil, tgCons, tgTup, wipeE, isT, String.reduceBEq, Bool.and_false, Bool.false_and, Bool.true_and, Bool.and_true, Bool.or_false, Bool.false_or, Bool.true_or, Bool.or_true, Bool.not_true, Bool.not_false, if_true, if_false, true_and, and_true, Bool.false_eq_true, Bool.true_eq_false, reduceIte, opEq_int, opNe_int, opEq_str, opNe_str, opAdd_int, opSub_int, opMod_pos, opLt_int, opLe_int, opGt_int, opGe_int, opLt_str, opLe_str, opIsN_ref, opIsN_non, opIsN_int, opIsN_tup, opIsN_str, opIsN_bl, opEq_bl, opNe_bl, opFdiv_int, opMul_int, opPow_int, atI_0, atI_1, atI_2, opIx_ref, opIx_tup, opIx_rl, opLen_tup, opLen_str, opLen_rl, opMax2_int, opMin2_int, opInt_int, opInt_bl, tyN_non, tyN_bl, tyN_int, tyN_str, tyN_tup, tyN_rl, truthW_bl, srcW_tup, srcW_rl]
          exact app (b + v) _ _ (by omega) (by omega) (D10.mono (by omega) Fr.refl) (f9.trans f10)
        · exact app t _ _ t0 t1 (D9.mono (by omega) Fr.refl) f9
      simp only [wp_ok, wp_exc, wp_ret, wp_badM, wp_lift, wp_chk, wp_alloc, wp_grd, wp_tgt, wp_noXe, wp_dVar, wp_dC, wp_aNil, wp_aCons, wp_dTup, wp_dLst, wp_dOp, wp_dUn, wp_dFn, wB_bl, wp_dChain, wp_dTru, wp_dBool, wp_dNot, wp_dAnd, wp_dOr, wp_dAndV, wp_dOrV, wp_dNotV, wp_dIfE, wp_dYes, wp_dCall, wp_dCallK, wp_dIsi, wp_dIsi2, wp_dMt, wp_oN, wI_int, wp_oS, wp_dSl, wp_dSrc, wp_dZip, wp_dRng1, wp_dRng2, wp_dEnum, wp_dLc, wpS_nx, wpS_rt, wpS_bk, wpS_ct, wpS_exc, wpS_bad, wpS_ite, wpS_dSeq, wpS_dNx, wpS_dBk, wpS_dCt, wpS_dDrop, wpS_dRet, wpS_dRetN, wpS_dIf, wpS_dSet, wpS_dAsg, wpS_dPar, wpS_dPut, wpS_dRaise, wpS_dFor, wp_dfn, wO_some, wO_none, wO_map, wO_bind, wO_ite, List.map_cons, List.map_nil, List.replicate_succ, List.replicate_zero, List.cons_append, List.nil_append, Nat.reduceSub, Nat.reduceAdd, List.getElem?_cons_zero, List.getElem?_cons_succ, List.set_cons_zero, List.set_cons_succ, List.length_cons, List.length_nil, tgN, tgNil, tgCons, tgTup, wipeE, isT, String.reduceBEq, Bool.and_false, Bool.false_and, Bool.true_and, Bool.and_true, Bool.or_false, Bool.false_or, Bool.true_or, Bool.or_true, Bool.not_true, Bool.not_false, if_true, if_false, true_and, and_true, Bool.false_eq_true, Bool.true_eq_false, reduceIte, opEq_int, opNe_int, opEq_str, opNe_str, opAdd_int, opSub_int, opMod_pos, opLt_int, opLe_int, opGt_int, opGe_int, opLt_str, opLe_str, opIsN_ref, opIsN_non, opIsN_int, opIsN_tup, opIsN_str, opIsN_bl, opEq_bl, opNe_bl, opFdiv_int, opMul_int, opPow_int, atI_0, atI_1, atI_2, opIx_ref, opIx_tup, opIx_rl, opLen_tup, opLen_str, opLen_rl, opMax2_int, opMin2_int, opInt_int, opInt_bl, tyN_non, tyN_bl, tyN_int, tyN_str, tyN_tup, tyN_rl, truthW_bl, srcW_tup, srcW_rl, lstAt_of gr7, atI_nn a0, hw, lstAt_of gq]
      by_cases hlt : t < 7 - 1
      · have ls : t.toNat < bs.length := by omega
        rw [if_pos (decide_eq_true hlt), atI_nn (by omega), List.getElem?_map, List.getElem?_eq_getElem ls, Option.map_some, wO_some, truthW_bl, wO_some]
        cases z : bs[t.toNat] with
        | true => rw [if_neg (by decide)]; exact rest
        | false =>
          rw [if_pos (by decide)]
          exact ⟨_, by omega, t + 1, rfl, by omega, by omega, rfl⟩
      · rw [if_neg (by simpa using hlt)]
        exact rest
    · rintro ε S' ⟨es, x7, x8, x9, x10, x11, rfl, gf, hes, hok, D5, f5⟩
      simp only [wp_ok, wp_exc, wp_ret, wp_badM, wp_lift, wp_chk, wp_alloc, wp_grd, wp_tgt, wp_noXe, wp_dVar, wp_dC, wp_aNil, wp_aCons, wp_dTup, wp_dLst, wp_dOp, wp_dUn, wp_dFn, wB_bl, wp_dChain, wp_dTru, wp_dBool, wp_dNot, wp_dAnd, wp_dOr, wp_dAndV, wp_dOrV, wp_dNotV, wp_dIfE, wp_dYes, wp_dCall, wp_dCallK, wp_dIsi, wp_dIsi2, wp_dMt, wp_oN, wI_int, wp_oS, wp_dSl, wp_dSrc, wp_dZip, wp_dRng1, wp_dRng2, wp_dEnum, wp_dLc, wpS_nx, wpS_rt, wpS_bk, wpS_ct, wpS_exc, wpS_bad, wpS_ite, wpS_dSeq, wpS_dNx, wpS_dBk, wpS_dCt, wpS_dDrop, wpS_dRet, wpS_dRetN, wpS_dIf, wpS_dSet, wpS_dAsg, wpS_dPar, wpS_dPut, wpS_dRaise, wpS_dFor, wp_dfn, wO_some, wO_none, wO_map, wO_bind, wO_ite, List.map_cons, List.map_nil, List.replicate_succ, List.replicate_zero, List.cons_append, List.nil_append, Nat.reduceSub, Nat.reduceAdd, List.getElem?_cons_zero, List.getElem?_cons_succ, List.set_cons_zero, List.set_cons_succ, List.length_cons, List.length_nil, tgN, tgNil, tgCons, tgTup, wipeE, isT, String.reduceBEq, Bool.and_false, Bool.false_and, Bool.true_and, Bool.and_true, Bool.or_false, Bool.false_or, Bool.true_or, Bool.or_true, Bool.not_true, Bool.not_false, if_true, if_false, true_and, and_true, Bool.false_eq_true, Bool.true_eq_false, reduceIte, opEq_int, opNe_int, opEq_str, opNe_str, opAdd_int, opSub_int, opMod_pos, opLt_int, opLe_int, opGt_int, opGe_int, opLt_str, opLe_str, opIsN_ref, opIsN_non, opIsN_int, opIsN_tup, opIsN_str, opIsN_bl, opEq_bl, opNe_bl, opFdiv_int, opMul_int, opPow_int, atI_0, atI_1, atI_2, opIx_ref, opIx_tup, opIx_rl, opLen_tup, opLen_str, opLen_rl, opMax2_int, opMin2_int, opInt_int, opInt_bl, tyN_non, tyN_bl, tyN_int, tyN_str, tyN_tup, tyN_rl, truthW_bl, srcW_tup, srcW_rl]
      rw [rngW_len] at hes
      rw [rngW_len] at D5
      exact ⟨_, es, rfl, b3, gf, by omega, hok, D5.mono (by omega) Fr.refl, f3.trans f5⟩

/-! ### no clash: open days that agree -/
theorem clash_symm {a b : Ent} (h : clash a b = true) : clash b a = true := by
  unfold clash at h ⊢
  rw [Bool.and_eq_true] at h ⊢
  exact ⟨by rw [beq_iff_eq] at h ⊢; exact h.1.symm, by rw [Bool.or_comm]; exact h.2⟩
theorem found_none {es : List Ent} : found es = .non ↔ ∀ (i j : Nat) a b, es[i]? = some a → es[j]? = some b → clash a b = false := by
  have key : found es = .non ↔ fstN (fun two => fstN (pair es two) two) es.length = none := by
    unfold found
    cases z : fstN (fun two => fstN (pair es two) two) es.length with
    | none => exact ⟨fun _ => rfl, fun _ => rfl⟩
    | some v =>
      obtain ⟨i, _, e⟩ := fstN_mem z
      obtain ⟨j, _, e⟩ := fstN_mem e
      unfold pair at e
      split at e
      · split at e
        · cases e
          constructor
          · intro h; simp at h
          · intro h; simp at h
        · cases e
      · cases e
  rw [key, fstN_none]
  have ord : (∀ two, two < es.length → fstN (pair es two) two = none) ↔ ∀ (i j : Nat) a b, i < j → es[i]? = some a → es[j]? = some b → clash a b = false := by
    constructor
    · intro h i j a b hij ea eb
      have := fstN_none.mp (h j (List.getElem?_eq_some_iff.mp eb).1) i hij
      unfold pair at this
      rw [ea, eb] at this
      cases z : clash a b with
      | false => rfl
      | true => simp [z] at this
    · intro h two ht
      rw [fstN_none]
      intro one ho
      unfold pair
      split
      · rename_i a b ea eb
        rw [h one two a b ho ea eb]; rfl
      · rfl
  rw [ord]
  constructor
  · intro h i j a b ea eb
    rcases Nat.lt_trichotomy i j with q | q | q
    · exact h i j a b q ea eb
    · subst q
      rw [ea] at eb
      cases eb
      unfold clash closes
      simp
    · have := h j i b a q eb ea
      cases z : clash a b with
      | false => rfl
      | true => rw [clash_symm z] at this; cases this
  · intro h i j a b _ ea eb
    exact h i j a b ea eb
/-- an office's own entries -/
def own (es : List Ent) (x : Str) : List Ent := es.filter fun e => e.1 == x
theorem agree_iff {es : List Ent} {x : Str} {m : Nat} (hok : ∀ e ∈ es, EOk m e) : (∃ bs ∈ sets 7, ∀ e ∈ own es x, Spot bs e.2.1 e.2.2) ↔ ∀ a ∈ own es x, ∀ b ∈ own es x, clash a b = false := by
  have mem : ∀ {a}, a ∈ own es x → a ∈ es ∧ a.1 = x := fun h => by
    have := List.mem_filter.mp h
    exact ⟨this.1, by simpa using this.2⟩
  constructor
  · rintro ⟨bs, _, h⟩ a ha b hb
    have no : ∀ a ∈ own es x, ∀ b ∈ own es x, closes a b.2.2 = false := fun a ha b hb => by
      cases z : closes a b.2.2 with
      | false => rfl
      | true =>
        unfold closes at z
        simp only [Bool.and_eq_true, decide_eq_true_eq] at z
        exact absurd ((h a ha).2.1 _ z.1 z.2) (h b hb).2.2
    unfold clash
    rw [no a ha b hb, no b hb a ha]
    simp
  · intro h
    let bs : List Bool := (List.range 7).map fun d : Nat => (own es x).any fun e => e.2.2 == (d : Int)
    refine ⟨bs, sets_mem 7 bs (by simp [bs]), fun e he => ?_⟩
    have ok := hok e (mem he).1
    have get : ∀ j : Int, 0 ≤ j → j ≤ 6 → bs[j.toNat]? = some ((own es x).any fun e => e.2.2 == j) := fun j j0 j1 => by
      have hj : ((j.toNat : Nat) : Int) = j := by omega
      simp only [bs, List.getElem?_map, List.getElem?_range (show j.toNat < 7 by omega), Option.map_some, hj]
    have b0 := ok.b0
    have le := ok.le
    have t6 := ok.t6
    refine ⟨le, fun j h1 h2 => ?_, ?_⟩
    · rw [get j (by omega) (by omega)]
      congr 1
      rw [List.any_eq_false]
      intro e' he' q
      have q : e'.2.2 = j := by simpa using q
      have c := h e he e' he'
      unfold clash closes at c
      rw [(mem he).2, (mem he').2, q, decide_eq_true h1, decide_eq_true h2] at c
      simp at c
    · rw [get _ (by omega) t6]
      have : ((own es x).any fun e' => e'.2.2 == e.2.2) = true := List.any_eq_true.mpr ⟨e, he, by simp⟩
      rw [this]
      decide
theorem names_all {es : List Ent} {m : Nat} (hok : ∀ e ∈ es, EOk m e) : (∀ x ∈ nm3.take m, ∃ bs ∈ sets 7, ∀ e ∈ own es x, Spot bs e.2.1 e.2.2) ↔ found es = .non := by
  rw [found_none]
  constructor
  · intro h i j a b ea eb
    have ma := List.mem_of_getElem? ea
    have mb := List.mem_of_getElem? eb
    by_cases e : a.1 = b.1
    · have := (agree_iff hok).mp (h a.1 (hok a ma).name)
      refine this a ?_ b ?_
      · exact List.mem_filter.mpr ⟨ma, by simp⟩
      · exact List.mem_filter.mpr ⟨mb, by simp [e]⟩
    · unfold clash
      have : (a.1 == b.1) = false := by simpa using e
      rw [this]; rfl
  · intro h x _
    rw [agree_iff hok]
    intro a ha b hb
    obtain ⟨i, hi⟩ := List.mem_iff_getElem?.mp (List.mem_filter.mp ha).1
    obtain ⟨j, hj⟩ := List.mem_iff_getElem?.mp (List.mem_filter.mp hb).1
    exact h i j a b hi hj
end K49
/-! K49s: the law is true. -/
namespace K49
open PySem L2 N
def entD (e : Ent) : PyData := .tuple [.str e.1, .int e.2.1, .int e.2.2]
theorem names_ok : ∀ x ∈ nm3, Name x ∧ okS x = true ∧ x.cps.size ≤ 8 := by
  intro x hx
  simp only [nm3, List.mem_cons, List.mem_nil_iff, or_false] at hx
  rcases hx with rfl | rfl | rfl
  · exact ⟨⟨by decide, by decide⟩, by decide, by decide⟩
  · exact ⟨⟨by decide, by decide⟩, by decide, by decide⟩
  · exact ⟨⟨by decide, by decide⟩, by decide, by decide⟩
theorem EOk.nm {m : Nat} {e : Ent} (h : EOk m e) : Name e.1 ∧ okS e.1 = true ∧ e.1.cps.size ≤ 8 := names_ok _ (List.mem_of_mem_take h.name)
theorem EOk.good {m : Nat} {e : Ent} (h : EOk m e) : Good e := ⟨h.nm.1, h.le⟩
theorem repr_spec {q m : Nat} {es : List Ent} {S : Store} (g : S[q]? = some (.lst (es.map eW))) (hl : es.length ≤ 8) (hok : ∀ e ∈ es, EOk m e) : opRepr [.ref q] S = some (.str (PyData.list (es.map entD)).shown, S) := by
  refine opRepr_tiny ?_ ?_ ?_
  · rw [toD_lst g, mapO_map (g := entD) fun e _ => ?_]
    · rfl
    · rfl
  · simp only [tiny]
    refine tinyAll_map fun e he => ?_
    have ok := hok e he
    simp only [entD, tiny, tinyAll, Bool.and_true]
    have h1 := str_tiny ok.nm.2.1
    have h2 := int_tiny (i := e.2.1) (by have := ok.b0; have := ok.le; have := ok.t6; omega)
    have h3 := int_tiny (i := e.2.2) (by have := ok.b0; have := ok.le; have := ok.t6; omega)
    simp only [tiny] at h1 h2 h3
    rw [h1, h2, h3]
    rfl
  · simp only [PyData.bulk]
    refine Nat.le_trans (bulkAll_map (c := 12) fun e he => ?_) (by omega)
    have ok := (hok e he).nm.2.2
    simp only [entD, PyData.bulk, PyData.bulkAll]
    omega
theorem twin_refl {S : Store} {es : List Ent} : Twin S 6 (found es) (found es) := by
  have key : ∀ w : W, (w = .non ∨ ∃ i j : Nat, w = .tup [.int i, .int j]) → Twin S 6 w w := by
    rintro w (rfl | ⟨i, j, rfl⟩)
    · exact .inl ⟨rfl, rfl⟩
    · refine .inr (.inr (.inr (.inr (.inl ⟨_, _, rfl, rfl, rfl, by simp, fun k x y e1 e2 => ?_⟩))))
      rw [e1] at e2
      cases e2
      match k, e1 with
      | 0, e1 => cases e1; exact .inr (.inr (.inl ⟨_, rfl, rfl⟩))
      | 1, e1 => cases e1; exact .inr (.inr (.inl ⟨_, rfl, rfl⟩))
  refine key _ ?_
  unfold found
  cases z : fstN (fun two => fstN (pair es two) two) es.length with
  | none => exact .inl rfl
  | some v =>
    obtain ⟨i, _, e⟩ := fstN_mem z
    obtain ⟨j, _, e⟩ := fstN_mem e
    unfold pair at e
    split at e
    · split at e
      · cases e; exact .inr ⟨_, _, rfl⟩
      · cases e
    · cases e
def LInv (B d rs : Nat) (ps : List W) (T : Store) (s : W) (i : Nat) (ε : Ev) (S' : Store) : Prop := ∃ x3 x4 x5 x6 x7 x8 x9 x10 x11 x12 : Option W, ε = [some s, some (.ref d), some (.ref rs), x3, x4, x5, x6, x7, x8, x9, x10, x11, x12] ∧
  Deck B (2000 + 61 * i) d S' ∧ Fr B T S'
theorem law_true (ns : List Int) (h : ns.length ≤ 63) (h2 : ∀ n ∈ ns, Builtin.Int.intBits n ≤ 1048576) : wp (n_law [.rl (ns.map W.int)] []) (fun r _ => r = .bl true) (fun _ _ => False) := by
  unfold n_law d_law
  simp only [wp_ok, wp_exc, wp_ret, wp_badM, wp_lift, wp_chk, wp_alloc, wp_grd, wp_tgt, wp_noXe, wp_dVar, wp_dC, wp_aNil, wp_aCons, wp_dTup, wp_dLst, wp_dOp, wp_dUn, wp_dFn, wB_bl, wp_dChain, wp_dTru, wp_dBool, wp_dNot, wp_dAnd, wp_dOr, wp_dAndV, wp_dOrV, wp_dNotV, wp_dIfE, wp_dYes, wp_dCall, wp_dCallK, wp_dIsi, wp_dIsi2, wp_dMt, wp_oN, wI_int, wp_oS, wp_dSl, wp_dSrc, wp_dZip, wp_dRng1, wp_dRng2, wp_dEnum, wp_dLc, wpS_nx, wpS_rt, wpS_bk, wpS_ct, wpS_exc, wpS_bad, wpS_ite, wpS_dSeq, wpS_dNx, wpS_dBk, wpS_dCt, wpS_dDrop, wpS_dRet, wpS_dRetN, wpS_dIf, wpS_dSet, wpS_dAsg, wpS_dPar, wpS_dPut, wpS_dRaise, wpS_dFor, wp_dfn, wO_some, wO_none, wO_map, wO_bind, wO_ite, List.map_cons, List.map_nil, List.replicate_succ, List.replicate_zero, List.cons_append, List.nil_append, Nat.reduceSub, Nat.reduceAdd, List.getElem?_cons_zero, List.getElem?_cons_succ, List.set_cons_zero, List.set_cons_succ, List.length_cons, List.length_nil, tgN, tgNil, tgCons, tgTup, wipeE, isT, String.reduceBEq, Bool.and_false, Bool.false_and, Bool.true_and, Bool.and_true, Bool.or_false, Bool.false_or, Bool.true_or, Bool.or_true, Bool.not_true, Bool.not_false, if_true, if_false, true_and, and_true, Bool.false_eq_true, Bool.true_eq_false, reduceIte, opEq_int, opNe_int, opEq_str, opNe_str, opAdd_int, opSub_int, opMod_pos, opLt_int, opLe_int, opGt_int, opGe_int, opLt_str, opLe_str, opIsN_ref, opIsN_non, opIsN_int, opIsN_tup, opIsN_str, opIsN_bl, opEq_bl, opNe_bl, opFdiv_int, opMul_int, opPow_int, atI_0, atI_1, atI_2, opIx_ref, opIx_tup, opIx_rl, opLen_tup, opLen_str, opLen_rl, opMax2_int, opMin2_int, opInt_int, opInt_bl, tyN_non, tyN_bl, tyN_int, tyN_str, tyN_tup, tyN_rl, truthW_bl, srcW_tup, srcW_rl]
  refine wp_mono (deck_spec h) ?_ (fun _ _ q => q)
  rintro r S1 ⟨d, rfl, D1, _⟩
  refine wp_mono law_sets_spec ?_ (fun _ _ q => q)
  rintro r S2 ⟨rs, ps, rfl, hrs, grs, RR, f2⟩
  have D2 := D1.mono (Nat.le_refl _) f2
  generalize S1.length = B at D2 hrs RR
  simp only [wp_ok, wp_exc, wp_ret, wp_badM, wp_lift, wp_chk, wp_alloc, wp_grd, wp_tgt, wp_noXe, wp_dVar, wp_dC, wp_aNil, wp_aCons, wp_dTup, wp_dLst, wp_dOp, wp_dUn, wp_dFn, wB_bl, wp_dChain, wp_dTru, wp_dBool, wp_dNot, wp_dAnd, wp_dOr, wp_dAndV, wp_dOrV, wp_dNotV, wp_dIfE, wp_dYes, wp_dCall, wp_dCallK, wp_dIsi, wp_dIsi2, wp_dMt, wp_oN, wI_int, wp_oS, wp_dSl, wp_dSrc, wp_dZip, wp_dRng1, wp_dRng2, wp_dEnum, wp_dLc, wpS_nx, wpS_rt, wpS_bk, wpS_ct, wpS_exc, wpS_bad, wpS_ite, wpS_dSeq, wpS_dNx, wpS_dBk, wpS_dCt, wpS_dDrop, wpS_dRet, wpS_dRetN, wpS_dIf, wpS_dSet, wpS_dAsg, wpS_dPar, wpS_dPut, wpS_dRaise, wpS_dFor, wp_dfn, wO_some, wO_none, wO_map, wO_bind, wO_ite, List.map_cons, List.map_nil, List.replicate_succ, List.replicate_zero, List.cons_append, List.nil_append, Nat.reduceSub, Nat.reduceAdd, List.getElem?_cons_zero, List.getElem?_cons_succ, List.set_cons_zero, List.set_cons_succ, List.length_cons, List.length_nil, tgN, tgNil, tgCons, tgTup, wipeE, isT, String.reduceBEq, Bool.and_false, Bool.false_and, Bool.true_and, Bool.and_true, Bool.or_false, Bool.false_or, Bool.true_or, Bool.or_true, Bool.not_true, Bool.not_false, if_true, if_false, true_and, and_true, Bool.false_eq_true, Bool.true_eq_false, reduceIte, opEq_int, opNe_int, opEq_str, opNe_str, opAdd_int, opSub_int, opMod_pos, opLt_int, opLe_int, opGt_int, opGe_int, opLt_str, opLe_str, opIsN_ref, opIsN_non, opIsN_int, opIsN_tup, opIsN_str, opIsN_bl, opEq_bl, opNe_bl, opFdiv_int, opMul_int, opPow_int, atI_0, atI_1, atI_2, opIx_ref, opIx_tup, opIx_rl, opLen_tup, opLen_str, opLen_rl, opMax2_int, opMin2_int, opInt_int, opInt_bl, tyN_non, tyN_bl, tyN_int, tyN_str, tyN_tup, tyN_rl, truthW_bl, srcW_tup, srcW_rl, List.length_map]
  obtain ⟨m, hm, hm0, hm1⟩ : ∃ m : Nat, (if (if (ns.length : Int) < 24 then (ns.length : Int) else 24) > 1 then (if (ns.length : Int) < 24 then (ns.length : Int) else 24) else 1) = (m : Int) ∧ 0 < m ∧ m ≤ 24 := by
    refine ⟨if ns.length ≤ 1 then 1 else if ns.length < 24 then ns.length else 24, ?_, ?_, ?_⟩
    · split <;> split <;> (try split) <;> (try split) <;> omega
    · split <;> (try split) <;> omega
    · split <;> (try split) <;> omega
  rw [hm]
  refine ⟨by unfold bnd; exact decide_eq_true (by omega), ?_⟩
  refine wpS_forL (LInv B d rs ps S2 (.rl (ns.map W.int))) ⟨_, _, _, _, _, _, _, _, _, _, rfl, D2, Fr.refl⟩ (fun _ _ _ _ _ => trivial) ?_ ?_
  · rintro i x ε S' e ⟨x3, x4, x5, x6, x7, x8, x9, x10, x11, x12, rfl, D3, f3⟩
    obtain ⟨hi, rfl⟩ := rngW_get e
    simp only [wp_ok, wp_exc, wp_ret, wp_badM, wp_lift, wp_chk, wp_alloc, wp_grd, wp_tgt, wp_noXe, wp_dVar, wp_dC, wp_aNil, wp_aCons, wp_dTup, wp_dLst, wp_dOp, wp_dUn, wp_dFn, wB_bl, wp_dChain, wp_dTru, wp_dBool, wp_dNot, wp_dAnd, wp_dOr, wp_dAndV, wp_dOrV, wp_dNotV, wp_dIfE, wp_dYes, wp_dCall, wp_dCallK, wp_dIsi, wp_dIsi2, wp_dMt, wp_oN, wI_int, wp_oS, wp_dSl, wp_dSrc, wp_dZip, wp_dRng1, wp_dRng2, wp_dEnum, wp_dLc, wpS_nx, wpS_rt, wpS_bk, wpS_ct, wpS_exc, wpS_bad, wpS_ite, wpS_dSeq, wpS_dNx, wpS_dBk, wpS_dCt, wpS_dDrop, wpS_dRet, wpS_dRetN, wpS_dIf, wpS_dSet, wpS_dAsg, wpS_dPar, wpS_dPut, wpS_dRaise, wpS_dFor, wp_dfn, wO_some, wO_none, wO_map, wO_bind, wO_ite, List.map_cons, List.map_nil, List.replicate_succ, List.replicate_zero, List.cons_append, List.nil_append, Nat.reduceSub, Nat.reduceAdd, List.getElem?_cons_zero, List.getElem?_cons_succ, List.set_cons_zero, List.set_cons_succ, List.length_cons, List.length_nil, tgN, tgNil, tgCons, tgTup, wipeE, isT, String.reduceBEq, Bool.and_false, Bool.false_and, Bool.true_and, Bool.and_true, Bool.or_false, Bool.false_or, Bool.true_or, Bool.or_true, Bool.not_true, Bool.not_false, if_true, if_false, true_and, and_true, Bool.false_eq_true, Bool.true_eq_false, reduceIte, opEq_int, opNe_int, opEq_str, opNe_str, opAdd_int, opSub_int, opMod_pos, opLt_int, opLe_int, opGt_int, opGe_int, opLt_str, opLe_str, opIsN_ref, opIsN_non, opIsN_int, opIsN_tup, opIsN_str, opIsN_bl, opEq_bl, opNe_bl, opFdiv_int, opMul_int, opPow_int, atI_0, atI_1, atI_2, opIx_ref, opIx_tup, opIx_rl, opLen_tup, opLen_str, opLen_rl, opMax2_int, opMin2_int, opInt_int, opInt_bl, tyN_non, tyN_bl, tyN_int, tyN_str, tyN_tup, tyN_rl, truthW_bl, srcW_tup, srcW_rl]
    refine wp_mono (draw_spec D3 (by omega) (by decide) (by decide)) ?_ (fun _ _ q => q)
    rintro r S4 ⟨k, rfl, k0, k1, D4, f4, l4⟩
    simp only [wp_ok, wp_exc, wp_ret, wp_badM, wp_lift, wp_chk, wp_alloc, wp_grd, wp_tgt, wp_noXe, wp_dVar, wp_dC, wp_aNil, wp_aCons, wp_dTup, wp_dLst, wp_dOp, wp_dUn, wp_dFn, wB_bl, wp_dChain, wp_dTru, wp_dBool, wp_dNot, wp_dAnd, wp_dOr, wp_dAndV, wp_dOrV, wp_dNotV, wp_dIfE, wp_dYes, wp_dCall, wp_dCallK, wp_dIsi, wp_dIsi2, wp_dMt, wp_oN, wI_int, wp_oS, wp_dSl, wp_dSrc, wp_dZip, wp_dRng1, wp_dRng2, wp_dEnum, wp_dLc, wpS_nx, wpS_rt, wpS_bk, wpS_ct, wpS_exc, wpS_bad, wpS_ite, wpS_dSeq, wpS_dNx, wpS_dBk, wpS_dCt, wpS_dDrop, wpS_dRet, wpS_dRetN, wpS_dIf, wpS_dSet, wpS_dAsg, wpS_dPar, wpS_dPut, wpS_dRaise, wpS_dFor, wp_dfn, wO_some, wO_none, wO_map, wO_bind, wO_ite, List.map_cons, List.map_nil, List.replicate_succ, List.replicate_zero, List.cons_append, List.nil_append, Nat.reduceSub, Nat.reduceAdd, List.getElem?_cons_zero, List.getElem?_cons_succ, List.set_cons_zero, List.set_cons_succ, List.length_cons, List.length_nil, tgN, tgNil, tgCons, tgTup, wipeE, isT, String.reduceBEq, Bool.and_false, Bool.false_and, Bool.true_and, Bool.and_true, Bool.or_false, Bool.false_or, Bool.true_or, Bool.or_true, Bool.not_true, Bool.not_false, if_true, if_false, true_and, and_true, Bool.false_eq_true, Bool.true_eq_false, reduceIte, opEq_int, opNe_int, opEq_str, opNe_str, opAdd_int, opSub_int, opMod_pos, opLt_int, opLe_int, opGt_int, opGe_int, opLt_str, opLe_str, opIsN_ref, opIsN_non, opIsN_int, opIsN_tup, opIsN_str, opIsN_bl, opEq_bl, opNe_bl, opFdiv_int, opMul_int, opPow_int, atI_0, atI_1, atI_2, opIx_ref, opIx_tup, opIx_rl, opLen_tup, opLen_str, opLen_rl, opMax2_int, opMin2_int, opInt_int, opInt_bl, tyN_non, tyN_bl, tyN_int, tyN_str, tyN_tup, tyN_rl, truthW_bl, srcW_tup, srcW_rl]
    obtain ⟨many, hmany, hmany1, hmany3⟩ : ∃ many : Nat, 1 + k = (many : Int) ∧ 1 ≤ many ∧ many ≤ 3 := ⟨(1 + k).toNat, by omega, by omega, by omega⟩
    rw [hmany]
    refine wp_mono (law_entries_spec D4 (by omega) hmany1 hmany3) ?_ (fun _ _ q => q)
    rintro r S5 ⟨q, es, rfl, hq, gq, hes, hok, D5, f5⟩
    simp only [wp_ok, wp_exc, wp_ret, wp_badM, wp_lift, wp_chk, wp_alloc, wp_grd, wp_tgt, wp_noXe, wp_dVar, wp_dC, wp_aNil, wp_aCons, wp_dTup, wp_dLst, wp_dOp, wp_dUn, wp_dFn, wB_bl, wp_dChain, wp_dTru, wp_dBool, wp_dNot, wp_dAnd, wp_dOr, wp_dAndV, wp_dOrV, wp_dNotV, wp_dIfE, wp_dYes, wp_dCall, wp_dCallK, wp_dIsi, wp_dIsi2, wp_dMt, wp_oN, wI_int, wp_oS, wp_dSl, wp_dSrc, wp_dZip, wp_dRng1, wp_dRng2, wp_dEnum, wp_dLc, wpS_nx, wpS_rt, wpS_bk, wpS_ct, wpS_exc, wpS_bad, wpS_ite, wpS_dSeq, wpS_dNx, wpS_dBk, wpS_dCt, wpS_dDrop, wpS_dRet, wpS_dRetN, wpS_dIf, wpS_dSet, wpS_dAsg, wpS_dPar, wpS_dPut, wpS_dRaise, wpS_dFor, wp_dfn, wO_some, wO_none, wO_map, wO_bind, wO_ite, List.map_cons, List.map_nil, List.replicate_succ, List.replicate_zero, List.cons_append, List.nil_append, Nat.reduceSub, Nat.reduceAdd, List.getElem?_cons_zero, List.getElem?_cons_succ, List.set_cons_zero, List.set_cons_succ, List.length_cons, List.length_nil, tgN, tgNil, tgCons, tgTup, wipeE, isT, String.reduceBEq, Bool.and_false, Bool.false_and, Bool.true_and, Bool.and_true, Bool.or_false, Bool.false_or, Bool.true_or, Bool.or_true, Bool.not_true, Bool.not_false, if_true, if_false, true_and, and_true, Bool.false_eq_true, Bool.true_eq_false, reduceIte, opEq_int, opNe_int, opEq_str, opNe_str, opAdd_int, opSub_int, opMod_pos, opLt_int, opLe_int, opGt_int, opGe_int, opLt_str, opLe_str, opIsN_ref, opIsN_non, opIsN_int, opIsN_tup, opIsN_str, opIsN_bl, opEq_bl, opNe_bl, opFdiv_int, opMul_int, opPow_int, atI_0, atI_1, atI_2, opIx_ref, opIx_tup, opIx_rl, opLen_tup, opLen_str, opLen_rl, opMax2_int, opMin2_int, opInt_int, opInt_bl, tyN_non, tyN_bl, tyN_int, tyN_str, tyN_tup, tyN_rl, truthW_bl, srcW_tup, srcW_rl, repr_spec gq hes hok]
    refine wp_mono (law_first_clash_spec gq (by omega)) ?_ (fun _ _ q => q)
    rintro r S6 ⟨rfl, f6⟩
    have gq6 := f6.g0 gq
    refine wp_mono (find_clash_spec gq6 (by omega) fun e he => (hok e he).good) ?_ (fun _ _ q => q)
    rintro r S7 ⟨rfl, f7⟩
    have gq7 := f7.g0 gq6
    have pm : permW [0] [W.ref q] = some [W.ref q] := rfl
    rw [pm, wO_some]
    refine wp_mono (find_clash_spec gq7 (by omega) fun e he => (hok e he).good) ?_ (fun _ _ q => q)
    rintro r S8 ⟨rfl, f8⟩
    have gq8 := f8.g0 gq7
    refine ⟨lenOk_of (by decide), lenOk_of (by decide), ?_⟩
    have tw : Twin (S8 ++ [O.lst [found es, found es]] ++ [O.lst [found es, found es]]) 8 (W.ref S8.length) (W.ref (List.length (S8 ++ [O.lst [found es, found es]]))) := by
      refine .inr (.inr (.inr (.inr (.inr ⟨_, _, _, _, rfl, rfl, Fr.app.g0 get_new, get_new, rfl, by simp, fun k x y e1 e2 => ?_⟩))))
      rw [e1] at e2
      cases e2
      match k, e1 with
      | 0, e1 => cases e1; exact twin_refl.mono Fr.refl (by decide)
      | 1, e1 => cases e1; exact twin_refl.mono Fr.refl (by decide)
    refine wp_mono (same_spec 8 tw) ?_ (fun _ _ q => q)
    rintro r S9 ⟨rfl, f9⟩
    have f59 : Fr 0 S5 S9 := f6.trans (f7.trans (f8.trans (Fr.app.trans (Fr.app.trans f9))))
    have gq9 := f59.g0 gq
    have e1 : ∀ T, T = S9 ++ [O.lst [W.str "ny", W.str "a", W.str "ldn"]] → opSl (.ref S9.length) none (some (many : Int)) T = some (.ref T.length, T ++ [O.lst ((nm3.take many).map W.str)]) := fun T e => by
      subst e
      rw [opSl_ref get_new, cut_names hmany3]
    simp only [wp_ok, wp_exc, wp_ret, wp_badM, wp_lift, wp_chk, wp_alloc, wp_grd, wp_tgt, wp_noXe, wp_dVar, wp_dC, wp_aNil, wp_aCons, wp_dTup, wp_dLst, wp_dOp, wp_dUn, wp_dFn, wB_bl, wp_dChain, wp_dTru, wp_dBool, wp_dNot, wp_dAnd, wp_dOr, wp_dAndV, wp_dOrV, wp_dNotV, wp_dIfE, wp_dYes, wp_dCall, wp_dCallK, wp_dIsi, wp_dIsi2, wp_dMt, wp_oN, wI_int, wp_oS, wp_dSl, wp_dSrc, wp_dZip, wp_dRng1, wp_dRng2, wp_dEnum, wp_dLc, wpS_nx, wpS_rt, wpS_bk, wpS_ct, wpS_exc, wpS_bad, wpS_ite, wpS_dSeq, wpS_dNx, wpS_dBk, wpS_dCt, wpS_dDrop, wpS_dRet, wpS_dRetN, wpS_dIf, wpS_dSet, wpS_dAsg, wpS_dPar, wpS_dPut, wpS_dRaise, wpS_dFor, wp_dfn, wO_some, wO_none, wO_map, wO_bind, wO_ite, List.map_cons, List.map_nil, List.replicate_succ, List.replicate_zero, List.cons_append, List.nil_append, Nat.reduceSub, Nat.reduceAdd, List.getElem?_cons_zero, List.getElem?_cons_succ, List.set_cons_zero, List.set_cons_succ, List.length_cons, List.length_nil, tgN, tgNil, tgCons, tgTup, wipeE, isT, String.reduceBEq, Bool.and_false, Bool.false_and, Bool.true_and, Bool.and_true, Bool.or_false, Bool.false_or, Bool.true_or, Bool.or_true, Bool.not_true, Bool.not_false, if_true, if_false, true_and, and_true, Bool.false_eq_true, Bool.true_eq_false, reduceIte, opEq_int, opNe_int, opEq_str, opNe_str, opAdd_int, opSub_int, opMod_pos, opLt_int, opLe_int, opGt_int, opGe_int, opLt_str, opLe_str, opIsN_ref, opIsN_non, opIsN_int, opIsN_tup, opIsN_str, opIsN_bl, opEq_bl, opNe_bl, opFdiv_int, opMul_int, opPow_int, atI_0, atI_1, atI_2, opIx_ref, opIx_tup, opIx_rl, opLen_tup, opLen_str, opLen_rl, opMax2_int, opMin2_int, opInt_int, opInt_bl, tyN_non, tyN_bl, tyN_int, tyN_str, tyN_tup, tyN_rl, truthW_bl, srcW_tup, srcW_rl, repr_spec gq9 hes hok, beq_self_eq_true, lenOk_of (show 3 ≤ 1000000 by decide), e1 _ rfl, srcW_ref get_new]
    have gT : (S9 ++ [O.lst [W.str "ny", W.str "a", W.str "ldn"]] ++ [O.lst ((nm3.take many).map W.str)])[List.length (S9 ++ [O.lst [W.str "ny", W.str "a", W.str "ldn"]])]? = some (.lst ((nm3.take many).map W.str)) := get_new
    have fT : Fr 0 S5 (S9 ++ [O.lst [W.str "ny", W.str "a", W.str "ldn"]] ++ [O.lst ((nm3.take many).map W.str)]) := f59.snoc.snoc
    generalize S9 ++ [O.lst [W.str "ny", W.str "a", W.str "ldn"]] ++ [O.lst ((nm3.take many).map W.str)] = T at gT fT ⊢
    have gqT := fT.g0 gq
    have DT := D5.mono (Nat.le_refl _) fT
    have fBT : Fr B S2 T := f3.trans (f4.trans (f5.trans (fT.up (Nat.zero_le _))))
    have RT := RR.mono fBT
    have grT := fBT.get _ _ hrs grs
    have h7 : ∀ n, ∀ bs ∈ sets n, bs.length = n := fun n => by
      induction n with
      | zero => intro bs h; rw [List.mem_singleton.mp h]; rfl
      | succ n ih =>
        intro bs h
        simp only [sets, List.mem_append, List.mem_map] at h
        rcases h with ⟨a, h, rfl⟩ | ⟨a, h, rfl⟩
        · simp [ih a h]
        · simp [ih a h]
    have lps : ps.length = 128 := by rw [RR.length, sets_len]
    let able (x : Str) : Prop := ∃ bs ∈ sets 7, ∀ e ∈ own es x, Spot bs e.2.1 e.2.2
    refine wpS_forL (fun j ε S' => ∃ (ab : Bool) (x7 x10 x11 x12 : Option W), ε = [some (W.rl (List.map W.int ns)), some (W.ref d), some (W.ref rs), some (W.int (0 + ↑i)), some (W.ref q),
        some (W.int ↑many), some (W.bl ab), x7, some (W.str (PyData.list (List.map entD es)).shown), some (found es), x10, x11, x12] ∧ (ab = true ↔ ∀ x ∈ (nm3.take many).take j, able x) ∧ Fr 0 T S') ⟨true, _, _, _, _, rfl, by simp, Fr.refl⟩ (fun _ _ S' _ ⟨_, _, _, _, _, _, _, f⟩ => f.g0 gT) ?_ ?_
    · rintro j x ε S10 e2 ⟨ab, x7, x10, x11, x12, rfl, hab, f10⟩
      rw [List.getElem?_map, Option.map_eq_some_iff] at e2
      obtain ⟨x, e2, rfl⟩ := e2
      simp only [wp_ok, wp_exc, wp_ret, wp_badM, wp_lift, wp_chk, wp_alloc, wp_grd, wp_tgt, wp_noXe, wp_dVar, wp_dC, wp_aNil, wp_aCons, wp_dTup, wp_dLst, wp_dOp, wp_dUn, wp_dFn, wB_bl, wp_dChain, wp_dTru, wp_dBool, wp_dNot, wp_dAnd, wp_dOr, wp_dAndV, wp_dOrV, wp_dNotV, wp_dIfE, wp_dYes, wp_dCall, wp_dCallK, wp_dIsi, wp_dIsi2, wp_dMt, wp_oN, wI_int, wp_oS, wp_dSl, wp_dSrc, wp_dZip, wp_dRng1, wp_dRng2, wp_dEnum, wp_dLc, wpS_nx, wpS_rt, wpS_bk, wpS_ct, wpS_exc, wpS_bad, wpS_ite, wpS_dSeq, wpS_dNx, wpS_dBk, wpS_dCt, wpS_dDrop, wpS_dRet, wpS_dRetN, wpS_dIf, wpS_dSet, wpS_dAsg, wpS_dPar, wpS_dPut, wpS_dRaise, wpS_dFor, wp_dfn, wO_some, wO_none, wO_map, wO_bind, wO_ite, List.map_cons, List.map_nil, List.replicate_succ, List.replicate_zero, List.cons_append, List.nil_append, Nat.reduceSub, Nat.reduceAdd, List.getElem?_cons_zero, List.getElem?_cons_succ, List.set_cons_zero, List.set_cons_succ, List.length_cons, List.length_nil, tgN, tgNil, tgCons, tgTup, wipeE, isT, String.reduceBEq, Bool.and_false, Bool.false_and, Bool.true_and, Bool.and_true, Bool.or_false, Bool.false_or, Bool.true_or, Bool.or_true, Bool.not_true, Bool.not_false, if_true, if_false, true_and, and_true, Bool.false_eq_true, Bool.true_eq_false, reduceIte, opEq_int, opNe_int, opEq_str, opNe_str, opAdd_int, opSub_int, opMod_pos, opLt_int, opLe_int, opGt_int, opGe_int, opLt_str, opLe_str, opIsN_ref, opIsN_non, opIsN_int, opIsN_tup, opIsN_str, opIsN_bl, opEq_bl, opNe_bl, opFdiv_int, opMul_int, opPow_int, atI_0, atI_1, atI_2, opIx_ref, opIx_tup, opIx_rl, opLen_tup, opLen_str, opLen_rl, opMax2_int, opMin2_int, opInt_int, opInt_bl, tyN_non, tyN_bl, tyN_int, tyN_str, tyN_tup, tyN_rl, truthW_bl, srcW_tup, srcW_rl, srcW_ref (f10.g0 gqT), List.length_map, lenOk_of (show es.length ≤ 1000000 by omega)]
      refine wp_mono (wp_lcP (c := eW) (xs := es) (fun e => e.1 == x) eW (fun S' => Fr 0 S10 S') Fr.refl (fun S' f => (f10.trans f).g0 gqT) ?_) ?_ (fun _ _ q => q)
      · intro k en S' e3 f
        simp only [wp_ok, wp_exc, wp_ret, wp_badM, wp_lift, wp_chk, wp_alloc, wp_grd, wp_tgt, wp_noXe, wp_dVar, wp_dC, wp_aNil, wp_aCons, wp_dTup, wp_dLst, wp_dOp, wp_dUn, wp_dFn, wB_bl, wp_dChain, wp_dTru, wp_dBool, wp_dNot, wp_dAnd, wp_dOr, wp_dAndV, wp_dOrV, wp_dNotV, wp_dIfE, wp_dYes, wp_dCall, wp_dCallK, wp_dIsi, wp_dIsi2, wp_dMt, wp_oN, wI_int, wp_oS, wp_dSl, wp_dSrc, wp_dZip, wp_dRng1, wp_dRng2, wp_dEnum, wp_dLc, wpS_nx, wpS_rt, wpS_bk, wpS_ct, wpS_exc, wpS_bad, wpS_ite, wpS_dSeq, wpS_dNx, wpS_dBk, wpS_dCt, wpS_dDrop, wpS_dRet, wpS_dRetN, wpS_dIf, wpS_dSet, wpS_dAsg, wpS_dPar, wpS_dPut, wpS_dRaise, wpS_dFor, wp_dfn, wO_some, wO_none, wO_map, wO_bind, wO_ite, List.map_cons, List.map_nil, List.replicate_succ, List.replicate_zero, List.cons_append, List.nil_append, Nat.reduceSub, Nat.reduceAdd, List.getElem?_cons_zero, List.getElem?_cons_succ, List.set_cons_zero, List.set_cons_succ, List.length_cons, List.length_nil, tgN, tgNil, tgCons, tgTup, wipeE, isT, String.reduceBEq, Bool.and_false, Bool.false_and, Bool.true_and, Bool.and_true, Bool.or_false, Bool.false_or, Bool.true_or, Bool.or_true, Bool.not_true, Bool.not_false, if_true, if_false, true_and, and_true, Bool.false_eq_true, Bool.true_eq_false, reduceIte, opEq_int, opNe_int, opEq_str, opNe_str, opAdd_int, opSub_int, opMod_pos, opLt_int, opLe_int, opGt_int, opGe_int, opLt_str, opLe_str, opIsN_ref, opIsN_non, opIsN_int, opIsN_tup, opIsN_str, opIsN_bl, opEq_bl, opNe_bl, opFdiv_int, opMul_int, opPow_int, atI_0, atI_1, atI_2, opIx_ref, opIx_tup, opIx_rl, opLen_tup, opLen_str, opLen_rl, opMax2_int, opMin2_int, opInt_int, opInt_bl, tyN_non, tyN_bl, tyN_int, tyN_str, tyN_tup, tyN_rl, truthW_bl, srcW_tup, srcW_rl]
        split <;> exact f
      · rintro ws S11 ⟨rfl, f11⟩
        have f12 : Fr 0 T (S11 ++ [O.lst ((es.filter fun e => e.1 == x).map eW)]) := f10.trans f11.snoc
        have go : (S11 ++ [O.lst ((es.filter fun e => e.1 == x).map eW)])[S11.length]? = some (.lst ((own es x).map eW)) := get_new
        generalize S11 ++ [O.lst ((es.filter fun e => e.1 == x).map eW)] = S12 at f12 go ⊢
        have tk : (nm3.take many).take (j + 1) = (nm3.take many).take j ++ [x] := by rw [List.take_succ, e2]; rfl
        simp only [wp_ok, wp_exc, wp_ret, wp_badM, wp_lift, wp_chk, wp_alloc, wp_grd, wp_tgt, wp_noXe, wp_dVar, wp_dC, wp_aNil, wp_aCons, wp_dTup, wp_dLst, wp_dOp, wp_dUn, wp_dFn, wB_bl, wp_dChain, wp_dTru, wp_dBool, wp_dNot, wp_dAnd, wp_dOr, wp_dAndV, wp_dOrV, wp_dNotV, wp_dIfE, wp_dYes, wp_dCall, wp_dCallK, wp_dIsi, wp_dIsi2, wp_dMt, wp_oN, wI_int, wp_oS, wp_dSl, wp_dSrc, wp_dZip, wp_dRng1, wp_dRng2, wp_dEnum, wp_dLc, wpS_nx, wpS_rt, wpS_bk, wpS_ct, wpS_exc, wpS_bad, wpS_ite, wpS_dSeq, wpS_dNx, wpS_dBk, wpS_dCt, wpS_dDrop, wpS_dRet, wpS_dRetN, wpS_dIf, wpS_dSet, wpS_dAsg, wpS_dPar, wpS_dPut, wpS_dRaise, wpS_dFor, wp_dfn, wO_some, wO_none, wO_map, wO_bind, wO_ite, List.map_cons, List.map_nil, List.replicate_succ, List.replicate_zero, List.cons_append, List.nil_append, Nat.reduceSub, Nat.reduceAdd, List.getElem?_cons_zero, List.getElem?_cons_succ, List.set_cons_zero, List.set_cons_succ, List.length_cons, List.length_nil, tgN, tgNil, tgCons, tgTup, wipeE, isT, String.reduceBEq, Bool.and_false, Bool.false_and, Bool.true_and, Bool.and_true, Bool.or_false, Bool.false_or, Bool.true_or, Bool.or_true, Bool.not_true, Bool.not_false, if_true, if_false, true_and, and_true, Bool.false_eq_true, Bool.true_eq_false, reduceIte, opEq_int, opNe_int, opEq_str, opNe_str, opAdd_int, opSub_int, opMod_pos, opLt_int, opLe_int, opGt_int, opGe_int, opLt_str, opLe_str, opIsN_ref, opIsN_non, opIsN_int, opIsN_tup, opIsN_str, opIsN_bl, opEq_bl, opNe_bl, opFdiv_int, opMul_int, opPow_int, atI_0, atI_1, atI_2, opIx_ref, opIx_tup, opIx_rl, opLen_tup, opLen_str, opLen_rl, opMax2_int, opMin2_int, opInt_int, opInt_bl, tyN_non, tyN_bl, tyN_int, tyN_str, tyN_tup, tyN_rl, truthW_bl, srcW_tup, srcW_rl, srcW_ref (f12.g0 grT), lenOk_of (show ps.length ≤ 1000000 by omega)]
        cases ab with
        | false =>
          rw [if_neg (by decide)]
          refine ⟨false, _, _, _, _, rfl, ?_, f12⟩
          rw [tk]
          constructor
          · intro h; cases h
          · intro h
            exact hab.mpr fun y hy => h y (List.mem_append_left _ hy)
        | true =>
          rw [if_pos rfl]
          refine wp_mono (wp_lcEx (fun k => ∃ bs, (sets 7)[k]? = some bs ∧ ∀ e ∈ own es x, Spot bs e.2.1 e.2.2) (fun S' => Fr 0 S12 S') Fr.refl (fun S' f => (f12.trans f).g0 grT) ?_) ?_ (fun _ _ q => q)
          · intro k w S' e3 f
            obtain ⟨qq, bs, rfl, e4, hqq, gqq⟩ := RT.get e3
            simp only [wp_ok, wp_exc, wp_ret, wp_badM, wp_lift, wp_chk, wp_alloc, wp_grd, wp_tgt, wp_noXe, wp_dVar, wp_dC, wp_aNil, wp_aCons, wp_dTup, wp_dLst, wp_dOp, wp_dUn, wp_dFn, wB_bl, wp_dChain, wp_dTru, wp_dBool, wp_dNot, wp_dAnd, wp_dOr, wp_dAndV, wp_dOrV, wp_dNotV, wp_dIfE, wp_dYes, wp_dCall, wp_dCallK, wp_dIsi, wp_dIsi2, wp_dMt, wp_oN, wI_int, wp_oS, wp_dSl, wp_dSrc, wp_dZip, wp_dRng1, wp_dRng2, wp_dEnum, wp_dLc, wpS_nx, wpS_rt, wpS_bk, wpS_ct, wpS_exc, wpS_bad, wpS_ite, wpS_dSeq, wpS_dNx, wpS_dBk, wpS_dCt, wpS_dDrop, wpS_dRet, wpS_dRetN, wpS_dIf, wpS_dSet, wpS_dAsg, wpS_dPar, wpS_dPut, wpS_dRaise, wpS_dFor, wp_dfn, wO_some, wO_none, wO_map, wO_bind, wO_ite, List.map_cons, List.map_nil, List.replicate_succ, List.replicate_zero, List.cons_append, List.nil_append, Nat.reduceSub, Nat.reduceAdd, List.getElem?_cons_zero, List.getElem?_cons_succ, List.set_cons_zero, List.set_cons_succ, List.length_cons, List.length_nil, tgN, tgNil, tgCons, tgTup, wipeE, isT, String.reduceBEq, Bool.and_false, Bool.false_and, Bool.true_and, Bool.and_true, Bool.or_false, Bool.false_or, Bool.true_or, Bool.or_true, Bool.not_true, Bool.not_false, if_true, if_false, true_and, and_true, Bool.false_eq_true, Bool.true_eq_false, reduceIte, opEq_int, opNe_int, opEq_str, opNe_str, opAdd_int, opSub_int, opMod_pos, opLt_int, opLe_int, opGt_int, opGe_int, opLt_str, opLe_str, opIsN_ref, opIsN_non, opIsN_int, opIsN_tup, opIsN_str, opIsN_bl, opEq_bl, opNe_bl, opFdiv_int, opMul_int, opPow_int, atI_0, atI_1, atI_2, opIx_ref, opIx_tup, opIx_rl, opLen_tup, opLen_str, opLen_rl, opMax2_int, opMin2_int, opInt_int, opInt_bl, tyN_non, tyN_bl, tyN_int, tyN_str, tyN_tup, tyN_rl, truthW_bl, srcW_tup, srcW_rl]
            refine wp_mono (law_agrees_spec ((f12.trans f).g0 gqq) (f.g0 go) (by rw [h7 7 bs (List.mem_of_getElem? e4)]; decide) fun e he => ((hok e (List.mem_filter.mp he).1).b0)) ?_ (fun _ _ q => q)
            rintro r S13 ⟨rfl, ok, rfl, hiff⟩
            simp only [wp_ok, wp_exc, wp_ret, wp_badM, wp_lift, wp_chk, wp_alloc, wp_grd, wp_tgt, wp_noXe, wp_dVar, wp_dC, wp_aNil, wp_aCons, wp_dTup, wp_dLst, wp_dOp, wp_dUn, wp_dFn, wB_bl, wp_dChain, wp_dTru, wp_dBool, wp_dNot, wp_dAnd, wp_dOr, wp_dAndV, wp_dOrV, wp_dNotV, wp_dIfE, wp_dYes, wp_dCall, wp_dCallK, wp_dIsi, wp_dIsi2, wp_dMt, wp_oN, wI_int, wp_oS, wp_dSl, wp_dSrc, wp_dZip, wp_dRng1, wp_dRng2, wp_dEnum, wp_dLc, wpS_nx, wpS_rt, wpS_bk, wpS_ct, wpS_exc, wpS_bad, wpS_ite, wpS_dSeq, wpS_dNx, wpS_dBk, wpS_dCt, wpS_dDrop, wpS_dRet, wpS_dRetN, wpS_dIf, wpS_dSet, wpS_dAsg, wpS_dPar, wpS_dPut, wpS_dRaise, wpS_dFor, wp_dfn, wO_some, wO_none, wO_map, wO_bind, wO_ite, List.map_cons, List.map_nil, List.replicate_succ, List.replicate_zero, List.cons_append, List.nil_append, Nat.reduceSub, Nat.reduceAdd, List.getElem?_cons_zero, List.getElem?_cons_succ, List.set_cons_zero, List.set_cons_succ, List.length_cons, List.length_nil, tgN, tgNil, tgCons, tgTup, wipeE, isT, String.reduceBEq, Bool.and_false, Bool.false_and, Bool.true_and, Bool.and_true, Bool.or_false, Bool.false_or, Bool.true_or, Bool.or_true, Bool.not_true, Bool.not_false, if_true, if_false, true_and, and_true, Bool.false_eq_true, Bool.true_eq_false, reduceIte, opEq_int, opNe_int, opEq_str, opNe_str, opAdd_int, opSub_int, opMod_pos, opLt_int, opLe_int, opGt_int, opGe_int, opLt_str, opLe_str, opIsN_ref, opIsN_non, opIsN_int, opIsN_tup, opIsN_str, opIsN_bl, opEq_bl, opNe_bl, opFdiv_int, opMul_int, opPow_int, atI_0, atI_1, atI_2, opIx_ref, opIx_tup, opIx_rl, opLen_tup, opLen_str, opLen_rl, opMax2_int, opMin2_int, opInt_int, opInt_bl, tyN_non, tyN_bl, tyN_int, tyN_str, tyN_tup, tyN_rl, truthW_bl, srcW_tup, srcW_rl]
            refine ⟨?_, f⟩
            rw [hiff]
            constructor
            · intro h; exact ⟨bs, e4, h⟩
            · rintro ⟨bs', e5, h⟩
              rw [e4] at e5
              cases e5
              exact h
          · rintro ws S13 ⟨h1, h2, f13⟩
            refine ⟨lenOk_of (by decide), ?_⟩
            rw [opNe_ones (Fr.app.g0 get_new) get_new h1, wO_some]
            refine ⟨_, _, _, _, _, rfl, ?_, f12.trans f13.snoc.snoc⟩
            rw [tk]
            have ex : (ws.isEmpty = false) ↔ able x := by
              rw [h2]
              constructor
              · rintro ⟨k, _, bs, e5, h⟩
                exact ⟨bs, List.mem_of_getElem? e5, h⟩
              · rintro ⟨bs, hm, h⟩
                obtain ⟨k, hk⟩ := List.mem_iff_getElem?.mp hm
                refine ⟨k, ?_, bs, hk, h⟩
                rw [RT.length]
                exact (List.getElem?_eq_some_iff.mp hk).1
            rw [Bool.not_eq_true', ex]
            constructor
            · intro h y hy
              rcases List.mem_append.mp hy with z | z
              · exact hab.mp rfl y z
              · rw [List.mem_singleton.mp z]; exact h
            · intro h
              exact h x (by simp)
    · rintro ε S10 ⟨ab, x7, x10, x11, x12, rfl, hab, f10⟩
      rw [List.length_map, List.take_length] at hab
      have fin := names_all hok
      simp only [wp_ok, wp_exc, wp_ret, wp_badM, wp_lift, wp_chk, wp_alloc, wp_grd, wp_tgt, wp_noXe, wp_dVar, wp_dC, wp_aNil, wp_aCons, wp_dTup, wp_dLst, wp_dOp, wp_dUn, wp_dFn, wB_bl, wp_dChain, wp_dTru, wp_dBool, wp_dNot, wp_dAnd, wp_dOr, wp_dAndV, wp_dOrV, wp_dNotV, wp_dIfE, wp_dYes, wp_dCall, wp_dCallK, wp_dIsi, wp_dIsi2, wp_dMt, wp_oN, wI_int, wp_oS, wp_dSl, wp_dSrc, wp_dZip, wp_dRng1, wp_dRng2, wp_dEnum, wp_dLc, wpS_nx, wpS_rt, wpS_bk, wpS_ct, wpS_exc, wpS_bad, wpS_ite, wpS_dSeq, wpS_dNx, wpS_dBk, wpS_dCt, wpS_dDrop, wpS_dRet, wpS_dRetN, wpS_dIf, wpS_dSet, wpS_dAsg, wpS_dPar, wpS_dPut, wpS_dRaise, wpS_dFor, wp_dfn, wO_some, wO_none, wO_map, wO_bind, wO_ite, List.map_cons, List.map_nil, List.replicate_succ, List.replicate_zero, List.cons_append, List.nil_append, Nat.reduceSub, Nat.reduceAdd, List.getElem?_cons_zero, List.getElem?_cons_succ, List.set_cons_zero, List.set_cons_succ, List.length_cons, List.length_nil, tgN, tgNil, tgCons, tgTup, wipeE, isT, String.reduceBEq, Bool.and_false, Bool.false_and, Bool.true_and, Bool.and_true, Bool.or_false, Bool.false_or, Bool.true_or, Bool.or_true, Bool.not_true, Bool.not_false, if_true, if_false, true_and, and_true, Bool.false_eq_true, Bool.true_eq_false, reduceIte, opEq_int, opNe_int, opEq_str, opNe_str, opAdd_int, opSub_int, opMod_pos, opLt_int, opLe_int, opGt_int, opGe_int, opLt_str, opLe_str, opIsN_ref, opIsN_non, opIsN_int, opIsN_tup, opIsN_str, opIsN_bl, opEq_bl, opNe_bl, opFdiv_int, opMul_int, opPow_int, atI_0, atI_1, atI_2, opIx_ref, opIx_tup, opIx_rl, opLen_tup, opLen_str, opLen_rl, opMax2_int, opMin2_int, opInt_int, opInt_bl, tyN_non, tyN_bl, tyN_int, tyN_str, tyN_tup, tyN_rl, truthW_bl, srcW_tup, srcW_rl, opIsN_any]
      have e5 : isNon (found es) = ab := by
        have : (isNon (found es) = true) ↔ found es = .non := by
          constructor
          · intro h
            cases z : found es <;> rw [z] at h <;> first | rfl | cases h
          · intro h; rw [h]; rfl
        have h3 := this.trans (fin.symm.trans hab.symm)
        cases ab <;> cases z : isNon (found es) <;> simp_all
      rw [e5]
      simp only [wp_ok, wp_exc, wp_ret, wp_badM, wp_lift, wp_chk, wp_alloc, wp_grd, wp_tgt, wp_noXe, wp_dVar, wp_dC, wp_aNil, wp_aCons, wp_dTup, wp_dLst, wp_dOp, wp_dUn, wp_dFn, wB_bl, wp_dChain, wp_dTru, wp_dBool, wp_dNot, wp_dAnd, wp_dOr, wp_dAndV, wp_dOrV, wp_dNotV, wp_dIfE, wp_dYes, wp_dCall, wp_dCallK, wp_dIsi, wp_dIsi2, wp_dMt, wp_oN, wI_int, wp_oS, wp_dSl, wp_dSrc, wp_dZip, wp_dRng1, wp_dRng2, wp_dEnum, wp_dLc, wpS_nx, wpS_rt, wpS_bk, wpS_ct, wpS_exc, wpS_bad, wpS_ite, wpS_dSeq, wpS_dNx, wpS_dBk, wpS_dCt, wpS_dDrop, wpS_dRet, wpS_dRetN, wpS_dIf, wpS_dSet, wpS_dAsg, wpS_dPar, wpS_dPut, wpS_dRaise, wpS_dFor, wp_dfn, wO_some, wO_none, wO_map, wO_bind, wO_ite, List.map_cons, List.map_nil, List.replicate_succ, List.replicate_zero, List.cons_append, List.nil_append, Nat.reduceSub, Nat.reduceAdd, List.getElem?_cons_zero, List.getElem?_cons_succ, List.set_cons_zero, List.set_cons_succ, List.length_cons, List.length_nil, tgN, tgNil, tgCons, tgTup, wipeE, isT, String.reduceBEq, Bool.and_false, Bool.false_and, Bool.true_and, Bool.and_true, Bool.or_false, Bool.false_or, Bool.true_or, Bool.or_true, Bool.not_true, Bool.not_false, if_true, if_false, true_and, and_true, Bool.false_eq_true, Bool.true_eq_false, reduceIte, opEq_int, opNe_int, opEq_str, opNe_str, opAdd_int, opSub_int, opMod_pos, opLt_int, opLe_int, opGt_int, opGe_int, opLt_str, opLe_str, opIsN_ref, opIsN_non, opIsN_int, opIsN_tup, opIsN_str, opIsN_bl, opEq_bl, opNe_bl, opFdiv_int, opMul_int, opPow_int, atI_0, atI_1, atI_2, opIx_ref, opIx_tup, opIx_rl, opLen_tup, opLen_str, opLen_rl, opMax2_int, opMin2_int, opInt_int, opInt_bl, tyN_non, tyN_bl, tyN_int, tyN_str, tyN_tup, tyN_rl, truthW_bl, srcW_tup, srcW_rl, opNe_bl, beq_self_eq_true]
      exact ⟨_, _, _, _, _, _, _, _, _, _, rfl, (DT.mono (by omega) f10), fBT.trans (f10.up (Nat.zero_le _))⟩
  · rintro ε S' ⟨x3, x4, x5, x6, x7, x8, x9, x10, x11, x12, rfl, D3, f3⟩
    simp only [wp_ok, wp_exc, wp_ret, wp_badM, wp_lift, wp_chk, wp_alloc, wp_grd, wp_tgt, wp_noXe, wp_dVar, wp_dC, wp_aNil, wp_aCons, wp_dTup, wp_dLst, wp_dOp, wp_dUn, wp_dFn, wB_bl, wp_dChain, wp_dTru, wp_dBool, wp_dNot, wp_dAnd, wp_dOr, wp_dAndV, wp_dOrV, wp_dNotV, wp_dIfE, wp_dYes, wp_dCall, wp_dCallK, wp_dIsi, wp_dIsi2, wp_dMt, wp_oN, wI_int, wp_oS, wp_dSl, wp_dSrc, wp_dZip, wp_dRng1, wp_dRng2, wp_dEnum, wp_dLc, wpS_nx, wpS_rt, wpS_bk, wpS_ct, wpS_exc, wpS_bad, wpS_ite, wpS_dSeq, wpS_dNx, wpS_dBk, wpS_dCt, wpS_dDrop, wpS_dRet, wpS_dRetN, wpS_dIf, wpS_dSet, wpS_dAsg, wpS_dPar, wpS_dPut, wpS_dRaise, wpS_dFor, wp_dfn, wO_some, wO_none, wO_map, wO_bind, wO_ite, List.map_cons, List.map_nil, List.replicate_succ, List.replicate_zero, List.cons_append, List.nil_append, Nat.reduceSub, Nat.reduceAdd, List.getElem?_cons_zero, List.getElem?_cons_succ, List.set_cons_zero, List.set_cons_succ, List.length_cons, List.length_nil, tgN, tgNil, tgCons, tgTup, wipeE, isT, String.reduceBEq, Bool.and_false, Bool.false_and, Bool.true_and, Bool.and_true, Bool.or_false, Bool.false_or, Bool.true_or, Bool.or_true, Bool.not_true, Bool.not_false, if_true, if_false, true_and, and_true, Bool.false_eq_true, Bool.true_eq_false, reduceIte, opEq_int, opNe_int, opEq_str, opNe_str, opAdd_int, opSub_int, opMod_pos, opLt_int, opLe_int, opGt_int, opGe_int, opLt_str, opLe_str, opIsN_ref, opIsN_non, opIsN_int, opIsN_tup, opIsN_str, opIsN_bl, opEq_bl, opNe_bl, opFdiv_int, opMul_int, opPow_int, atI_0, atI_1, atI_2, opIx_ref, opIx_tup, opIx_rl, opLen_tup, opLen_str, opLen_rl, opMax2_int, opMin2_int, opInt_int, opInt_bl, tyN_non, tyN_bl, tyN_int, tyN_str, tyN_tup, tyN_rl, truthW_bl, srcW_tup, srcW_rl]
    refine ⟨lenOk_of (by decide), lenOk_of (by decide), lenOk_of (by decide), lenOk_of (by decide), lenOk_of (by decide), lenOk_of (by decide), ?_⟩
    let fx : List Ent := [("a", 0, 3), ("b", 1, 1), ("a", 4, 4), ("a", 1, 2), ("a", 2, 2)]
    have na : Name "a" := ⟨by decide, by decide⟩
    have nb : Name "b" := ⟨by decide, by decide⟩
    have gx : ∀ e ∈ fx, Good e := by
      intro e he
      simp only [fx, List.mem_cons, List.mem_nil_iff, or_false] at he
      rcases he with rfl | rfl | rfl | rfl | rfl
      · exact ⟨na, by decide⟩
      · exact ⟨nb, by decide⟩
      · exact ⟨na, by decide⟩
      · exact ⟨na, by decide⟩
      · exact ⟨na, by decide⟩
    refine wp_mono (find_clash_spec (es := fx) get_new (by decide) gx) ?_ (fun _ _ q => q)
    rintro r S10 ⟨rfl, f10⟩
    have e1 : found fx = .tup [.int 0, .int 3] := rfl
    have e2 : ∀ T, opEq (.tup [.int 0, .int 3]) (.tup [.int 0, .int 3]) T = some (.bl true, T) := fun T => rfl
    rw [e1, e2]
    simp only [wp_ok, wp_exc, wp_ret, wp_badM, wp_lift, wp_chk, wp_alloc, wp_grd, wp_tgt, wp_noXe, wp_dVar, wp_dC, wp_aNil, wp_aCons, wp_dTup, wp_dLst, wp_dOp, wp_dUn, wp_dFn, wB_bl, wp_dChain, wp_dTru, wp_dBool, wp_dNot, wp_dAnd, wp_dOr, wp_dAndV, wp_dOrV, wp_dNotV, wp_dIfE, wp_dYes, wp_dCall, wp_dCallK, wp_dIsi, wp_dIsi2, wp_dMt, wp_oN, wI_int, wp_oS, wp_dSl, wp_dSrc, wp_dZip, wp_dRng1, wp_dRng2, wp_dEnum, wp_dLc, wpS_nx, wpS_rt, wpS_bk, wpS_ct, wpS_exc, wpS_bad, wpS_ite, wpS_dSeq, wpS_dNx, wpS_dBk, wpS_dCt, wpS_dDrop, wpS_dRet, wpS_dRetN, wpS_dIf, wpS_dSet, wpS_dAsg, wpS_dPar, wpS_dPut, wpS_dRaise, wpS_dFor, wp_dfn, wO_some, wO_none, wO_map, wO_bind, wO_ite, List.map_cons, List.map_nil, List.replicate_succ, List.replicate_zero, List.cons_append, List.nil_append, Nat.reduceSub, Nat.reduceAdd, List.getElem?_cons_zero, List.getElem?_cons_succ, List.set_cons_zero, List.set_cons_succ, List.length_cons, List.length_nil, tgN, tgNil, tgCons, tgTup, wipeE, isT, String.reduceBEq, Bool.and_false, Bool.false_and, Bool.true_and, Bool.and_true, Bool.or_false, Bool.false_or, Bool.true_or, Bool.or_true, Bool.not_true, Bool.not_false, if_true, if_false, true_and, and_true, Bool.false_eq_true, Bool.true_eq_false, reduceIte, opEq_int, opNe_int, opEq_str, opNe_str, opAdd_int, opSub_int, opMod_pos, opLt_int, opLe_int, opGt_int, opGe_int, opLt_str, opLe_str, opIsN_ref, opIsN_non, opIsN_int, opIsN_tup, opIsN_str, opIsN_bl, opEq_bl, opNe_bl, opFdiv_int, opMul_int, opPow_int, atI_0, atI_1, atI_2, opIx_ref, opIx_tup, opIx_rl, opLen_tup, opLen_str, opLen_rl, opMax2_int, opMin2_int, opInt_int, opInt_bl, tyN_non, tyN_bl, tyN_int, tyN_str, tyN_tup, tyN_rl, truthW_bl, srcW_tup, srcW_rl]
    refine ⟨lenOk_of (by decide), lenOk_of (by decide), ?_⟩
    refine wp_mono (find_clash_spec (es := []) get_new (by decide) (fun e he => by cases he)) ?_ (fun _ _ q => q)
    rintro r S11 ⟨rfl, f11⟩
    rfl
end K49
namespace K49
open PySem L2 N
theorem facts {l : PySem.W.OpenLaw} {w : World} {K : PySem.W.Frag} {h : Heap} {mg : Str → Option Value} {fa : Addr} (X : K.In h) (Gg : h.Ns mainGlobals mg) (hfa : mg "law" = some (.ref fa))
    {t_MOST_SIGNS : Tok}
    {C_InvalidLog : Addr}
    {f_is_integer : Addr} {od_is_integer an_is_integer : Option Addr} {sl_is_integer : Array (Option Value)} {oc_is_integer kV_is_integer dc_is_integer pm_is_integer cd_is_integer ct_is_integer : Value}
    {T_is_integer : Addr} {o_is_integer : Obj} {z_is_integer : Nat}
    {f_is_day : Addr} {od_is_day an_is_day : Option Addr} {sl_is_day : Array (Option Value)} {oc_is_day kV_is_day dc_is_day pm_is_day cd_is_day ct_is_day : Value}
    {f_is_office : Addr} {od_is_office an_is_office : Option Addr} {sl_is_office : Array (Option Value)} {oc_is_office kV_is_office dc_is_office pm_is_office cd_is_office ct_is_office : Value}
    {f_is_entry : Addr} {od_is_entry an_is_entry : Option Addr} {sl_is_entry : Array (Option Value)} {oc_is_entry kV_is_entry dc_is_entry pm_is_entry cd_is_entry ct_is_entry : Value}
    {f_require_log : Addr} {od_require_log an_require_log : Option Addr} {sl_require_log : Array (Option Value)} {oc_require_log kV_require_log dc_require_log pm_require_log cd_require_log ct_require_log : Value}
    {f_closes : Addr} {od_closes an_closes : Option Addr} {sl_closes : Array (Option Value)} {oc_closes kV_closes dc_closes pm_closes cd_closes ct_closes : Value}
    {f_do_clash : Addr} {od_do_clash an_do_clash : Option Addr} {sl_do_clash : Array (Option Value)} {oc_do_clash kV_do_clash dc_do_clash pm_do_clash cd_do_clash ct_do_clash : Value}
    {f_clash_in : Addr} {od_clash_in an_clash_in : Option Addr} {sl_clash_in : Array (Option Value)} {oc_clash_in kV_clash_in dc_clash_in pm_clash_in cd_clash_in ct_clash_in : Value}
    {f_find_clash : Addr} {od_find_clash an_find_clash : Option Addr} {sl_find_clash : Array (Option Value)} {oc_find_clash kV_find_clash dc_find_clash pm_find_clash cd_find_clash ct_find_clash : Value}
    {f_law_deck : Addr} {od_law_deck an_law_deck : Option Addr} {sl_law_deck : Array (Option Value)} {oc_law_deck kV_law_deck dc_law_deck pm_law_deck cd_law_deck ct_law_deck : Value}
    {f_law_draw : Addr} {od_law_draw an_law_draw : Option Addr} {sl_law_draw : Array (Option Value)} {oc_law_draw kV_law_draw dc_law_draw pm_law_draw cd_law_draw ct_law_draw : Value}
    {f_law_same : Addr} {od_law_same an_law_same : Option Addr} {sl_law_same : Array (Option Value)} {oc_law_same kV_law_same dc_law_same pm_law_same cd_law_same ct_law_same : Value}
    {f_law_closes : Addr} {od_law_closes an_law_closes : Option Addr} {sl_law_closes : Array (Option Value)} {oc_law_closes kV_law_closes dc_law_closes pm_law_closes cd_law_closes ct_law_closes : Value}
    {f_law_first_clash : Addr} {od_law_first_clash an_law_first_clash : Option Addr} {sl_law_first_clash : Array (Option Value)} {oc_law_first_clash kV_law_first_clash dc_law_first_clash pm_law_first_clash cd_law_first_clash ct_law_first_clash : Value}
    {f_law_sets : Addr} {od_law_sets an_law_sets : Option Addr} {sl_law_sets : Array (Option Value)} {oc_law_sets kV_law_sets dc_law_sets pm_law_sets cd_law_sets ct_law_sets : Value}
    {f_law_agrees : Addr} {od_law_agrees an_law_agrees : Option Addr} {sl_law_agrees : Array (Option Value)} {oc_law_agrees kV_law_agrees dc_law_agrees pm_law_agrees cd_law_agrees ct_law_agrees : Value}
    {f_law_some_days : Addr} {od_law_some_days an_law_some_days : Option Addr} {sl_law_some_days : Array (Option Value)} {oc_law_some_days kV_law_some_days dc_law_some_days pm_law_some_days cd_law_some_days ct_law_some_days : Value}
    {f_law_entries : Addr} {od_law_entries an_law_entries : Option Addr} {sl_law_entries : Array (Option Value)} {oc_law_entries kV_law_entries dc_law_entries pm_law_entries cd_law_entries ct_law_entries : Value}
    {f_law : Addr} {od_law an_law : Option Addr} {sl_law : Array (Option Value)} {oc_law kV_law dc_law pm_law cd_law ct_law : Value}
    (q_all : PySem.W.nsIn K mainGlobals "all" = some none)
    (q_bool : PySem.W.nsIn K mainGlobals "bool" = some none)
    (q_enumerate : PySem.W.nsIn K mainGlobals "enumerate" = some none)
    (q_int : PySem.W.nsIn K mainGlobals "int" = some none)
    (q_isinstance : PySem.W.nsIn K mainGlobals "isinstance" = some none)
    (q_len : PySem.W.nsIn K mainGlobals "len" = some none)
    (q_list : PySem.W.nsIn K mainGlobals "list" = some none)
    (q_max : PySem.W.nsIn K mainGlobals "max" = some none)
    (q_min : PySem.W.nsIn K mainGlobals "min" = some none)
    (q_range : PySem.W.nsIn K mainGlobals "range" = some none)
    (q_repr : PySem.W.nsIn K mainGlobals "repr" = some none)
    (q_str : PySem.W.nsIn K mainGlobals "str" = some none)
    (q_tuple : PySem.W.nsIn K mainGlobals "tuple" = some none)
    (q_zip : PySem.W.nsIn K mainGlobals "zip" = some none)
    (q_MOST_SIGNS : PySem.W.nsIn K mainGlobals "MOST_SIGNS" = some (some (.int (8) t_MOST_SIGNS)))
    (xg_InvalidLog : PySem.W.nsIn K mainGlobals "InvalidLog" = some (some (.ref C_InvalidLog)))
    (xq_InvalidLog : PySem.W.excIn K C_InvalidLog [.type "ValueError", .type "Exception", .type "BaseException", .type "object"] "ValueError.__new__" = true)
    (xk_InvalidLog : PySem.W.keepIn K (.ref C_InvalidLog) = true)
    (xs_InvalidLog : PySem.W.subIn K (.ref C_InvalidLog) (.type "BaseException") = some true)
    (xt_InvalidLog : PySem.W.typeIn K (.ref C_InvalidLog) = some (.type "type"))
    (a_is_integer : PySem.W.nsIn K mainGlobals "is_integer" = some (some (.ref f_is_integer)))
    (l_is_integer : K.lookup f_is_integer = some ⟨oc_is_integer, od_is_integer, .func (PySem.W.fnOf "is_integer" "is_integer" (defArgs (top 4)) (defBody (top 4)) (defScope (top 4)) (.ref T_is_integer) kV_is_integer dc_is_integer pm_is_integer an_is_integer cd_is_integer ct_is_integer), sl_is_integer⟩)
    (c_is_integer : PySem.W.codeIn K cd_is_integer "is_integer" = true)
    (k_is_integer : PySem.W.keepIn K (.ref f_is_integer) = true)
    (e_is_integer : K.lookup T_is_integer = some o_is_integer)
    (g_is_integer : o_is_integer.data = .seq ([.none, .none] : List Value).toArray z_is_integer)
    (a_is_day : PySem.W.nsIn K mainGlobals "is_day" = some (some (.ref f_is_day)))
    (l_is_day : K.lookup f_is_day = some ⟨oc_is_day, od_is_day, .func (PySem.W.fnOf "is_day" "is_day" (defArgs (top 5)) (defBody (top 5)) (defScope (top 5)) .none kV_is_day dc_is_day pm_is_day an_is_day cd_is_day ct_is_day), sl_is_day⟩)
    (c_is_day : PySem.W.codeIn K cd_is_day "is_day" = true)
    (k_is_day : PySem.W.keepIn K (.ref f_is_day) = true)
    (a_is_office : PySem.W.nsIn K mainGlobals "is_office" = some (some (.ref f_is_office)))
    (l_is_office : K.lookup f_is_office = some ⟨oc_is_office, od_is_office, .func (PySem.W.fnOf "is_office" "is_office" (defArgs (top 8)) (defBody (top 8)) (defScope (top 8)) .none kV_is_office dc_is_office pm_is_office an_is_office cd_is_office ct_is_office), sl_is_office⟩)
    (c_is_office : PySem.W.codeIn K cd_is_office "is_office" = true)
    (k_is_office : PySem.W.keepIn K (.ref f_is_office) = true)
    (a_is_entry : PySem.W.nsIn K mainGlobals "is_entry" = some (some (.ref f_is_entry)))
    (l_is_entry : K.lookup f_is_entry = some ⟨oc_is_entry, od_is_entry, .func (PySem.W.fnOf "is_entry" "is_entry" (defArgs (top 10)) (defBody (top 10)) (defScope (top 10)) .none kV_is_entry dc_is_entry pm_is_entry an_is_entry cd_is_entry ct_is_entry), sl_is_entry⟩)
    (c_is_entry : PySem.W.codeIn K cd_is_entry "is_entry" = true)
    (k_is_entry : PySem.W.keepIn K (.ref f_is_entry) = true)
    (a_require_log : PySem.W.nsIn K mainGlobals "require_log" = some (some (.ref f_require_log)))
    (l_require_log : K.lookup f_require_log = some ⟨oc_require_log, od_require_log, .func (PySem.W.fnOf "require_log" "require_log" (defArgs (top 11)) (defBody (top 11)) (defScope (top 11)) .none kV_require_log dc_require_log pm_require_log an_require_log cd_require_log ct_require_log), sl_require_log⟩)
    (c_require_log : PySem.W.codeIn K cd_require_log "require_log" = true)
    (k_require_log : PySem.W.keepIn K (.ref f_require_log) = true)
    (a_closes : PySem.W.nsIn K mainGlobals "closes" = some (some (.ref f_closes)))
    (l_closes : K.lookup f_closes = some ⟨oc_closes, od_closes, .func (PySem.W.fnOf "closes" "closes" (defArgs (top 12)) (defBody (top 12)) (defScope (top 12)) .none kV_closes dc_closes pm_closes an_closes cd_closes ct_closes), sl_closes⟩)
    (c_closes : PySem.W.codeIn K cd_closes "closes" = true)
    (k_closes : PySem.W.keepIn K (.ref f_closes) = true)
    (a_do_clash : PySem.W.nsIn K mainGlobals "do_clash" = some (some (.ref f_do_clash)))
    (l_do_clash : K.lookup f_do_clash = some ⟨oc_do_clash, od_do_clash, .func (PySem.W.fnOf "do_clash" "do_clash" (defArgs (top 13)) (defBody (top 13)) (defScope (top 13)) .none kV_do_clash dc_do_clash pm_do_clash an_do_clash cd_do_clash ct_do_clash), sl_do_clash⟩)
    (c_do_clash : PySem.W.codeIn K cd_do_clash "do_clash" = true)
    (k_do_clash : PySem.W.keepIn K (.ref f_do_clash) = true)
    (a_clash_in : PySem.W.nsIn K mainGlobals "clash_in" = some (some (.ref f_clash_in)))
    (l_clash_in : K.lookup f_clash_in = some ⟨oc_clash_in, od_clash_in, .func (PySem.W.fnOf "clash_in" "clash_in" (defArgs (top 14)) (defBody (top 14)) (defScope (top 14)) .none kV_clash_in dc_clash_in pm_clash_in an_clash_in cd_clash_in ct_clash_in), sl_clash_in⟩)
    (c_clash_in : PySem.W.codeIn K cd_clash_in "clash_in" = true)
    (k_clash_in : PySem.W.keepIn K (.ref f_clash_in) = true)
    (a_find_clash : PySem.W.nsIn K mainGlobals "find_clash" = some (some (.ref f_find_clash)))
    (l_find_clash : K.lookup f_find_clash = some ⟨oc_find_clash, od_find_clash, .func (PySem.W.fnOf "find_clash" "find_clash" (defArgs (top 15)) (defBody (top 15)) (defScope (top 15)) .none kV_find_clash dc_find_clash pm_find_clash an_find_clash cd_find_clash ct_find_clash), sl_find_clash⟩)
    (c_find_clash : PySem.W.codeIn K cd_find_clash "find_clash" = true)
    (k_find_clash : PySem.W.keepIn K (.ref f_find_clash) = true)
    (a_law_deck : PySem.W.nsIn K mainGlobals "_law_deck" = some (some (.ref f_law_deck)))
    (l_law_deck : K.lookup f_law_deck = some ⟨oc_law_deck, od_law_deck, .func (PySem.W.fnOf "_law_deck" "_law_deck" (defArgs (top 17)) (defBody (top 17)) (defScope (top 17)) .none kV_law_deck dc_law_deck pm_law_deck an_law_deck cd_law_deck ct_law_deck), sl_law_deck⟩)
    (c_law_deck : PySem.W.codeIn K cd_law_deck "_law_deck" = true)
    (k_law_deck : PySem.W.keepIn K (.ref f_law_deck) = true)
    (a_law_draw : PySem.W.nsIn K mainGlobals "_law_draw" = some (some (.ref f_law_draw)))
    (l_law_draw : K.lookup f_law_draw = some ⟨oc_law_draw, od_law_draw, .func (PySem.W.fnOf "_law_draw" "_law_draw" (defArgs (top 18)) (defBody (top 18)) (defScope (top 18)) .none kV_law_draw dc_law_draw pm_law_draw an_law_draw cd_law_draw ct_law_draw), sl_law_draw⟩)
    (c_law_draw : PySem.W.codeIn K cd_law_draw "_law_draw" = true)
    (k_law_draw : PySem.W.keepIn K (.ref f_law_draw) = true)
    (a_law_same : PySem.W.nsIn K mainGlobals "_law_same" = some (some (.ref f_law_same)))
    (l_law_same : K.lookup f_law_same = some ⟨oc_law_same, od_law_same, .func (PySem.W.fnOf "_law_same" "_law_same" (defArgs (top 19)) (defBody (top 19)) (defScope (top 19)) .none kV_law_same dc_law_same pm_law_same an_law_same cd_law_same ct_law_same), sl_law_same⟩)
    (c_law_same : PySem.W.codeIn K cd_law_same "_law_same" = true)
    (k_law_same : PySem.W.keepIn K (.ref f_law_same) = true)
    (a_law_closes : PySem.W.nsIn K mainGlobals "_law_closes" = some (some (.ref f_law_closes)))
    (l_law_closes : K.lookup f_law_closes = some ⟨oc_law_closes, od_law_closes, .func (PySem.W.fnOf "_law_closes" "_law_closes" (defArgs (top 20)) (defBody (top 20)) (defScope (top 20)) .none kV_law_closes dc_law_closes pm_law_closes an_law_closes cd_law_closes ct_law_closes), sl_law_closes⟩)
    (c_law_closes : PySem.W.codeIn K cd_law_closes "_law_closes" = true)
    (k_law_closes : PySem.W.keepIn K (.ref f_law_closes) = true)
    (a_law_first_clash : PySem.W.nsIn K mainGlobals "_law_first_clash" = some (some (.ref f_law_first_clash)))
    (l_law_first_clash : K.lookup f_law_first_clash = some ⟨oc_law_first_clash, od_law_first_clash, .func (PySem.W.fnOf "_law_first_clash" "_law_first_clash" (defArgs (top 21)) (defBody (top 21)) (defScope (top 21)) .none kV_law_first_clash dc_law_first_clash pm_law_first_clash an_law_first_clash cd_law_first_clash ct_law_first_clash), sl_law_first_clash⟩)
    (c_law_first_clash : PySem.W.codeIn K cd_law_first_clash "_law_first_clash" = true)
    (k_law_first_clash : PySem.W.keepIn K (.ref f_law_first_clash) = true)
    (a_law_sets : PySem.W.nsIn K mainGlobals "_law_sets" = some (some (.ref f_law_sets)))
    (l_law_sets : K.lookup f_law_sets = some ⟨oc_law_sets, od_law_sets, .func (PySem.W.fnOf "_law_sets" "_law_sets" (defArgs (top 22)) (defBody (top 22)) (defScope (top 22)) .none kV_law_sets dc_law_sets pm_law_sets an_law_sets cd_law_sets ct_law_sets), sl_law_sets⟩)
    (c_law_sets : PySem.W.codeIn K cd_law_sets "_law_sets" = true)
    (k_law_sets : PySem.W.keepIn K (.ref f_law_sets) = true)
    (a_law_agrees : PySem.W.nsIn K mainGlobals "_law_agrees" = some (some (.ref f_law_agrees)))
    (l_law_agrees : K.lookup f_law_agrees = some ⟨oc_law_agrees, od_law_agrees, .func (PySem.W.fnOf "_law_agrees" "_law_agrees" (defArgs (top 23)) (defBody (top 23)) (defScope (top 23)) .none kV_law_agrees dc_law_agrees pm_law_agrees an_law_agrees cd_law_agrees ct_law_agrees), sl_law_agrees⟩)
    (c_law_agrees : PySem.W.codeIn K cd_law_agrees "_law_agrees" = true)
    (k_law_agrees : PySem.W.keepIn K (.ref f_law_agrees) = true)
    (a_law_some_days : PySem.W.nsIn K mainGlobals "_law_some_days" = some (some (.ref f_law_some_days)))
    (l_law_some_days : K.lookup f_law_some_days = some ⟨oc_law_some_days, od_law_some_days, .func (PySem.W.fnOf "_law_some_days" "_law_some_days" (defArgs (top 24)) (defBody (top 24)) (defScope (top 24)) .none kV_law_some_days dc_law_some_days pm_law_some_days an_law_some_days cd_law_some_days ct_law_some_days), sl_law_some_days⟩)
    (c_law_some_days : PySem.W.codeIn K cd_law_some_days "_law_some_days" = true)
    (k_law_some_days : PySem.W.keepIn K (.ref f_law_some_days) = true)
    (a_law_entries : PySem.W.nsIn K mainGlobals "_law_entries" = some (some (.ref f_law_entries)))
    (l_law_entries : K.lookup f_law_entries = some ⟨oc_law_entries, od_law_entries, .func (PySem.W.fnOf "_law_entries" "_law_entries" (defArgs (top 25)) (defBody (top 25)) (defScope (top 25)) .none kV_law_entries dc_law_entries pm_law_entries an_law_entries cd_law_entries ct_law_entries), sl_law_entries⟩)
    (c_law_entries : PySem.W.codeIn K cd_law_entries "_law_entries" = true)
    (k_law_entries : PySem.W.keepIn K (.ref f_law_entries) = true)
    (a_law : PySem.W.nsIn K mainGlobals "law" = some (some (.ref f_law)))
    (l_law : K.lookup f_law = some ⟨oc_law, od_law, .func (PySem.W.fnOf "law" "law" (defArgs (top 26)) (defBody (top 26)) (defScope (top 26)) .none kV_law dc_law pm_law an_law cd_law ct_law), sl_law⟩)
    (c_law : PySem.W.codeIn K cd_law "law" = true)
    (k_law : PySem.W.keepIn K (.ref f_law) = true)
    : ∃ (fd : FuncData) (cl : Nat → Addr), (∀ (s : Shared) (u : Value), BindsTo s fd ⟨[u], []⟩ [("script", u)]) ∧ ∀ base : Heap, K.In base → base.Ns mainGlobals mg → FnG ⟨l.prog, w, K, mg, base, cl⟩ 9 fa fd ["script"] (spN ⟨l.prog, w, K, mg, base, cl⟩ n_law) := by
  have T : ∀ base : Heap, Txt ⟨l.prog, w, K, mg, base, fun i => if i = 1 then C_InvalidLog else 0⟩ := fun base => {
    b_all := PySem.W.mg_none_of X Gg q_all,
    b_bool := PySem.W.mg_none_of X Gg q_bool,
    b_enumerate := PySem.W.mg_none_of X Gg q_enumerate,
    b_int := PySem.W.mg_none_of X Gg q_int,
    b_isinstance := PySem.W.mg_none_of X Gg q_isinstance,
    b_len := PySem.W.mg_none_of X Gg q_len,
    b_list := PySem.W.mg_none_of X Gg q_list,
    b_max := PySem.W.mg_none_of X Gg q_max,
    b_min := PySem.W.mg_none_of X Gg q_min,
    b_range := PySem.W.mg_none_of X Gg q_range,
    b_repr := PySem.W.mg_none_of X Gg q_repr,
    b_str := PySem.W.mg_none_of X Gg q_str,
    b_tuple := PySem.W.mg_none_of X Gg q_tuple,
    b_zip := PySem.W.mg_none_of X Gg q_zip,
    c_MOST_SIGNS := ⟨_, PySem.W.mg_of X Gg q_MOST_SIGNS⟩,
    x_InvalidLog := ⟨PySem.W.mg_of X Gg xg_InvalidLog, xq_InvalidLog, xk_InvalidLog, xs_InvalidLog, xt_InvalidLog⟩,
    f_is_integer := ⟨f_is_integer, _, T_is_integer, o_is_integer, z_is_integer, PySem.W.mg_of X Gg a_is_integer, k_is_integer, funX_mk l_is_integer c_is_integer, rfl, e_is_integer, g_is_integer⟩,
    f_is_day := ⟨f_is_day, _, PySem.W.mg_of X Gg a_is_day, k_is_day, funX_mk l_is_day c_is_day, rfl⟩,
    f_is_office := ⟨f_is_office, _, PySem.W.mg_of X Gg a_is_office, k_is_office, funX_mk l_is_office c_is_office, rfl⟩,
    f_is_entry := ⟨f_is_entry, _, PySem.W.mg_of X Gg a_is_entry, k_is_entry, funX_mk l_is_entry c_is_entry, rfl⟩,
    f_require_log := ⟨f_require_log, _, PySem.W.mg_of X Gg a_require_log, k_require_log, funX_mk l_require_log c_require_log, rfl⟩,
    f_closes := ⟨f_closes, _, PySem.W.mg_of X Gg a_closes, k_closes, funX_mk l_closes c_closes, rfl⟩,
    f_do_clash := ⟨f_do_clash, _, PySem.W.mg_of X Gg a_do_clash, k_do_clash, funX_mk l_do_clash c_do_clash, rfl⟩,
    f_clash_in := ⟨f_clash_in, _, PySem.W.mg_of X Gg a_clash_in, k_clash_in, funX_mk l_clash_in c_clash_in, rfl⟩,
    f_find_clash := ⟨f_find_clash, _, PySem.W.mg_of X Gg a_find_clash, k_find_clash, funX_mk l_find_clash c_find_clash, rfl⟩,
    f_law_deck := ⟨f_law_deck, _, PySem.W.mg_of X Gg a_law_deck, k_law_deck, funX_mk l_law_deck c_law_deck, rfl⟩,
    f_law_draw := ⟨f_law_draw, _, PySem.W.mg_of X Gg a_law_draw, k_law_draw, funX_mk l_law_draw c_law_draw, rfl⟩,
    f_law_same := ⟨f_law_same, _, PySem.W.mg_of X Gg a_law_same, k_law_same, funX_mk l_law_same c_law_same, rfl⟩,
    f_law_closes := ⟨f_law_closes, _, PySem.W.mg_of X Gg a_law_closes, k_law_closes, funX_mk l_law_closes c_law_closes, rfl⟩,
    f_law_first_clash := ⟨f_law_first_clash, _, PySem.W.mg_of X Gg a_law_first_clash, k_law_first_clash, funX_mk l_law_first_clash c_law_first_clash, rfl⟩,
    f_law_sets := ⟨f_law_sets, _, PySem.W.mg_of X Gg a_law_sets, k_law_sets, funX_mk l_law_sets c_law_sets, rfl⟩,
    f_law_agrees := ⟨f_law_agrees, _, PySem.W.mg_of X Gg a_law_agrees, k_law_agrees, funX_mk l_law_agrees c_law_agrees, rfl⟩,
    f_law_some_days := ⟨f_law_some_days, _, PySem.W.mg_of X Gg a_law_some_days, k_law_some_days, funX_mk l_law_some_days c_law_some_days, rfl⟩,
    f_law_entries := ⟨f_law_entries, _, PySem.W.mg_of X Gg a_law_entries, k_law_entries, funX_mk l_law_entries c_law_entries, rfl⟩,
    f_law := ⟨f_law, _, PySem.W.mg_of X Gg a_law, k_law, funX_mk l_law c_law, rfl⟩ }
  have e := hfa.symm.trans (PySem.W.mg_of X Gg a_law)
  cases e
  exact ⟨_, fun i => if i = 1 then C_InvalidLog else 0, fun s u => .of_eq rfl, fun base _ _ => fn_ok (funX_mk l_law c_law) sc_law rfl (bd_law (T base))⟩
end K49
open PySem PySem.W PyProof.Rows
set_option maxRecDepth 100000 in
set_option maxHeartbeats 0 in
theorem PySem.Challenge.cw_daychains_k49_clashes_of_logs_holds : PySem.Challenge.rw_daychains_k49_clashes_of_logs.Holds := by
  w_on; o_law; k_head; (case hw => w_witness2)
  k_fill
  refine N.walkG (l := PySem.Challenge.rw_daychains_k49_clashes_of_logs) (n := 63) (k := 9) (x := "script") (den := K49.n_law) rfl (by decide) rfl ⟨rfl, by decide, by decide⟩ (fun w h Y => PySem.W.kIn_of Y) ?F (fun ns h1 h2 => K49.law_true ns h1 h2)
  case F =>
    intro w mg fa h KX G hmg
    refine' K49.facts KX G hmg ?q_all ?q_bool ?q_enumerate ?q_int ?q_isinstance ?q_len ?q_list ?q_max ?q_min ?q_range ?q_repr ?q_str ?q_tuple ?q_zip ?q_MOST_SIGNS ?xg_InvalidLog ?xq_InvalidLog ?xk_InvalidLog ?xs_InvalidLog ?xt_InvalidLog ?a_is_integer ?l_is_integer ?c_is_integer ?k_is_integer ?e_is_integer ?g_is_integer ?a_is_day ?l_is_day ?c_is_day ?k_is_day ?a_is_office ?l_is_office ?c_is_office ?k_is_office ?a_is_entry ?l_is_entry ?c_is_entry ?k_is_entry ?a_require_log ?l_require_log ?c_require_log ?k_require_log ?a_closes ?l_closes ?c_closes ?k_closes ?a_do_clash ?l_do_clash ?c_do_clash ?k_do_clash ?a_clash_in ?l_clash_in ?c_clash_in ?k_clash_in ?a_find_clash ?l_find_clash ?c_find_clash ?k_find_clash ?a_law_deck ?l_law_deck ?c_law_deck ?k_law_deck ?a_law_draw ?l_law_draw ?c_law_draw ?k_law_draw ?a_law_same ?l_law_same ?c_law_same ?k_law_same ?a_law_closes ?l_law_closes ?c_law_closes ?k_law_closes ?a_law_first_clash ?l_law_first_clash ?c_law_first_clash ?k_law_first_clash ?a_law_sets ?l_law_sets ?c_law_sets ?k_law_sets ?a_law_agrees ?l_law_agrees ?c_law_agrees ?k_law_agrees ?a_law_some_days ?l_law_some_days ?c_law_some_days ?k_law_some_days ?a_law_entries ?l_law_entries ?c_law_entries ?k_law_entries ?a_law ?l_law ?c_law ?k_law
    (case q_all => k_is)
    (case q_bool => k_is)
    (case q_enumerate => k_is)
    (case q_int => k_is)
    (case q_isinstance => k_is)
    (case q_len => k_is)
    (case q_list => k_is)
    (case q_max => k_is)
    (case q_min => k_is)
    (case q_range => k_is)
    (case q_repr => k_is)
    (case q_str => k_is)
    (case q_tuple => k_is)
    (case q_zip => k_is)
    (case q_MOST_SIGNS => k_is)
    (case xg_InvalidLog => k_is)
    (case xq_InvalidLog => k_exc)
    (case xk_InvalidLog => k_is)
    (case xs_InvalidLog => k_is)
    (case xt_InvalidLog => k_is)
    (case a_is_integer => k_is)
    (case l_is_integer => k_is)
    (case c_is_integer => k_is)
    (case k_is_integer => k_is)
    (case e_is_integer => k_is)
    (case g_is_integer => rfl)
    (case a_is_day => k_is)
    (case l_is_day => k_is)
    (case c_is_day => k_is)
    (case k_is_day => k_is)
    (case a_is_office => k_is)
    (case l_is_office => k_is)
    (case c_is_office => k_is)
    (case k_is_office => k_is)
    (case a_is_entry => k_is)
    (case l_is_entry => k_is)
    (case c_is_entry => k_is)
    (case k_is_entry => k_is)
    (case a_require_log => k_is)
    (case l_require_log => k_is)
    (case c_require_log => k_is)
    (case k_require_log => k_is)
    (case a_closes => k_is)
    (case l_closes => k_is)
    (case c_closes => k_is)
    (case k_closes => k_is)
    (case a_do_clash => k_is)
    (case l_do_clash => k_is)
    (case c_do_clash => k_is)
    (case k_do_clash => k_is)
    (case a_clash_in => k_is)
    (case l_clash_in => k_is)
    (case c_clash_in => k_is)
    (case k_clash_in => k_is)
    (case a_find_clash => k_is)
    (case l_find_clash => k_is)
    (case c_find_clash => k_is)
    (case k_find_clash => k_is)
    (case a_law_deck => k_is)
    (case l_law_deck => k_is)
    (case c_law_deck => k_is)
    (case k_law_deck => k_is)
    (case a_law_draw => k_is)
    (case l_law_draw => k_is)
    (case c_law_draw => k_is)
    (case k_law_draw => k_is)
    (case a_law_same => k_is)
    (case l_law_same => k_is)
    (case c_law_same => k_is)
    (case k_law_same => k_is)
    (case a_law_closes => k_is)
    (case l_law_closes => k_is)
    (case c_law_closes => k_is)
    (case k_law_closes => k_is)
    (case a_law_first_clash => k_is)
    (case l_law_first_clash => k_is)
    (case c_law_first_clash => k_is)
    (case k_law_first_clash => k_is)
    (case a_law_sets => k_is)
    (case l_law_sets => k_is)
    (case c_law_sets => k_is)
    (case k_law_sets => k_is)
    (case a_law_agrees => k_is)
    (case l_law_agrees => k_is)
    (case c_law_agrees => k_is)
    (case k_law_agrees => k_is)
    (case a_law_some_days => k_is)
    (case l_law_some_days => k_is)
    (case c_law_some_days => k_is)
    (case k_law_some_days => k_is)
    (case a_law_entries => k_is)
    (case l_law_entries => k_is)
    (case c_law_entries => k_is)
    (case k_law_entries => k_is)
    (case a_law => k_is)
    (case l_law => k_is)
    (case c_law => k_is)
    (case k_law => k_is)
