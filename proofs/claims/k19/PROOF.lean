import PyProof.Rows.All
import HandS.ForMost
import HandS.Deep
import HandS.TupAny
import HandS.TupMul
import HandS.SortRule
import HandS.Zip
import HandS.Rev
import HandS.Walk
import HandS.Style
import KE.GoesNew
import KE.DataEq
import KE.DataCmp
import KE.DataMinMax
import KE.DataIsa
import KE.DatumOrd
import HandS.Conv
import HandS.RevRange
import HandS.IsInst
import KE.SortData
import KE.DataFind
import PyProof.SeqIndex
import HandS.SortKw
import HandS.Flt
import PySem.Challenge.RW_farkept_k19_whole_prints_summed
set_option Elab.async false
set_option linter.all false
set_option maxRecDepth 100000
set_option maxHeartbeats 1000000
/-! PV1: pure data over the layer's abstract heap: what represents what -/
namespace PV
open PySem L2

abbrev nohp : Hp := fun _ => none
/-- a list that nobody changes: tracked and not at a forbidden place -/
def Lst (N : Addr → Prop) (H : Hp) (a : Addr) (vs : List V) : Prop := H a = some (.lst vs) ∧ ¬ N a
/-- the script: a list that is read alone -/
def Scr (K : PySem.W.Frag) (N : Addr → Prop) (H : Hp) (a : Addr) (vs : List V) : Prop := (Rd H a (.lst vs) ∧ ¬ N a) ∨ SqL K nohp a vs
/-- the script's item, as a datum's part -/
def scrI (n : Int) : PyData × PyData := (.int n, .none)

mutual
/-- v stands for the datum; lists within are at no place of N -/
inductive Rp (K : PySem.W.Frag) (N : Addr → Prop) (H : Hp) : PyData → V → Prop
  | non : Rp K N H .none .non
  | bl (b : Bool) : Rp K N H (.bool b) (.bl b)
  | int (i : Int) : Rp K N H (.int i) (.int i)
  | str (x : Str) : Rp K N H (.str x) (.str x)
  | lst {a : Addr} {xs : List PyData} {vs : List V} : Lst N H a vs → RpA K N H xs vs → Rp K N H (.list xs) (.ref a)
  | scr {a : Addr} {ns : List Int} : Scr K N H a (ns.map .int) → Rp K N H (.dict (ns.map scrI)) (.ref a)
  | tup {a : Addr} {xs : List PyData} {vs : List V} : SqT K H a vs → RpA K N H xs vs → Rp K N H (.tuple xs) (.ref a)
inductive RpA (K : PySem.W.Frag) (N : Addr → Prop) (H : Hp) : List PyData → List V → Prop
  | nil : RpA K N H [] []
  | cons {d : PyData} {ds : List PyData} {v : V} {vs : List V} : Rp K N H d v → RpA K N H ds vs → RpA K N H (d :: ds) (v :: vs)
end

/-- all that is not a list at a place of N stays -/
def Keep (N : Addr → Prop) (H H' : Hp) : Prop := ∀ a u, H a = some u → (¬ N a ∨ ∀ xs, u ≠ .lst xs) → H' a = some u
/-- N' takes no known place that N leaves free -/
def Sub (H : Hp) (N N' : Addr → Prop) : Prop := ∀ a, (H a).isSome = true → N' a → N a

theorem some_of {α : Type} {x : Option α} {y : α} (h : x = some y) : x.isSome = true := by rw [h]; rfl
theorem sRefl (H : Hp) : Same H H := fun _ _ h => h
theorem sTr {H H1 H2 : Hp} (a : Same H H1) (b : Same H1 H2) : Same H H2 := fun x o h => b x o (a x o h)
theorem sKeep {N : Addr → Prop} {H H' : Hp} (h : Same H H') : Keep N H H' := fun a u e _ => h a u e
theorem sNew {H : Hp} {p : Addr} {o : HO} (h : H p = none) : Same H (upd H p o) := fun b u e => by
  rw [upd_ne (ne_of_none e h)]; exact e
theorem sNone {H H' : Hp} (h : Same H H') {p : Addr} (e : H' p = none) : H p = none := by
  cases q : H p with
  | none => rfl
  | some o => rw [h p o q] at e; cases e
theorem Sub.refl {H : Hp} {N : Addr → Prop} : Sub H N N := fun _ _ h => h

theorem Rd.some {H : Hp} {a : Addr} {u : HO} (h : Rd H a u) : (H a).isSome = true := by
  rcases h with h | ⟨o, h⟩ <;> rw [h] <;> rfl
theorem Lst.step {N N' : Addr → Prop} {H H' : Hp} {a : Addr} {vs : List V} (k : Keep N H H') (s : Sub H N N') (h : Lst N H a vs) : Lst N' H' a vs :=
  ⟨k a _ h.1 (.inl h.2), fun z => h.2 (s a (some_of h.1) z)⟩
theorem Lst.seq {K : PySem.W.Frag} {N : Addr → Prop} {H : Hp} {a : Addr} {vs : List V} (h : Lst N H a vs) : SqL K H a vs := .inl (.inl h.1)
theorem Scr.step {K : PySem.W.Frag} {N N' : Addr → Prop} {H H' : Hp} {a : Addr} {vs : List V} (k : Keep N H H') (s : Sub H N N') (h : Scr K N H a vs) : Scr K N' H' a vs := by
  rcases h with ⟨h, hn⟩ | h
  · refine .inl ⟨?_, fun z => hn (s a (Rd.some h) z)⟩
    rcases h with h | ⟨o, h⟩
    · exact .inl (k a _ h (.inl hn))
    · exact .inr ⟨o, k a _ h (.inl hn)⟩
  · exact .inr h
theorem Scr.seq {K : PySem.W.Frag} {N : Addr → Prop} {H : Hp} {a : Addr} {vs : List V} (h : Scr K N H a vs) : SqL K H a vs := by
  rcases h with ⟨h, _⟩ | h
  · exact .inl h
  · rcases h with h | h
    · rcases h with h | ⟨_, h⟩ <;> cases h
    · exact .inr h
theorem sqT_step {K : PySem.W.Frag} {N : Addr → Prop} {H H' : Hp} {a : Addr} {vs : List V} (k : Keep N H H') (h : SqT K H a vs) : SqT K H' a vs := by
  rcases h with h | h
  · refine .inl ?_
    rcases h with h | ⟨o, h⟩
    · exact .inl (k a _ h (.inr fun xs e => by cases e))
    · exact .inr ⟨o, k a _ h (.inr fun xs e => by cases e)⟩
  · exact .inr h

section
variable {K : PySem.W.Frag} {N N' : Addr → Prop} {H H' : Hp}
mutual
theorem Rp.step (k : Keep N H H') (s : Sub H N N') : ∀ (d : PyData) (v : V), Rp K N H d v → Rp K N' H' d v
  | .none, _, h => by cases h; exact .non
  | .bool b, _, h => by cases h; exact .bl b
  | .int i, _, h => by cases h; exact .int i
  | .str x, _, h => by cases h; exact .str x
  | .list xs, _, h => by
    cases h with
    | lst h1 h2 => exact .lst (h1.step k s) (RpA.step k s xs _ h2)
  | .tuple xs, _, h => by
    cases h with
    | tup h1 h2 => exact .tup (sqT_step k h1) (RpA.step k s xs _ h2)
  | .dict _, _, h => by
    cases h with
    | scr h1 => exact .scr (h1.step k s)
theorem RpA.step (k : Keep N H H') (s : Sub H N N') : ∀ (ds : List PyData) (vs : List V), RpA K N H ds vs → RpA K N' H' ds vs
  | [], _, h => by cases h; exact .nil
  | d :: ds, _, h => by
    cases h with
    | cons h1 h2 => exact .cons (Rp.step k s d _ h1) (RpA.step k s ds _ h2)
end
theorem Rp.mono {d : PyData} {v : V} (h : Rp K N H d v) (m : Same H H') : Rp K N H' d v := Rp.step (sKeep m) Sub.refl d v h
theorem RpA.mono {d : List PyData} {v : List V} (h : RpA K N H d v) (m : Same H H') : RpA K N H' d v := RpA.step (sKeep m) Sub.refl d v h
theorem Rp.sub {d : PyData} {v : V} (h : Rp K N H d v) (s : Sub H N N') : Rp K N' H d v := Rp.step (sKeep (sRefl H)) s d v h
theorem RpA.sub {d : List PyData} {v : List V} (h : RpA K N H d v) (s : Sub H N N') : RpA K N' H d v := RpA.step (sKeep (sRefl H)) s d v h

/-- what stands lies at no new place -/
theorem RpA.fresh {l : Addr} {o : HO} {d : List PyData} {v : List V} (h : RpA K N H d v) (nl : H l = none) : RpA K (fun a => N a ∨ a = l) (upd H l o) d v :=
  RpA.step (sKeep (sNew nl)) (fun a ha z => z.elim id fun z => by rw [z, nl] at ha; cases ha) d v h

mutual
theorem Rp.dp : ∀ (d : PyData) (v : V), d.canLay0 = true → Rp K N H d v → Dp K H v d
  | .none, _, _, h => by cases h; exact .non
  | .bool b, _, _, h => by cases h; exact .bl b
  | .int i, _, _, h => by cases h; exact .int i
  | .str x, _, _, h => by cases h; exact .str x
  | .list xs, _, c, h => by
    cases h with
    | lst h1 h2 => exact .lst h1.seq (RpA.dp xs _ (by simpa [PyData.canLay0] using c) h2)
  | .tuple xs, _, c, h => by
    cases h with
    | tup h1 h2 => exact .tup h1 (RpA.dp xs _ (by simpa [PyData.canLay0] using c) h2)
  | .dict _, _, c, _ => by simp [PyData.canLay0] at c
theorem RpA.dp : ∀ (ds : List PyData) (vs : List V), PyData.canLayAll0 ds = true → RpA K N H ds vs → DpAll K H vs ds
  | [], _, _, h => by cases h; exact .nil
  | d :: ds, _, c, h => by
    simp only [PyData.canLayAll0, Bool.and_eq_true] at c
    cases h with
    | cons h1 h2 => exact .cons (Rp.dp d _ c.1 h1) (RpA.dp ds _ c.2 h2)
end

mutual
/-- no list within -/
def noL : PyData → Bool
  | .none => true
  | .bool _ => true
  | .int _ => true
  | .str _ => true
  | .list _ => false
  | .tuple xs => noLs xs
  | .dict _ => false
def noLs : List PyData → Bool
  | [] => true
  | d :: ds => noL d && noLs ds
end
mutual
theorem Rp.free (N') : ∀ (d : PyData) (v : V), noL d = true → Rp K N H d v → Rp K N' H d v
  | .none, _, _, h => by cases h; exact .non
  | .bool b, _, _, h => by cases h; exact .bl b
  | .int i, _, _, h => by cases h; exact .int i
  | .str x, _, _, h => by cases h; exact .str x
  | .list xs, _, n, h => by simp [noL] at n
  | .tuple xs, _, n, h => by
    cases h with
    | tup h1 h2 => exact .tup h1 (RpA.free N' xs _ (by simpa [noL] using n) h2)
  | .dict _, _, n, h => by simp [noL] at n
theorem RpA.free (N') : ∀ (ds : List PyData) (vs : List V), noLs ds = true → RpA K N H ds vs → RpA K N' H ds vs
  | [], _, _, h => by cases h; exact .nil
  | d :: ds, _, n, h => by
    cases h with
    | cons h1 h2 =>
      simp only [noLs, Bool.and_eq_true] at n
      exact .cons (Rp.free N' d _ n.1 h1) (RpA.free N' ds _ n.2 h2)
end

theorem RpA.length : ∀ {ds : List PyData} {vs : List V}, RpA K N H ds vs → vs.length = ds.length
  | [], _, h => by cases h; rfl
  | d :: ds, _, h => by
    cases h with
    | cons h1 h2 => simp [RpA.length h2]
theorem RpA.get : ∀ {ds : List PyData} {vs : List V} {i : Nat} {d : PyData}, RpA K N H ds vs → ds[i]? = some d → ∃ v, vs[i]? = some v ∧ Rp K N H d v
  | [], _, _, _, h, e => by simp at e
  | d :: ds, _, 0, _, h, e => by
    cases h with
    | cons h1 h2 => simp at e; subst e; exact ⟨_, rfl, h1⟩
  | d :: ds, _, i + 1, x, h, e => by
    cases h with
    | cons h1 h2 =>
      obtain ⟨v, q1, q2⟩ := RpA.get (i := i) (d := x) h2 (by simpa using e)
      exact ⟨v, by simpa using q1, q2⟩
theorem RpA.get' : ∀ {ds : List PyData} {vs : List V} {i : Nat} {v : V}, RpA K N H ds vs → vs[i]? = some v → ∃ d, ds[i]? = some d ∧ Rp K N H d v
  | [], _, _, _, h, e => by cases h; simp at e
  | d :: ds, _, 0, _, h, e => by
    cases h with
    | cons h1 h2 => simp at e; subst e; exact ⟨_, rfl, h1⟩
  | d :: ds, _, i + 1, x, h, e => by
    cases h with
    | cons h1 h2 =>
      obtain ⟨v, q1, q2⟩ := RpA.get' (i := i) (v := x) h2 (by simpa using e)
      exact ⟨v, by simpa using q1, q2⟩
theorem RpA.append : ∀ {ds es : List PyData} {vs ws : List V}, RpA K N H ds vs → RpA K N H es ws → RpA K N H (ds ++ es) (vs ++ ws)
  | [], _, _, _, h, h' => by cases h; exact h'
  | d :: ds, _, _, _, h, h' => by
    cases h with
    | cons h1 h2 => exact .cons h1 (RpA.append h2 h')
theorem RpA.take : ∀ {ds : List PyData} {vs : List V} (n : Nat), RpA K N H ds vs → RpA K N H (ds.take n) (vs.take n)
  | _, _, 0, _ => by simpa using RpA.nil
  | [], _, n + 1, h => by cases h; simpa using RpA.nil
  | d :: ds, _, n + 1, h => by
    cases h with
    | cons h1 h2 => simpa using RpA.cons h1 (RpA.take n h2)
theorem RpA.drop : ∀ {ds : List PyData} {vs : List V} (n : Nat), RpA K N H ds vs → RpA K N H (ds.drop n) (vs.drop n)
  | _, _, 0, h => by simpa using h
  | [], _, n + 1, h => by cases h; simpa using RpA.nil
  | d :: ds, _, n + 1, h => by
    cases h with
    | cons h1 h2 => simpa using RpA.drop n h2
theorem RpA.set : ∀ {ds : List PyData} {vs : List V} (n : Nat) {d : PyData} {v : V}, RpA K N H ds vs → Rp K N H d v → RpA K N H (ds.set n d) (vs.set n v)
  | [], _, _, _, _, h, _ => by cases h; simpa using RpA.nil
  | _ :: _, _, 0, _, _, h, h' => by
    cases h with
    | cons h1 h2 => simpa using RpA.cons h' h2
  | d :: ds, _, n + 1, _, _, h, h' => by
    cases h with
    | cons h1 h2 => simpa using RpA.cons h1 (RpA.set n h2 h')
theorem RpA.reverse {ds : List PyData} {vs : List V} (h : RpA K N H ds vs) : RpA K N H ds.reverse vs.reverse := by
  induction ds generalizing vs with
  | nil => cases h; simpa using RpA.nil
  | cons d ds ih =>
    cases h with
    | cons h1 h2 => simpa using RpA.append (ih h2) (.cons h1 .nil)
theorem RpA.dropLast {ds : List PyData} {vs : List V} (h : RpA K N H ds vs) : RpA K N H ds.dropLast vs.dropLast := by
  rw [List.dropLast_eq_take, List.dropLast_eq_take, h.length]
  exact h.take _
theorem RpA.one {d : PyData} {v : V} (h : Rp K N H d v) : RpA K N H [d] [v] := .cons h .nil
theorem RpA.ints : ∀ (ns : List Int), RpA K N H (ns.map .int) (ns.map .int)
  | [] => .nil
  | n :: ns => .cons (.int n) (RpA.ints ns)
theorem RpA.flatten : ∀ {dss : List (List PyData)} {vss : List (List V)}, Paired (RpA K N H) dss vss → RpA K N H dss.flatten vss.flatten
  | _, _, .nil => .nil
  | _, _, .cons h t => RpA.append h (RpA.flatten t)
theorem RpA.rep {ds : List PyData} {vs : List V} (h : RpA K N H ds vs) : ∀ k : Nat, RpA K N H (List.replicate k ds).flatten (List.replicate k vs).flatten
  | 0 => .nil
  | k + 1 => by
    rw [List.replicate_succ, List.replicate_succ, List.flatten_cons, List.flatten_cons]
    exact h.append (RpA.rep h k)
theorem RpA.picks : ∀ {ds : List PyData} {vs : List V} (is : List Nat), RpA K N H ds vs → RpA K N H (is.filterMap fun i => ds[i]?) (is.filterMap fun i => vs[i]?)
  | ds, vs, [], _ => .nil
  | ds, vs, i :: is, h => by
    cases q : ds[i]? with
    | none =>
      have q' : vs[i]? = none := by
        rw [List.getElem?_eq_none_iff] at q ⊢
        rw [h.length]; exact q
      rw [List.filterMap_cons_none q, List.filterMap_cons_none q']
      exact RpA.picks is h
    | some d =>
      obtain ⟨v, q', r⟩ := h.get q
      rw [List.filterMap_cons_some q, List.filterMap_cons_some q']
      exact .cons r (RpA.picks is h)
end

/-! ### slots -/
/-- what a slot holds: a datum that nobody changes; a list of our own that nobody else holds -/
inductive S where
  | d (x : PyData)
  | own (xs : List PyData)
abbrev Env := List (Option S)
inductive RlS (K : PySem.W.Frag) (N : Addr → Prop) (H : Hp) : Env → St → List Addr → Prop
  | nil : RlS K N H [] [] []
  | non {env : Env} {σ : St} {O : List Addr} {x : Option V} : RlS K N H env σ O → RlS K N H (none :: env) (x :: σ) O
  | d {env : Env} {σ : St} {O : List Addr} {x : PyData} {v : V} : Rp K N H x v → RlS K N H env σ O → RlS K N H (some (.d x) :: env) (some v :: σ) O
  | own {env : Env} {σ : St} {O : List Addr} {xs : List PyData} {a : Addr} {vs : List V} : H a = some (.lst vs) → RpA K N H xs vs → RlS K N H env σ O → RlS K N H (some (.own xs) :: env) (some (.ref a) :: σ) (a :: O)

/-- forbidden: our own lists' places, and the outer ones' -/
abbrev nn (O : List Addr) (F : Addr → Prop) : Addr → Prop := fun a => a ∈ O ∨ F a
structure Rl (K : PySem.W.Frag) (F : Addr → Prop) (H0 : Hp) (env : Env) (σ : St) (H : Hp) (O : List Addr) : Prop where
  sl : RlS K (nn O F) H env σ O
  nd : O.Nodup
  dj : ∀ a ∈ O, ¬ F a ∧ H0 a = none
  fd : ∀ a, F a → (H a).isSome = true
  sm : Same H0 H

section
variable {K : PySem.W.Frag} {N N' F F' : Addr → Prop} {H H' H0 : Hp} {env : Env} {σ : St} {O : List Addr}
theorem RlS.step (k : Keep N H H') (s : Sub H N N') : ∀ {env : Env} {σ : St} {O : List Addr}, (∀ a ∈ O, ∀ u, H a = some u → H' a = some u) → RlS K N H env σ O → RlS K N' H' env σ O
  | [], _, _, _, h => by cases h; exact .nil
  | _ :: env, _, _, o, h => by
    cases h with
    | non h1 => exact .non (RlS.step k s o h1)
    | d h1 h2 => exact .d (Rp.step k s _ _ h1) (RlS.step k s o h2)
    | own h1 h2 h3 => exact .own (o _ List.mem_cons_self _ h1) (RpA.step k s _ _ h2) (RlS.step k s (fun a ha => o a (List.mem_cons_of_mem _ ha)) h3)
theorem RlS.length : ∀ {env : Env} {σ : St} {O : List Addr}, RlS K N H env σ O → σ.length = env.length
  | [], _, _, h => by cases h; rfl
  | _ :: env, _, _, h => by
    cases h with
    | non h1 => simp [RlS.length h1]
    | d h1 h2 => simp [RlS.length h2]
    | own h1 h2 h3 => simp [RlS.length h3]
theorem RlS.ownAt : ∀ {env : Env} {σ : St} {O : List Addr} {a : Addr}, RlS K N H env σ O → a ∈ O → ∃ vs, H a = some (.lst vs)
  | [], _, _, _, h, m => by cases h; cases m
  | _ :: env, _, _, a, h, m => by
    cases h with
    | non h1 => exact RlS.ownAt h1 m
    | d h1 h2 => exact RlS.ownAt h2 m
    | own h1 h2 h3 =>
      rcases List.mem_cons.mp m with e | m
      · subst e; exact ⟨_, h1⟩
      · exact RlS.ownAt h3 m
theorem RlS.getD : ∀ {env : Env} {σ : St} {O : List Addr} {i : Nat} {x : PyData}, RlS K N H env σ O → env[i]? = some (some (.d x)) → ∃ v, σ[i]? = some (some v) ∧ Rp K N H x v
  | [], _, _, _, _, h, e => by simp at e
  | _ :: env, _, _, 0, _, h, e => by
    cases h with
    | non h1 => simp at e
    | d h1 h2 => simp at e; subst e; exact ⟨_, rfl, h1⟩
    | own h1 h2 h3 => simp at e
  | _ :: env, _, _, i + 1, x, h, e => by
    have e' : env[i]? = some (some (.d x)) := by simpa using e
    cases h with
    | non h1 => obtain ⟨v, q, r⟩ := RlS.getD (i := i) h1 e'; exact ⟨v, by simpa using q, r⟩
    | d h1 h2 => obtain ⟨v, q, r⟩ := RlS.getD (i := i) h2 e'; exact ⟨v, by simpa using q, r⟩
    | own h1 h2 h3 => obtain ⟨v, q, r⟩ := RlS.getD (i := i) h3 e'; exact ⟨v, by simpa using q, r⟩
theorem RlS.getO : ∀ {env : Env} {σ : St} {O : List Addr} {i : Nat} {xs : List PyData}, RlS K N H env σ O → env[i]? = some (some (.own xs)) → ∃ a vs, σ[i]? = some (some (.ref a)) ∧ a ∈ O ∧ H a = some (.lst vs) ∧ RpA K N H xs vs
  | [], _, _, _, _, h, e => by simp at e
  | _ :: env, _, _, 0, _, h, e => by
    cases h with
    | non h1 => simp at e
    | d h1 h2 => simp at e
    | own h1 h2 h3 => simp at e; subst e; exact ⟨_, _, rfl, List.mem_cons_self, h1, h2⟩
  | _ :: env, _, _, i + 1, x, h, e => by
    have e' : env[i]? = some (some (.own x)) := by simpa using e
    cases h with
    | non h1 => obtain ⟨a, vs, q, m, r⟩ := RlS.getO (i := i) h1 e'; exact ⟨a, vs, by simpa using q, m, r⟩
    | d h1 h2 => obtain ⟨a, vs, q, m, r⟩ := RlS.getO (i := i) h2 e'; exact ⟨a, vs, by simpa using q, m, r⟩
    | own h1 h2 h3 => obtain ⟨a, vs, q, m, r⟩ := RlS.getO (i := i) h3 e'; exact ⟨a, vs, by simpa using q, List.mem_cons_of_mem _ m, r⟩
/-- the slot i forgotten: its own list, if any, is no slot's any more -/
theorem RlS.drop1 : ∀ {env : Env} {σ : St} {O : List Addr} (i : Nat) (v : Option V), RlS K N H env σ O → O.Nodup → ∃ O', RlS K N H (env.set i none) (σ.set i v) O' ∧ O'.Nodup ∧ ∀ a ∈ O', a ∈ O
  | [], _, _, i, v, h, nd => by cases h; exact ⟨[], .nil, nd, fun _ z => z⟩
  | _ :: env, _, _, 0, v, h, nd => by
    cases h with
    | non h1 => exact ⟨_, .non h1, nd, fun _ z => z⟩
    | d h1 h2 => exact ⟨_, .non h2, nd, fun _ z => z⟩
    | own h1 h2 h3 => exact ⟨_, .non h3, (List.nodup_cons.mp nd).2, fun _ z => List.mem_cons_of_mem _ z⟩
  | _ :: env, _, _, i + 1, v, h, nd => by
    cases h with
    | non h1 => obtain ⟨O', r, n, m⟩ := RlS.drop1 i v h1 nd; exact ⟨O', .non r, n, m⟩
    | d h1 h2 => obtain ⟨O', r, n, m⟩ := RlS.drop1 i v h2 nd; exact ⟨O', .d h1 r, n, m⟩
    | own h1 h2 h3 =>
      obtain ⟨n1, n2⟩ := List.nodup_cons.mp nd
      obtain ⟨O', r, n, m⟩ := RlS.drop1 i v h3 n2
      refine ⟨_, .own h1 h2 r, List.nodup_cons.mpr ⟨fun z => n1 (m _ z), n⟩, fun b z => ?_⟩
      rcases List.mem_cons.mp z with e | z
      · exact e ▸ List.mem_cons_self
      · exact List.mem_cons_of_mem _ (m _ z)
/-- a slot that holds nothing takes a datum, an own list -/
theorem RlS.putD : ∀ {env : Env} {σ : St} {O : List Addr} (i : Nat) {x : PyData} {v : V}, RlS K N H (env.set i none) (σ.set i (some v)) O → Rp K N H x v → RlS K N H (env.set i (some (.d x))) (σ.set i (some v)) O
  | [], _, _, i, _, _, h, _ => by simpa using h
  | e :: env, [], _, 0, _, _, h, _ => by simp at h; cases h
  | e :: env, s :: σ, _, 0, _, _, h, r => by
    simp only [List.set_cons_zero] at h ⊢
    cases h with
    | non h1 => exact .d r h1
  | e :: env, [], _, i + 1, _, _, h, _ => by simp at h; cases h
  | e :: env, s :: σ, _, i + 1, _, _, h, r => by
    simp only [List.set_cons_succ] at h ⊢
    cases h with
    | non h1 => exact .non (RlS.putD i h1 r)
    | d h1 h2 => exact .d h1 (RlS.putD i h2 r)
    | own h1 h2 h3 => exact .own h1 h2 (RlS.putD i h3 r)
theorem RlS.putO : ∀ {env : Env} {σ : St} {O : List Addr} (i : Nat) {xs : List PyData} {a : Addr} {vs : List V}, i < env.length → RlS K N H (env.set i none) (σ.set i (some (.ref a))) O → O.Nodup → a ∉ O → H a = some (.lst vs) → RpA K N H xs vs →
    ∃ O', RlS K N H (env.set i (some (.own xs))) (σ.set i (some (.ref a))) O' ∧ O'.Nodup ∧ ∀ b, b ∈ O' ↔ b = a ∨ b ∈ O
  | [], _, _, i, _, _, _, hi, _, _, _, _, _ => by simp at hi
  | e :: env, [], _, 0, _, _, _, _, h, _, _, _, _ => by simp at h; cases h
  | e :: env, s :: σ, _, 0, _, _, _, _, h, nd, na, ha, r => by
    simp only [List.set_cons_zero] at h ⊢
    cases h with
    | non h1 => exact ⟨_, .own ha r h1, List.nodup_cons.mpr ⟨na, nd⟩, fun b => List.mem_cons⟩
  | e :: env, [], _, i + 1, _, _, _, _, h, _, _, _, _ => by simp at h; cases h
  | e :: env, s :: σ, _, i + 1, _, a0, _, hi, h, nd, na, ha, r => by
    simp only [List.set_cons_succ] at h ⊢
    have hi' : i < env.length := by simpa using hi
    cases h with
    | non h1 =>
      obtain ⟨O', q, n, m⟩ := RlS.putO i hi' h1 nd na ha r
      exact ⟨O', .non q, n, m⟩
    | d h1 h2 =>
      obtain ⟨O', q, n, m⟩ := RlS.putO i hi' h2 nd na ha r
      exact ⟨O', .d h1 q, n, m⟩
    | own h1 h2 h3 =>
      obtain ⟨n1, n2⟩ := List.nodup_cons.mp nd
      simp only [List.mem_cons, not_or] at na
      obtain ⟨nab, na'⟩ := na
      obtain ⟨O', q, n, m⟩ := RlS.putO i hi' h3 n2 na' ha r
      refine ⟨_ :: O', .own h1 h2 q, List.nodup_cons.mpr ⟨fun z => ?_, n⟩, fun c => ?_⟩
      · rcases (m _).mp z with e | z
        · exact nab e.symm
        · exact n1 z
      · simp only [List.mem_cons, m c]
        constructor
        · rintro (z | z | z)
          · exact .inr (.inl z)
          · exact .inl z
          · exact .inr (.inr z)
        · rintro (z | z | z)
          · exact .inr (.inl z)
          · exact .inl z
          · exact .inr (.inr z)
end
end PV

/-! PV2: expressions as functions of the slots -/
namespace PV
open PySem L2

def LIM : Nat := 1000000
theorem lim_line {n : Nat} (h : n ≤ LIM) : n ≤ sizeLine := Nat.le_trans h (by rw [sizeLine_eq]; decide)
theorem lim_lt {n : Nat} (h : n < LIM) : n < sizeLine := Nat.lt_of_lt_of_le h (by rw [sizeLine_eq]; decide)

section
variable {K : PySem.W.Frag} {N N' F F' : Addr → Prop} {H H' H0 H1 H2 : Hp} {env : Env} {σ : St} {O : List Addr}
theorem Rl.dom (L : Rl K F H0 env σ H O) : ∀ a, nn O F a → (H a).isSome = true := fun a h => by
  rcases h with h | h
  · obtain ⟨vs, e⟩ := RlS.ownAt L.sl h
    rw [e]; rfl
  · exact L.fd a h
theorem some_same (m : Same H H') {a : Addr} (h : (H a).isSome = true) : (H' a).isSome = true := by
  obtain ⟨u, e⟩ := Option.isSome_iff_exists.mp h
  rw [m a u e]; rfl
theorem none_same (m : Same H H') {a : Addr} (h : H' a = none) : H a = none := sNone m h
theorem Rl.mono (L : Rl K F H0 env σ H O) (m : Same H H') : Rl K F H0 env σ H' O :=
  ⟨L.sl.step (sKeep m) Sub.refl (fun a _ u e => m a u e), L.nd, L.dj, fun a h => some_same m (L.fd a h), sTr L.sm m⟩
/-- a new place is forbidden too -/
theorem Rl.ext (L : Rl K F H0 env σ H O) {p : Addr} (hp : H p = none) (m : Same H H1) (h1 : (H1 p).isSome = true) : Rl K (fun a => F a ∨ a = p) H0 env σ H1 O := by
  refine ⟨L.sl.step (sKeep m) (fun a ha h => ?_) (fun a _ u e => m a u e), L.nd, fun a ha => ⟨fun z => ?_, (L.dj a ha).2⟩, fun a h => ?_, sTr L.sm m⟩
  · rcases h with h | h | h
    · exact .inl h
    · exact .inr h
    · rw [h, hp] at ha; cases ha
  · rcases z with z | z
    · exact (L.dj a ha).1 z
    · have := L.dom a (.inl ha)
      rw [z, hp] at this; cases this
  · rcases h with h | h
    · exact some_same m (L.fd a h)
    · rw [h]; exact h1

/-- an expression's result: a datum; a new list of nobody; a slot's own list -/
inductive R where
  | d (x : PyData)
  | own (xs : List PyData)
  | bor (xs : List PyData)
def RR (K : PySem.W.Frag) (N : Addr → Prop) (O : List Addr) (H H' : Hp) (v : V) : R → Prop
  | .d x => Rp K N H' x v
  | .own xs => ∃ p vs, v = .ref p ∧ H p = none ∧ H' p = some (.lst vs) ∧ RpA K (fun a => N a ∨ a = p) H' xs vs
  | .bor xs => ∃ p vs, v = .ref p ∧ p ∈ O ∧ H' p = some (.lst vs) ∧ RpA K N H' xs vs
theorem RR.mono {v : V} {r : R} (h : RR K N O H H1 v r) (m : Same H1 H2) : RR K N O H H2 v r := by
  cases r with
  | d x => exact Rp.mono h m
  | own xs =>
    obtain ⟨p, vs, e, n, q, r⟩ := h
    exact ⟨p, vs, e, n, m p _ q, r.mono m⟩
  | bor xs =>
    obtain ⟨p, vs, e, n, q, r⟩ := h
    exact ⟨p, vs, e, n, m p _ q, r.mono m⟩
theorem RR.back {v : V} {r : R} (h : RR K N O H1 H2 v r) (m : Same H H1) : RR K N O H H2 v r := by
  cases r with
  | d x => exact h
  | own xs =>
    obtain ⟨p, vs, e, n, q, r⟩ := h
    exact ⟨p, vs, e, sNone m n, q, r⟩
  | bor xs => exact h
theorem RR.sub {v : V} {r : R} (h : RR K N O H H1 v r) (s : Sub H1 N N') : RR K N' O H H1 v r := by
  cases r with
  | d x => exact Rp.sub h s
  | own xs =>
    obtain ⟨p, vs, e, n, q, r⟩ := h
    exact ⟨p, vs, e, n, q, r.sub fun a ha z => z.elim (fun z => .inl (s a ha z)) .inr⟩
  | bor xs =>
    obtain ⟨p, vs, e, n, q, r⟩ := h
    exact ⟨p, vs, e, n, q, r.sub s⟩

/-- the canonical reading of an expression -/
def tE (K : PySem.W.Frag) (f : Env → Option R) : TE := fun σ H Q => ∃ F H0 env O r, Rl K F H0 env σ H O ∧ f env = some r ∧ ∀ v H', Same H H' → RR K (nn O F) O H H' v r → Q v H'
def tT (K : PySem.W.Frag) (f : Env → Option Bool) : TT := fun σ H Q => ∃ F H0 env O b, Rl K F H0 env σ H O ∧ f env = some b ∧ ∀ H', Same H H' → Q b H'
/-- an argument list's results, from the left -/
def ext (N : Addr → Prop) (v : V) : R → Addr → Prop
  | .own _ => fun a => N a ∨ v = .ref a
  | _ => N
def RRA (K : PySem.W.Frag) (O : List Addr) (H' : Hp) : (Addr → Prop) → Hp → List V → List R → Prop
  | _, _, [], [] => True
  | N, H, v :: vs, r :: rs => ∃ H1, Same H H1 ∧ Same H1 H' ∧ RR K N O H H1 v r ∧ RRA K O H' (ext N v r) H1 vs rs
  | _, _, _, _ => False
def tA (K : PySem.W.Frag) (f : Env → Option (List R)) : TA := fun σ H Q => ∃ F H0 env O rs, Rl K F H0 env σ H O ∧ f env = some rs ∧ ∀ vs H', Same H H' → RRA K O H' (nn O F) H vs rs → Q vs H'

abbrev SE (X : Cx) (e : Expr) (f : Env → Option R) : Prop := PE X e (tE X.K f)
abbrev ST (X : Cx) (e : Expr) (f : Env → Option Bool) : Prop := PT X e (tT X.K f)
abbrev SA (X : Cx) (es : List Expr) (f : Env → Option (List R)) : Prop := PA X es (tA X.K f)

theorem imE {X : Cx} {e : Expr} {t t' : TE} (h : PE X e t) (i : ∀ σ H Q, t' σ H Q → t σ H Q) : PE X e t' := ⟨fun pins s σ H Q I hw => h.run pins s σ H Q I (i σ H Q hw)⟩
theorem imT {X : Cx} {e : Expr} {t t' : TT} (h : PT X e t) (i : ∀ σ H Q, t' σ H Q → t σ H Q) : PT X e t' := ⟨fun pins s σ H Q I hw => h.run pins s σ H Q I (i σ H Q hw)⟩
theorem imW {X : Cx} {e : Expr} {t t' : TT} (h : PW X e t) (i : ∀ σ H Q, t' σ H Q → t σ H Q) : PW X e t' := ⟨fun wh pins s σ H Q I hw => h.run wh pins s σ H Q I (i σ H Q hw)⟩
theorem imA {X : Cx} {es : List Expr} {t t' : TA} (h : PA X es t) (i : ∀ σ H Q, t' σ H Q → t σ H Q) : PA X es t' := ⟨fun p pins s σ H Q I hw => h.run p pins s σ H Q I (i σ H Q hw)⟩

theorem one {f : Env → Option R} {r : R} {P : V → Hp → Prop} (L : Rl K F H0 env σ H O) (e : f env = some r) (h : ∀ v H', Same H H' → RR K (nn O F) O H H' v r → P v H') : tE K f σ H P :=
  ⟨F, H0, env, O, r, L, e, h⟩
theorem two {f g : Env → Option R} {r q : R} {P : V → V → Hp → Prop} (L : Rl K F H0 env σ H O) (e1 : f env = some r) (e2 : g env = some q)
    (h : ∀ v w H2, Same H H2 → RR K (nn O F) O H H2 v r → RR K (nn O F) O H H2 w q → P v w H2) : tE K f σ H (fun x H1 => tE K g σ H1 (fun y H2 => P x y H2)) :=
  one L e1 fun v H1 m1 r1 => one (L.mono m1) e2 fun w H2 m2 r2 => h v w H2 (sTr m1 m2) (r1.mono m2) (r2.back m1)
theorem oneT {f : Env → Option Bool} {b : Bool} {P : Bool → Hp → Prop} (L : Rl K F H0 env σ H O) (e : f env = some b) (h : ∀ H', Same H H' → P b H') : tT K f σ H P :=
  ⟨F, H0, env, O, b, L, e, h⟩

theorem RR.int {v : V} {i : Int} (h : RR K N O H H' v (.d (.int i))) : v = .int i := by
  have h : Rp K N H' (.int i) v := h
  cases h; rfl
theorem RR.bl {v : V} {i : Bool} (h : RR K N O H H' v (.d (.bool i))) : v = .bl i := by
  have h : Rp K N H' (.bool i) v := h
  cases h; rfl
theorem RR.str {v : V} {i : Str} (h : RR K N O H H' v (.d (.str i))) : v = .str i := by
  have h : Rp K N H' (.str i) v := h
  cases h; rfl
theorem RR.tup {v : V} {xs : List PyData} (h : RR K N O H H' v (.d (.tuple xs))) : ∃ p vs, v = .ref p ∧ SqT K H' p vs ∧ RpA K N H' xs vs := by
  have h : Rp K N H' (.tuple xs) v := h
  cases h with
  | tup h1 h2 => exact ⟨_, _, rfl, h1, h2⟩
/-- a list's items -/
def lv : R → Option (List PyData)
  | .d (.list xs) => some xs
  | .own xs => some xs
  | .bor xs => some xs
  | _ => none
theorem RR.lst {v : V} {r : R} {xs : List PyData} (h : RR K N O H H' v r) (e : lv r = some xs) : ∃ p vs, v = .ref p ∧ H' p = some (.lst vs) ∧ RpA K N H' xs vs := by
  cases r with
  | d x =>
    cases x with
    | list ys =>
      cases e
      have h : Rp K N H' (.list xs) v := h
      cases h with
      | lst h1 h2 => exact ⟨_, _, rfl, h1.1, h2⟩
    | _ => cases e
  | own ys => cases e; obtain ⟨p, vs, e, _, q, r⟩ := h; exact ⟨p, vs, e, q, r.sub fun _ _ z => .inl z⟩
  | bor ys => cases e; obtain ⟨p, vs, e, _, q, r⟩ := h; exact ⟨p, vs, e, q, r⟩
/-- a list's, a tuple's, the script's items -/
def sv : R → Option (List PyData)
  | .d (.list xs) => some xs
  | .d (.tuple xs) => some xs
  | .d (.dict kvs) => some (kvs.map (·.1))
  | .own xs => some xs
  | .bor xs => some xs
  | _ => none
theorem RR.seq {v : V} {r : R} {xs : List PyData} (h : RR K N O H H' v r) (e : sv r = some xs) : ∃ p vs, v = .ref p ∧ (SqL K H' p vs ∨ SqT K H' p vs) ∧ RpA K N H' xs vs := by
  cases r with
  | d x =>
    cases x with
    | list ys =>
      cases e
      have h : Rp K N H' (.list xs) v := h
      cases h with
      | lst h1 h2 => exact ⟨_, _, rfl, .inl h1.seq, h2⟩
    | tuple ys =>
      cases e
      have h : Rp K N H' (.tuple xs) v := h
      cases h with
      | tup h1 h2 => exact ⟨_, _, rfl, .inr h1, h2⟩
    | dict kvs =>
      cases e
      have h : Rp K N H' (.dict kvs) v := h
      cases h with
      | scr h1 =>
        rename_i a ns
        refine ⟨_, _, rfl, .inl h1.seq, ?_⟩
        rw [List.map_map]
        exact RpA.ints ns
    | _ => cases e
  | own ys => cases e; obtain ⟨p, vs, e, _, q, r⟩ := h; exact ⟨p, vs, e, .inl (.inl (.inl q)), r.sub fun _ _ z => .inl z⟩
  | bor ys => cases e; obtain ⟨p, vs, e, _, q, r⟩ := h; exact ⟨p, vs, e, .inl (.inl (.inl q)), r⟩
/-- the result as a datum -/
def dv : R → PyData
  | .d x => x
  | .own xs => .list xs
  | .bor xs => .list xs
theorem RR.dp {v : V} {r : R} (h : RR K N O H H' v r) (c : (dv r).canLay0 = true) : Dp K H' v (dv r) := by
  cases r with
  | d x => exact Rp.dp x v c h
  | own xs =>
    obtain ⟨p, vs, e, _, q, r⟩ := h
    subst e
    exact .lst (.inl (.inl q)) (RpA.dp xs vs (by simpa [dv, PyData.canLay0] using c) r)
  | bor xs =>
    obtain ⟨p, vs, e, _, q, r⟩ := h
    subst e
    exact .lst (.inl (.inl q)) (RpA.dp xs vs (by simpa [dv, PyData.canLay0] using c) r)
/-- an object of nobody, or a datum: what may be put into another object -/
def toD : R → Option PyData
  | .d x => some x
  | .own xs => some (.list xs)
  | .bor _ => none
theorem RR.toD {v : V} {r : R} {x : PyData} (h : RR K N O H H' v r) (e : toD r = some x) (dm : ∀ a, N a → (H a).isSome = true) : Rp K N H' x v := by
  cases r with
  | d y => cases e; exact h
  | own xs =>
    cases e
    obtain ⟨p, vs, e, n, q, r⟩ := h
    subst e
    exact .lst ⟨q, fun z => by have := dm p z; rw [n] at this; cases this⟩ (r.sub fun _ _ z => .inl z)
  | bor xs => cases e
end

/-! ### names, constants -/
section
variable {X : Cx}
def eC (x : PyData) : Env → Option R := fun _ => some (.d x)
def eVar (i : Nat) : Env → Option R := fun env => match env[i]? with
  | some (some (.d x)) => some (.d x)
  | some (some (.own xs)) => some (.bor xs)
  | _ => none
theorem se_int {i : Int} {j pos} : SE X (.Constant (.int i) j pos) (eC (.int i)) := imE pe_int fun σ H Q h => by
  obtain ⟨F, H0, env, O, r, L, e, h⟩ := h
  cases e
  exact h _ H (sRefl H) (Rp.int i)
theorem se_bl {i : Bool} {j pos} : SE X (.Constant (.bool i) j pos) (eC (.bool i)) := imE pe_bl fun σ H Q h => by
  obtain ⟨F, H0, env, O, r, L, e, h⟩ := h
  cases e
  exact h _ H (sRefl H) (Rp.bl i)
theorem se_non {j pos} : SE X (.Constant .none j pos) (eC .none) := imE pe_non fun σ H Q h => by
  obtain ⟨F, H0, env, O, r, L, e, h⟩ := h
  cases e
  exact h _ H (sRefl H) Rp.non
theorem se_str {i : Str} {j pos} : SE X (.Constant (.str i) j pos) (eC (.str i)) := imE pe_str fun σ H Q h => by
  obtain ⟨F, H0, env, O, r, L, e, h⟩ := h
  cases e
  exact h _ H (sRefl H) (Rp.str i)
theorem se_var (i : Nat) {x : Str} {pos : Pos} (hN : X.N[i]? = some x := by rfl) (hv : Vis X.env.scope x := by first | exact Or.inl rfl | exact Or.inr (Or.inl rfl) | exact Or.inr (Or.inr rfl)) (hd : (x == ("__debug__" : Str)) = false := by decide)
    (hcd : (x == ("__classdict__" : Str)) = false := by decide) : SE X (.Name x pos) (eVar i) := imE (pe_var hN hv hd hcd) fun σ H Q h => by
  obtain ⟨F, H0, env, O, r, L, e, h⟩ := h
  unfold eVar at e
  split at e
  · rename_i x hx
    cases e
    obtain ⟨v, q, rp⟩ := RlS.getD L.sl hx
    exact ⟨v, q, h v H (sRefl H) rp⟩
  · rename_i xs hx
    cases e
    obtain ⟨a, vs, q, m, ha, rp⟩ := RlS.getO L.sl hx
    exact ⟨_, q, h _ H (sRefl H) ⟨a, vs, rfl, m, ha, rp⟩⟩
  · cases e
/-- a module's constant -/
theorem se_glob {x : Str} {d : PyData} {v : V} {u : Value} {pos : Pos} (hg : Gl X x) (hm : X.mg x = some u) (r : RelV v u) (hr : ∀ N H, Rp X.K N H d v) (hd : (x == ("__debug__" : Str)) = false := by decide) : SE X (.Name x pos) (eC d) :=
  imE (pe_glob hg hm r hd) fun σ H Q h => by
    obtain ⟨F, H0, env, O, q, L, e, h⟩ := h
    cases e
    exact h v H (sRefl H) (hr _ H)

/-! ### operators -/
def bind2 (op : R → R → Option R) (f g : Env → Option R) : Env → Option R := fun env => (f env).bind fun a => (g env).bind fun b => op a b
theorem bind2_some {op : R → R → Option R} {f g : Env → Option R} {env : Env} {r : R} (h : bind2 op f g env = some r) : ∃ a b, f env = some a ∧ g env = some b ∧ op a b = some r := by
  unfold bind2 at h
  obtain ⟨a, e1, h⟩ := Option.bind_eq_some_iff.mp h
  obtain ⟨b, e2, h⟩ := Option.bind_eq_some_iff.mp h
  exact ⟨a, b, e1, e2, h⟩
/-- an operator's rule, by results -/
def OpS (X : Cx) (f : Value → Value → Sem Value) (op : R → R → Option R) : Prop :=
  ∃ rr : R2, OpR X f rr ∧ ∀ (N : Addr → Prop) (O : List Addr) (H H' : Hp) (x y : V) (a b r : R) (Q : VK), Same H H' → (∀ p, N p → (H p).isSome = true) → RR X.K N O H H' x a → RR X.K N O H H' y b → op a b = some r →
    (∀ v H2, Same H' H2 → RR X.K N O H H2 v r → Q v H2) → rr x y H' Q
theorem se_op {op : Operator} {f : R → R → Option R} {a b : Expr} {ta tb : Env → Option R} {pos : Pos} (ho : OpS X (binaryOp op) f) (ha : SE X a ta) (hb : SE X b tb) : SE X (.BinOp a op b pos) (bind2 f ta tb) := by
  obtain ⟨rr, h1, h2⟩ := ho
  refine imE (pe_op h1 ha hb) fun σ H Q h => ?_
  obtain ⟨F, H0, env, O, r, L, e, h⟩ := h
  obtain ⟨x, y, e1, e2, e⟩ := bind2_some e
  exact two L e1 e2 fun v w H2 m r1 r2 => h2 _ O H H2 v w x y r Q m L.dom r1 r2 e fun v H3 m3 r3 => h v H3 (sTr m m3) r3

def iOp (f : Int → Int → Int) (c : Int → Int → Bool) : R → R → Option R
  | .d (.int i), .d (.int j) => if c i j then some (.d (.int (f i j))) else none
  | _, _ => none
theorem iOp_some {f : Int → Int → Int} {c : Int → Int → Bool} {a b r : R} (h : iOp f c a b = some r) : ∃ i j, a = .d (.int i) ∧ b = .d (.int j) ∧ c i j = true ∧ r = .d (.int (f i j)) := by
  unfold iOp at h
  split at h
  · rename_i i j
    split at h
    · cases h
      exact ⟨i, j, rfl, rfl, by assumption, rfl⟩
    · cases h
  · cases h
/-- a rule for two ints -/
theorem opsI {f : Value → Value → Sem Value} {C : Int → Int → Prop} {g : Int → Int → Int} {c : Int → Int → Bool} (h : OpR X f (rI C fun i j => .int (g i j))) (hc : ∀ i j, c i j = true → C i j) : OpS X f (iOp g c) :=
  ⟨_, h, fun N O H H' x y a b r Q m dm r1 r2 e q => by
    obtain ⟨i, j, rfl, rfl, hcc, rfl⟩ := iOp_some e
    exact ⟨i, j, r1.int, r2.int, hc i j hcc, q _ H' (sRefl H') (Rp.int _)⟩⟩
theorem opsI0 {f : Value → Value → Sem Value} {g : Int → Int → Int} (h : OpR X f (rI0 fun i j => .int (g i j))) : OpS X f (iOp g fun _ _ => true) :=
  ⟨_, h, fun N O H H' x y a b r Q m dm r1 r2 e q => by
    obtain ⟨i, j, rfl, rfl, hcc, rfl⟩ := iOp_some e
    exact ⟨i, j, r1.int, r2.int, q _ H' (sRefl H') (Rp.int _)⟩⟩
theorem OpS.or {f : Value → Value → Sem Value} {p q2 : R → R → Option R} (h1 : OpS X f p) (h2 : OpS X f q2) : OpS X f (fun a b => (p a b).or (q2 a b)) := by
  obtain ⟨r1, g1, k1⟩ := h1
  obtain ⟨r2, g2, k2⟩ := h2
  refine ⟨_, g1.or g2, fun N O H H' x y a b r Q m dm rx ry e q => ?_⟩
  cases hp : p a b with
  | some z =>
    have e' : z = r := by simpa [hp] using e
    subst e'
    exact .inl (k1 N O H H' x y a b _ Q m dm rx ry hp q)
  | none =>
    have e' : q2 a b = some r := by simpa [hp] using e
    exact .inr (k2 N O H H' x y a b _ Q m dm rx ry e' q)

def small64 (i : Int) : Bool := Nat.blt i.natAbs 18446744073709551616
def cMul (i j : Int) : Bool := small64 i || small64 j
def cDiv (i j : Int) : Bool := Nat.blt 0 j.toNat && Nat.blt j.toNat 1073741824
def cPow (i j : Int) : Bool := decide (0 ≤ j) && Nat.ble j.natAbs 1000000 && Nat.blt i.natAbs 18446744073709551616
def opSub : R → R → Option R := iOp (· - ·) fun _ _ => true
def opFdiv : R → R → Option R := iOp (· / ·) cDiv
def opMod : R → R → Option R := iOp (· % ·) fun _ j => decide (0 < j)
def opPow : R → R → Option R := iOp (fun i j => i ^ j.toNat) cPow
def opShl : R → R → Option R := iOp (fun i j => i * 2 ^ j.toNat) cPow
def opShr : R → R → Option R := iOp (fun i j => i / 2 ^ j.toNat) fun _ j => decide (0 ≤ j)
def opAnd : R → R → Option R := iOp Builtin.bitAnd fun _ _ => true
def opOr : R → R → Option R := iOp Builtin.bitOr fun _ _ => true
def opXor : R → R → Option R := iOp Builtin.bitXor fun _ _ => true
theorem os_sub : OpS X (binaryOp .Sub) opSub := opsI0 op_sub
theorem cDiv_ok {i j : Int} (h : cDiv i j = true) : 0 < j ∧ j < 1073741824 := by
  unfold cDiv at h
  simp only [Bool.and_eq_true, Nat.blt_eq] at h
  omega
theorem cPow_ok {i j : Int} (h : cPow i j = true) : 0 ≤ j ∧ j ≤ 1000000 ∧ i.natAbs < 2 ^ 64 := by
  unfold cPow at h
  simp only [Bool.and_eq_true, Nat.blt_eq, Nat.ble_eq, decide_eq_true_eq] at h
  omega
theorem os_fdiv : OpS X (binaryOp .FloorDiv) opFdiv := opsI op_fdiv fun i j h => cDiv_ok h
theorem os_mod : OpS X (binaryOp .Mod) opMod := opsI op_mod fun i j h => of_decide_eq_true h
theorem os_pow : OpS X (binaryOp .Pow) opPow := opsI op_pow fun i j h => cPow_ok h
theorem os_shl : OpS X (binaryOp .LShift) opShl := opsI op_shl fun i j h => cPow_ok h
theorem os_shr : OpS X (binaryOp .RShift) opShr := opsI op_shr fun i j h => of_decide_eq_true h
theorem os_and : OpS X (binaryOp .BitAnd) opAnd := opsI0 op_and
theorem os_or : OpS X (binaryOp .BitOr) opOr := opsI0 op_or
theorem os_xor : OpS X (binaryOp .BitXor) opXor := opsI0 op_xor

/-- list + list -/
def opCatL (a b : R) : Option R := (lv a).bind fun xs => (lv b).bind fun ys => if xs.length + ys.length ≤ LIM then some (.own (xs ++ ys)) else none
theorem os_catL : OpS X (binaryOp .Add) opCatL := ⟨_, op_cat, fun N O H H' x y a b r Q m dm r1 r2 e q => by
  obtain ⟨xs, e1, e⟩ := Option.bind_eq_some_iff.mp e
  obtain ⟨ys, e2, e⟩ := Option.bind_eq_some_iff.mp e
  split at e
  · rename_i hl
    cases e
    obtain ⟨p, vs, rfl, h1, a1⟩ := r1.lst e1
    obtain ⟨p2, ws, rfl, h2, a2⟩ := r2.lst e2
    refine ⟨p, p2, vs, ws, rfl, rfl, h1, h2, lim_line (by rw [a1.length, a2.length]; exact hl), fun l nl => ?_⟩
    refine q _ _ (sNew nl) ⟨l, _, rfl, sNone m nl, upd_same, (a1.append a2).fresh nl⟩
  · cases e⟩
/-- tuple + tuple -/
def opCatT : R → R → Option R
  | .d (.tuple xs), .d (.tuple ys) => if xs.length + ys.length ≤ LIM then some (.d (.tuple (xs ++ ys))) else none
  | _, _ => none
theorem os_catT : OpS X (binaryOp .Add) opCatT := ⟨_, op_catA, fun N O H H' x y a b r Q m dm r1 r2 e q => by
  unfold opCatT at e
  split at e
  · rename_i xs ys
    split at e
    · rename_i hl
      cases e
      obtain ⟨p, vs, rfl, h1, a1⟩ := r1.tup
      obtain ⟨p2, ws, rfl, h2, a2⟩ := r2.tup
      refine ⟨p, p2, vs, ws, rfl, rfl, h1, h2, lim_line (by rw [a1.length, a2.length]; exact hl), fun z => ?_, fun _ z => ?_, fun _ _ l nl => ?_⟩
      · subst z
        cases a1
        exact q _ H' (sRefl H') r2
      · subst z
        cases a2
        rw [List.append_nil] at q
        exact q _ H' (sRefl H') r1
      · exact q _ _ (sNew nl) (Rp.tup (.inl (.inl upd_same)) ((a1.append a2).mono (sNew nl)))
    · cases e
  · cases e⟩
/-- text + text -/
def opCatS : R → R → Option R
  | .d (.str x), .d (.str y) => if x.length + y.length ≤ LIM then some (.d (.str (x ++ y))) else none
  | _, _ => none
theorem os_catS : OpS X (binaryOp .Add) opCatS := ⟨_, op_add_str, fun N O H H' x y a b r Q m dm r1 r2 e q => by
  unfold opCatS at e
  split at e
  · split at e
    · rename_i hl
      cases e
      exact ⟨_, _, r1.str, r2.str, lim_line hl, q _ H' (sRefl H') (Rp.str _)⟩
    · cases e
  · cases e⟩
def opAdd (a b : R) : Option R := (iOp (· + ·) (fun _ _ => true) a b).or ((opCatT a b).or ((opCatL a b).or (opCatS a b)))
theorem os_add : OpS X (binaryOp .Add) opAdd := (opsI0 op_add).or (os_catT.or (os_catL.or os_catS))

/-- list * int -/
def opRepL (a b : R) : Option R := (lv a).bind fun xs => match b with
  | .d (.int k) => if 0 ≤ k ∧ k.natAbs ≤ 1000000 ∧ xs.length * k.toNat ≤ LIM then some (.own (List.replicate k.toNat xs).flatten) else none
  | _ => none
theorem os_repL : OpS X (binaryOp .Mult) opRepL := ⟨_, op_rep, fun N O H H' x y a b r Q m dm r1 r2 e q => by
  obtain ⟨xs, e1, e⟩ := Option.bind_eq_some_iff.mp e
  split at e
  · rename_i k _
    split at e
    · rename_i hl
      cases e
      obtain ⟨p, vs, rfl, h1, a1⟩ := r1.lst e1
      refine ⟨p, k, vs, rfl, r2.int, h1, by omega, by omega, lim_line (by rw [a1.length]; exact hl.2.2), fun l nl => ?_⟩
      exact q _ _ (sNew nl) ⟨l, _, rfl, sNone m nl, upd_same, (a1.rep _).fresh nl⟩
    · cases e
  · cases e⟩
/-- tuple * int -/
def opRepT : R → R → Option R
  | .d (.tuple xs), .d (.int k) => if xs ≠ [] ∧ 2 ≤ k ∧ k ≤ 1000 ∧ xs.length ≤ 1000 then some (.d (.tuple (List.replicate k.toNat xs).flatten)) else none
  | _, _ => none
theorem os_repT : OpS X (binaryOp .Mult) opRepT := ⟨_, op_repT, fun N O H H' x y a b r Q m dm r1 r2 e q => by
  unfold opRepT at e
  split at e
  · rename_i xs k
    split at e
    · rename_i hl
      cases e
      obtain ⟨p, vs, rfl, h1, a1⟩ := r1.tup
      refine ⟨p, k, vs, rfl, r2.int, h1, ?_, hl.2.1, hl.2.2.1, by rw [a1.length]; exact hl.2.2.2, fun l nl => ?_⟩
      · intro z
        have := a1.length
        rw [z] at this
        exact hl.1 (List.eq_nil_of_length_eq_zero this.symm)
      · exact q _ _ (sNew nl) (Rp.tup (.inl (.inl upd_same)) ((a1.rep _).mono (sNew nl)))
    · cases e
  · cases e⟩
theorem cMul_ok {i j : Int} (h : cMul i j = true) : CMul i j := by
  unfold cMul small64 at h
  rw [Bool.or_eq_true, Nat.blt_eq, Nat.blt_eq] at h
  unfold CMul
  omega
def opMul (a b : R) : Option R := (iOp (· * ·) cMul a b).or ((opRepT a b).or (opRepL a b))
theorem os_mul : OpS X (binaryOp .Mult) opMul := (opsI op_mul fun i j h => cMul_ok h).or (os_repT.or os_repL)

/-! ### one-place operators -/
def unNeg : R → Option R
  | .d (.int i) => some (.d (.int (-i)))
  | _ => none
def bind1 (op : R → Option R) (f : Env → Option R) : Env → Option R := fun env => (f env).bind op
theorem se_neg {a : Expr} {ta : Env → Option R} {pos : Pos} (ha : SE X a ta) : SE X (.UnaryOp .USub a pos) (bind1 unNeg ta) :=
  imE (pe_un un_neg ha) fun σ H Q h => by
    obtain ⟨F, H0, env, O, r, L, e, h⟩ := h
    obtain ⟨x, e1, e⟩ := Option.bind_eq_some_iff.mp e
    unfold unNeg at e
    split at e
    · cases e
      exact one L e1 fun v H' m r1 => ⟨_, r1.int, h _ H' m (Rp.int _)⟩
    · cases e

/-! ### comparisons -/
theorem se_cmp {op : CmpOp} {f : R → R → Option R} {a b : Expr} {ta tb : Env → Option R} {pos : Pos} (ho : OpS X (compareOp op) f) (ha : SE X a ta) (hb : SE X b tb) (hm : behindInMarks op b = false) : SE X (.Compare a [op] [b] pos) (bind2 f ta tb) := by
  obtain ⟨rr, h1, h2⟩ := ho
  refine imE (pe_cmpR h1 ha hb hm) fun σ H Q h => ?_
  obtain ⟨F, H0, env, O, r, L, e, h⟩ := h
  obtain ⟨x, y, e1, e2, e⟩ := bind2_some e
  exact two L e1 e2 fun v w H2 m r1 r2 => h2 _ O H H2 v w x y r Q m L.dom r1 r2 e fun v H3 m3 r3 => h v H3 (sTr m m3) r3
/-- a result that is True or False -/
def isB : R → Option Bool
  | .d (.bool b) => some b
  | _ => none
theorem isB_some {r : R} {b : Bool} (h : isB r = some b) : r = .d (.bool b) := by
  unfold isB at h
  split at h
  · cases h; rfl
  · cases h
def tb (f : Env → Option R) : Env → Option Bool := fun env => (f env).bind isB
theorem st_val {e : Expr} {f : Env → Option R} (h : SE X e f) (he : ∀ whole, isTrue e X.env whole = (do let v ← whole; standAt e.pos; holding [v] (truthy v)) := by intro _; rfl) : ST X e (tb f) :=
  imT (pt_val h he) fun σ H Q h => by
    obtain ⟨F, H0, env, O, r, L, e, h⟩ := h
    obtain ⟨x, e1, e⟩ := Option.bind_eq_some_iff.mp e
    rw [isB_some e] at e1
    exact one L e1 fun v H' m r1 => ⟨r, r1.bl, h H' m⟩
theorem st_cmp {op : CmpOp} {f : R → R → Option R} {a b : Expr} {ta tb' : Env → Option R} {pos : Pos} (ho : OpS X (compareOp op) f) (ha : SE X a ta) (hb : SE X b tb') (hm : behindInMarks op b = false) : ST X (.Compare a [op] [b] pos) (tb (bind2 f ta tb')) := by
  obtain ⟨rr, h1, h2⟩ := ho
  refine imT (pt_cmpR h1 ha hb hm) fun σ H Q h => ?_
  obtain ⟨F, H0, env, O, r, L, e, h⟩ := h
  obtain ⟨z, e, e0⟩ := Option.bind_eq_some_iff.mp e
  rw [isB_some e0] at e
  obtain ⟨x, y, e1, e2, e⟩ := bind2_some e
  exact two L e1 e2 fun v w H2 m r1 r2 => h2 _ O H H2 v w x y _ _ m L.dom r1 r2 e fun v H3 m3 r3 => ⟨r, r3.bl, h H3 (sTr m m3)⟩
def cOp (p : Int → Int → Bool) : R → R → Option R
  | .d (.int i), .d (.int j) => some (.d (.bool (p i j)))
  | _, _ => none
theorem opsC {f : Value → Value → Sem Value} {p : Int → Int → Bool} (h : OpR X f (rI0 fun i j => .bl (p i j))) : OpS X f (cOp p) :=
  ⟨_, h, fun N O H H' x y a b r Q m dm r1 r2 e q => by
    unfold cOp at e
    split at e
    · cases e
      exact ⟨_, _, r1.int, r2.int, q _ H' (sRefl H') (Rp.bl _)⟩
    · cases e⟩
def opEq (a b : R) : Option R := if SeqAt.shaped (dv a) && SeqAt.shaped (dv b) then some (.d (.bool (PyData.eqv (dv a) (dv b)))) else none
def opNe (a b : R) : Option R := if SeqAt.shaped (dv a) && SeqAt.shaped (dv b) then some (.d (.bool (!PyData.eqv (dv a) (dv b)))) else none
theorem shaped_lay {d : PyData} (h : SeqAt.shaped d = true) : d.canLay0 = true := by
  have h' : (d.canLay0 && decide (d.depth ≤ 64)) = true := h
  rw [Bool.and_eq_true] at h'
  exact h'.1
theorem os_eq {k : Nat} (hr : Room k X.A) : OpS X (compareOp .Eq) opEq := ⟨_, op_eqD hr.units, fun N O H H' x y a b r Q m dm r1 r2 e q => by
  unfold opEq at e
  split at e
  · rename_i hs
    rw [Bool.and_eq_true] at hs
    cases e
    exact ⟨_, _, r1.dp (shaped_lay hs.1), r2.dp (shaped_lay hs.2), hs.1, hs.2, q _ H' (sRefl H') (Rp.bl _)⟩
  · cases e⟩
theorem os_ne {k : Nat} (hr : Room k X.A) : OpS X (compareOp .NotEq) opNe := ⟨_, op_neD hr.units, fun N O H H' x y a b r Q m dm r1 r2 e q => by
  unfold opNe at e
  split at e
  · rename_i hs
    rw [Bool.and_eq_true] at hs
    cases e
    exact ⟨_, _, r1.dp (shaped_lay hs.1), r2.dp (shaped_lay hs.2), hs.1, hs.2, q _ H' (sRefl H') (Rp.bl _)⟩
  · cases e⟩
def opLt : R → R → Option R := cOp fun i j => decide (i < j)
def opLe : R → R → Option R := cOp fun i j => decide (i ≤ j)
def opGt : R → R → Option R := cOp fun i j => decide (j < i)
def opGe : R → R → Option R := cOp fun i j => decide (j ≤ i)
theorem os_lt : OpS X (compareOp .Lt) opLt := opsC op_lt
theorem os_le : OpS X (compareOp .LtE) opLe := opsC op_le
theorem os_gt : OpS X (compareOp .Gt) opGt := opsC op_gt
theorem os_ge : OpS X (compareOp .GtE) opGe := opsC op_ge
/-- is None, is not None -/
def isNon : PyData → Bool
  | .none => true
  | _ => false
theorem RR.non {K : PySem.W.Frag} {N : Addr → Prop} {O : List Addr} {H H' : Hp} {v : V} {a : R} (h : RR K N O H H' v a) : decide (v = .non) = isNon (dv a) := by
  cases a with
  | d x =>
    have h : Rp K N H' x v := h
    cases h <;> rfl
  | own xs => obtain ⟨p, vs, rfl, _⟩ := h; rfl
  | bor xs => obtain ⟨p, vs, rfl, _⟩ := h; rfl
def opIsN (a b : R) : Option R := match b with
  | .d .none => some (.d (.bool (isNon (dv a))))
  | _ => none
def opNotN (a b : R) : Option R := match b with
  | .d .none => some (.d (.bool (!isNon (dv a))))
  | _ => none
theorem os_isN : OpS X (compareOp .Is) opIsN := ⟨_, op_isN, fun N O H H' x y a b r Q m dm r1 r2 e q => by
  unfold opIsN at e
  split at e
  · cases e
    have r2 : Rp X.K N H' .none y := r2
    cases r2
    rw [r1.non]
    exact ⟨rfl, q _ H' (sRefl H') (Rp.bl _)⟩
  · cases e⟩
theorem os_notN : OpS X (compareOp .IsNot) opNotN := ⟨_, op_notN, fun N O H H' x y a b r Q m dm r1 r2 e q => by
  unfold opNotN at e
  split at e
  · cases e
    have r2 : Rp X.K N H' .none y := r2
    cases r2
    rw [r1.non]
    exact ⟨rfl, q _ H' (sRefl H') (Rp.bl _)⟩
  · cases e⟩
/-- two comparisons in a chain -/
def eChain (p q : R → R → Option R) (f g h : Env → Option R) : Env → Option R := fun env => (f env).bind fun a => (g env).bind fun b => (p a b).bind fun z => match isB z with
  | some true => (h env).bind fun c => q b c
  | some false => some (.d (.bool false))
  | none => none

/-! ### and, or, not, if -/
def bAnd (f g : Env → Option Bool) : Env → Option Bool := fun env => (f env).bind fun b => if b then g env else some false
def bOr (f g : Env → Option Bool) : Env → Option Bool := fun env => (f env).bind fun b => if b then some true else g env
def bNot (f : Env → Option Bool) : Env → Option Bool := fun env => (f env).map (!·)
abbrev SW (X : Cx) (e : Expr) (f : Env → Option Bool) : Prop := PW X e (tT X.K f)
theorem sw_and1 {a : Expr} {f : Env → Option Bool} {pos : Pos} (ha : ST X a f) : SW X (.BoolOp .And [a] pos) f := pw_and1 ha
theorem sw_or1 {a : Expr} {f : Env → Option Bool} {pos : Pos} (ha : ST X a f) : SW X (.BoolOp .Or [a] pos) f := pw_or1 ha
theorem sw_and {a b : Expr} {rest : List Expr} {f g : Env → Option Bool} {pos : Pos} (ha : ST X a f) (hb : SW X (.BoolOp .And (b :: rest) pos) g) : SW X (.BoolOp .And (a :: b :: rest) pos) (bAnd f g) :=
  imW (pw_and ha hb) fun σ H Q h => by
    obtain ⟨F, H0, env, O, r, L, e, h⟩ := h
    obtain ⟨x, e1, e⟩ := Option.bind_eq_some_iff.mp e
    refine oneT L e1 fun H' m => ?_
    cases x with
    | true => exact oneT (L.mono m) e fun H2 m2 => h H2 (sTr m m2)
    | false => cases e; exact h H' m
theorem sw_or {a b : Expr} {rest : List Expr} {f g : Env → Option Bool} {pos : Pos} (ha : ST X a f) (hb : SW X (.BoolOp .Or (b :: rest) pos) g) : SW X (.BoolOp .Or (a :: b :: rest) pos) (bOr f g) :=
  imW (pw_or ha hb) fun σ H Q h => by
    obtain ⟨F, H0, env, O, r, L, e, h⟩ := h
    obtain ⟨x, e1, e⟩ := Option.bind_eq_some_iff.mp e
    refine oneT L e1 fun H' m => ?_
    cases x with
    | false => exact oneT (L.mono m) e fun H2 m2 => h H2 (sTr m m2)
    | true => cases e; exact h H' m
theorem st_of {e : Expr} {f : Env → Option Bool} (h : SW X e f) : ST X e f := h.pt
theorem st_not {a : Expr} {f : Env → Option Bool} {pos : Pos} (ha : ST X a f) : ST X (.UnaryOp .Not a pos) (bNot f) :=
  imT (pt_not ha) fun σ H Q h => by
    obtain ⟨F, H0, env, O, r, L, e, h⟩ := h
    obtain ⟨x, e1, e⟩ := Option.map_eq_some_iff.mp e
    subst e
    exact oneT L e1 fun H' m => h H' m
/-- .. as values, of bools -/
def eAnd (f g : Env → Option R) : Env → Option R := fun env => (f env).bind fun a => match isB a with
  | some true => g env
  | some false => some (.d (.bool false))
  | none => none
def eOr (f g : Env → Option R) : Env → Option R := fun env => (f env).bind fun a => match isB a with
  | some true => some (.d (.bool true))
  | some false => g env
  | none => none
def eNot (f : Env → Option R) : Env → Option R := fun env => (f env).bind fun a => match isB a with
  | some b => some (.d (.bool (!b)))
  | none => none
theorem se_bool1 {op} {a : Expr} {f : Env → Option R} {pos : Pos} (ha : SE X a f) : SE X (.BoolOp op [a] pos) f := pe_one ha
theorem se_and {a b : Expr} {rest : List Expr} {f g : Env → Option R} {pos : Pos} (ha : SE X a f) (hb : SE X (.BoolOp .And (b :: rest) pos) g) : SE X (.BoolOp .And (a :: b :: rest) pos) (eAnd f g) :=
  imE (pe_and ha hb) fun σ H Q h => by
    obtain ⟨F, H0, env, O, r, L, e, h⟩ := h
    obtain ⟨x, e1, e⟩ := Option.bind_eq_some_iff.mp e
    split at e
    · rename_i hb
      rw [isB_some hb] at e1
      exact one L e1 fun v H' m r1 => ⟨true, r1.bl, iteT (one (L.mono m) e fun w H2 m2 r2 => h w H2 (sTr m m2) (r2.back m))⟩
    · rename_i hb
      cases e
      rw [isB_some hb] at e1
      exact one L e1 fun v H' m r1 => ⟨false, r1.bl, iteF (h _ H' m (Rp.bl false))⟩
    · cases e
theorem se_or {a b : Expr} {rest : List Expr} {f g : Env → Option R} {pos : Pos} (ha : SE X a f) (hb : SE X (.BoolOp .Or (b :: rest) pos) g) : SE X (.BoolOp .Or (a :: b :: rest) pos) (eOr f g) :=
  imE (pe_or ha hb) fun σ H Q h => by
    obtain ⟨F, H0, env, O, r, L, e, h⟩ := h
    obtain ⟨x, e1, e⟩ := Option.bind_eq_some_iff.mp e
    split at e
    · rename_i hb
      cases e
      rw [isB_some hb] at e1
      exact one L e1 fun v H' m r1 => ⟨true, r1.bl, iteT (h _ H' m (Rp.bl true))⟩
    · rename_i hb
      rw [isB_some hb] at e1
      exact one L e1 fun v H' m r1 => ⟨false, r1.bl, iteF (one (L.mono m) e fun w H2 m2 r2 => h w H2 (sTr m m2) (r2.back m))⟩
    · cases e
theorem se_not {a : Expr} {f : Env → Option R} {pos : Pos} (ha : SE X a f) : SE X (.UnaryOp .Not a pos) (eNot f) :=
  imE (pe_not ha) fun σ H Q h => by
    obtain ⟨F, H0, env, O, r, L, e, h⟩ := h
    obtain ⟨x, e1, e⟩ := Option.bind_eq_some_iff.mp e
    split at e
    · rename_i b hb
      cases e
      rw [isB_some hb] at e1
      exact one L e1 fun v H' m r1 => ⟨b, r1.bl, h _ H' m (Rp.bl _)⟩
    · cases e
def eIf (c : Env → Option Bool) (f g : Env → Option R) : Env → Option R := fun env => (c env).bind fun b => if b then f env else g env
theorem se_if {c a b : Expr} {t : Env → Option Bool} {f g : Env → Option R} {pos : Pos} (hc : ST X c t) (ha : SE X a f) (hb : SE X b g) : SE X (.IfExp c a b pos) (eIf t f g) :=
  imE (pe_ifExp hc ha hb) fun σ H Q h => by
    obtain ⟨F, H0, env, O, r, L, e, h⟩ := h
    obtain ⟨x, e1, e⟩ := Option.bind_eq_some_iff.mp e
    refine oneT L e1 fun H' m => ?_
    cases x with
    | true => exact iteT (one (L.mono m) e fun w H2 m2 r2 => h w H2 (sTr m m2) (r2.back m))
    | false => exact iteF (one (L.mono m) e fun w H2 m2 r2 => h w H2 (sTr m m2) (r2.back m))
end
end PV

/-! PV3: items, slices, displays, calls, comprehensions -/
namespace PV
open PySem L2

section
variable {K : PySem.W.Frag} {N N' F F' : Addr → Prop} {H H' H0 H1 H2 : Hp} {env : Env} {σ : St} {O : List Addr}
theorem RpA.atI {ds : List PyData} {vs : List V} {i : Int} {d : PyData} (h : RpA K N H ds vs) (e : atI ds i = some d) : ∃ v, atI vs i = some v ∧ Rp K N H d v := by
  unfold L2.atI at e ⊢
  rw [h.length]
  obtain ⟨j, e1, e2⟩ := Option.bind_eq_some_iff.mp e
  obtain ⟨v, q, r⟩ := h.get e2
  exact ⟨v, by rw [e1]; exact q, r⟩
def cutD {α : Type} (xs : List α) (lo hi : Option Int) : List α := (xs.drop (HT.sIx xs.length 0 lo)).take (HT.sIx xs.length xs.length hi - HT.sIx xs.length 0 lo)
theorem RpA.cut {ds : List PyData} {vs : List V} (lo hi : Option Int) (h : RpA K N H ds vs) : RpA K N H (cutD ds lo hi) (cutV vs lo hi) := by
  unfold cutD cutV
  rw [h.length]
  exact (h.drop _).take _
end

section
variable {X : Cx}
/-! ### items -/
def opIx (a b : R) : Option R := match b with
  | .d (.int i) => (match a with
    | .d (.str z) => if z.length ≤ LIM then (atI z.cps.toList i).map fun c => .d (.str ⟨#[c]⟩) else none
    | a => (sv a).bind fun xs => (atI xs i).map .d)
  | _ => none
theorem se_ix {a b : Expr} {ta tb : Env → Option R} {pos : Pos} (ha : SE X a ta) (hb : SE X b tb) (hs : PlainIx b := by exact fun _ _ => rfl) : SE X (.Subscript a b pos) (bind2 opIx ta tb) :=
  imE (pe_ix ix_seq ha hb hs) fun σ H Q h => by
    obtain ⟨F, H0, env, O, r, L, e, h⟩ := h
    obtain ⟨x, y, e1, e2, e⟩ := bind2_some e
    refine two L e1 e2 fun v w H2 m r1 r2 => ?_
    unfold opIx at e
    split at e
    · rename_i i
      split at e
      · split at e
        · rename_i hl
          obtain ⟨c, hc, e⟩ := Option.map_eq_some_iff.mp e
          subst e
          exact .inr (.inr ⟨_, i, c, r1.str, r2.int, lim_line hl, hc, h _ H2 m (Rp.str _)⟩)
        · cases e
      · obtain ⟨xs, e3, e⟩ := Option.bind_eq_some_iff.mp e
        obtain ⟨d, hd, e⟩ := Option.map_eq_some_iff.mp e
        subst e
        obtain ⟨p, vs, rfl, hp, ra⟩ := r1.seq e3
        obtain ⟨u, hu, ru⟩ := ra.atI hd
        rcases hp with hp | hp
        · exact .inl ⟨p, vs, i, u, rfl, r2.int, hp, hu, h _ H2 m ru⟩
        · exact .inr (.inl ⟨p, vs, i, u, rfl, r2.int, hp, hu, h _ H2 m ru⟩)
    · cases e

/-! ### slices -/
def tO (K : PySem.W.Frag) (f : Env → Option (Option Int)) : TO := fun σ H Q => ∃ F H0 env O o, Rl K F H0 env σ H O ∧ f env = some o ∧ ∀ H', Same H H' → Q o H'
abbrev SO (X : Cx) (e : Option Expr) (f : Env → Option (Option Int)) : Prop := PO X e (tO X.K f)
def pNo : Env → Option (Option Int) := fun _ => some none
def pAt (f : Env → Option R) : Env → Option (Option Int) := fun env => (f env).bind fun r => match r with
  | .d (.int i) => some (some i)
  | _ => none
theorem imO {e : Option Expr} {t t' : TO} (h : PO X e t) (i : ∀ σ H Q, t' σ H Q → t σ H Q) : PO X e t' := ⟨fun pins s σ H Q I hw => h.run pins s σ H Q I (i σ H Q hw)⟩
theorem so_none : SO X none pNo := imO po_none fun σ H Q h => by
  obtain ⟨F, H0, env, O, r, L, e, h⟩ := h
  cases e
  exact h H (sRefl H)
theorem so_some {e : Expr} {f : Env → Option R} (he : SE X e f) : SO X (some e) (pAt f) := imO (po_some he) fun σ H Q h => by
  obtain ⟨F, H0, env, O, r, L, e, h⟩ := h
  obtain ⟨x, e1, e⟩ := Option.bind_eq_some_iff.mp e
  split at e
  · cases e
    exact one L e1 fun v H' m r1 => ⟨_, r1.int, h H' m⟩
  · cases e
def opSl (a : R) (lo hi : Option Int) : Option R := match a with
  | .d (.tuple xs) => some (.d (.tuple (cutD xs lo hi)))
  | .d (.str z) => if z.length ≤ LIM then some (.d (.str (cutS z lo hi))) else none
  | a => (lv a).map fun xs => .own (cutD xs lo hi)
def eSl (f : Env → Option R) (lo hi : Env → Option (Option Int)) : Env → Option R := fun env => (f env).bind fun a => (lo env).bind fun l => (hi env).bind fun h => opSl a l h
theorem cutD_whole {xs : List PyData} {lo hi : Option Int} (h : HT.sIx xs.length 0 lo = 0 ∧ HT.sIx xs.length xs.length hi = xs.length) : cutD xs lo hi = xs := by
  unfold cutD
  rw [h.1, h.2, List.drop_zero, Nat.sub_zero, List.take_length]
theorem se_sl {a : Expr} {lo hi : Option Expr} {f : Env → Option R} {l u : Env → Option (Option Int)} {p2 pos : Pos} (ha : SE X a f) (hl : SO X lo l) (hu : SO X hi u) : SE X (.Subscript a (.Slice lo hi none p2) pos) (eSl f l u) :=
  imE (pe_slice (sl_tupA.or (sl_list.or sl_str)) ha hl hu) fun σ H Q h => by
    obtain ⟨F, H0, env, O, r, L, e, h⟩ := h
    obtain ⟨x, e1, e⟩ := Option.bind_eq_some_iff.mp e
    obtain ⟨y, e2, e⟩ := Option.bind_eq_some_iff.mp e
    obtain ⟨z, e3, e⟩ := Option.bind_eq_some_iff.mp e
    refine one L e1 fun v H1 m1 r1 => ⟨F, H0, env, O, y, L.mono m1, e2, fun H2 m2 => ⟨F, H0, env, O, z, L.mono (sTr m1 m2), e3, fun H3 m3 => ?_⟩⟩
    have r1 := r1.mono (sTr m2 m3)
    have m := sTr m1 (sTr m2 m3)
    unfold opSl at e
    split at e
    · rename_i xs
      cases e
      obtain ⟨p, vs, rfl, hp, ra⟩ := r1.tup
      refine .inl ⟨p, vs, rfl, hp, fun hw => ?_, fun _ l nl => ?_⟩
      · rw [ra.length] at hw
        rw [cutD_whole hw] at h
        exact h _ H3 m r1
      · exact h _ _ (sTr m (sNew nl)) (Rp.tup (.inl (.inl upd_same)) ((ra.cut _ _).mono (sNew nl)))
    · split at e
      · rename_i hl
        cases e
        exact .inr (.inr ⟨_, r1.str, lim_line hl, h _ H3 m (Rp.str _)⟩)
      · cases e
    · obtain ⟨xs, e4, e⟩ := Option.map_eq_some_iff.mp e
      subst e
      obtain ⟨p, vs, rfl, hp, ra⟩ := r1.lst e4
      exact .inr (.inl ⟨p, vs, rfl, .inl (.inl hp), fun l nl => h _ _ (sTr m (sNew nl)) ⟨l, _, rfl, sNone m nl, upd_same, (ra.cut _ _).fresh nl⟩⟩)

/-! ### argument lists, displays -/
def aNil : Env → Option (List R) := fun _ => some []
def aCons (f : Env → Option R) (g : Env → Option (List R)) : Env → Option (List R) := fun env => (f env).bind fun r => (g env).map (r :: ·)
theorem sa_nil : SA X [] aNil := imA pa_nil fun σ H Q h => by
  obtain ⟨F, H0, env, O, r, L, e, h⟩ := h
  cases e
  exact h [] H (sRefl H) trivial
theorem Rl.extR {K : PySem.W.Frag} {F : Addr → Prop} {H H1 H0 : Hp} {env : Env} {σ : St} {O : List Addr} {v : V} {r : R} (L : Rl K F H0 env σ H O) (m : Same H H1) (h : RR K (nn O F) O H H1 v r) :
    ∃ F', Rl K F' H0 env σ H1 O ∧ ∀ a, nn O F' a ↔ PV.ext (nn O F) v r a := by
  cases r with
  | own xs =>
    obtain ⟨p, vs, rfl, n, q, _⟩ := h
    refine ⟨_, L.ext n m (some_of q), fun a => ?_⟩
    show (a ∈ O ∨ F a ∨ a = p) ↔ ((a ∈ O ∨ F a) ∨ V.ref p = V.ref a)
    constructor
    · rintro (z | z | z)
      · exact .inl (.inl z)
      · exact .inl (.inr z)
      · exact .inr (by rw [z])
    · rintro ((z | z) | z)
      · exact .inl z
      · exact .inr (.inl z)
      · cases z; exact .inr (.inr rfl)
  | d x => exact ⟨F, L.mono m, fun a => Iff.rfl⟩
  | bor xs => exact ⟨F, L.mono m, fun a => Iff.rfl⟩
theorem rra_iff {K : PySem.W.Frag} {O : List Addr} {H' : Hp} : ∀ {vs : List V} {rs : List R} {N N' : Addr → Prop} {H : Hp}, (∀ a, N a ↔ N' a) → RRA K O H' N H vs rs → RRA K O H' N' H vs rs
  | [], [], _, _, _, _, h => h
  | [], _ :: _, _, _, _, _, h => h
  | _ :: _, [], _, _, _, _, h => h
  | v :: vs, r :: rs, N, N', H, i, h => by
    have e : N = N' := funext fun a => propext (i a)
    subst e
    exact h
theorem sa_cons {e : Expr} {es : List Expr} {f : Env → Option R} {g : Env → Option (List R)} (he : SE X e f) (hr : SA X es g) (hs : starEach (e :: es) X.env = (false, eval e X.env) :: starEach es X.env := by rfl) : SA X (e :: es) (aCons f g) :=
  imA (pa_cons he hr hs) fun σ H Q h => by
    obtain ⟨F, H0, env, O, r, L, e, h⟩ := h
    obtain ⟨x, e1, e⟩ := Option.bind_eq_some_iff.mp e
    obtain ⟨ys, e2, e⟩ := Option.map_eq_some_iff.mp e
    subst e
    refine one L e1 fun v H1 m1 r1 => ?_
    obtain ⟨F', L', i⟩ := L.extR m1 r1
    refine ⟨F', H0, env, O, ys, L', e2, fun vs H2 m2 r2 => h _ H2 (sTr m1 m2) ⟨H1, m1, m2, r1, rra_iff i r2⟩⟩
def RRL (K : PySem.W.Frag) (N : Addr → Prop) (O : List Addr) (H H' : Hp) : List V → List R → Prop := Paired (RR K N O H H')
theorem RRA.all {K : PySem.W.Frag} {O : List Addr} {H' : Hp} : ∀ {vs : List V} {rs : List R} {N M : Addr → Prop} {H G : Hp}, Same G H → (∀ a, M a → N a) → RRA K O H' N H vs rs → RRL K M O G H' vs rs
  | [], [], _, _, _, _, _, _, h => .nil
  | [], _ :: _, _, _, _, _, _, _, h => h.elim
  | _ :: _, [], _, _, _, _, _, _, h => h.elim
  | v :: vs, r :: rs, N, M, H, G, m, i, h => by
    obtain ⟨H1, m1, m2, r1, r2⟩ := h
    refine .cons (((r1.mono m2).back m).sub fun a _ z => i a z) (RRA.all (sTr m m1) (fun a z => ?_) r2)
    cases r with
    | own xs => exact .inl (i a z)
    | d x => exact i a z
    | bor x => exact i a z
def toDs : List R → Option (List PyData)
  | [] => some []
  | r :: rs => (toD r).bind fun d => (toDs rs).map (d :: ·)
theorem RRL.toDs {K : PySem.W.Frag} {N : Addr → Prop} {O : List Addr} {H H' : Hp} (dm : ∀ a, N a → (H a).isSome = true) : ∀ {vs : List V} {rs : List R} {ds : List PyData}, RRL K N O H H' vs rs → toDs rs = some ds → RpA K N H' ds vs
  | _, _, _, .nil, e => by cases e; exact .nil
  | _, _, _, .cons h t, e => by
    obtain ⟨d, e1, e⟩ := Option.bind_eq_some_iff.mp e
    obtain ⟨ds, e2, e⟩ := Option.map_eq_some_iff.mp e
    subst e
    exact .cons (h.toD e1 dm) (RRL.toDs dm t e2)
def eTup (f : Env → Option (List R)) : Env → Option R := fun env => (f env).bind fun rs => (toDs rs).bind fun ds => if ds.length ≤ LIM then some (.d (.tuple ds)) else none
def eLst (f : Env → Option (List R)) : Env → Option R := fun env => (f env).bind fun rs => (toDs rs).bind fun ds => if ds.length ≤ LIM then some (.own ds) else none
theorem se_tup {es : List Expr} {f : Env → Option (List R)} {x1} {pos : Pos} (h : SA X es f) : SE X (.Tuple es x1 pos) (eTup f) :=
  imE (pe_tup h) fun σ H Q h => by
    obtain ⟨F, H0, env, O, r, L, e, h⟩ := h
    obtain ⟨rs, e1, e⟩ := Option.bind_eq_some_iff.mp e
    obtain ⟨ds, e2, e⟩ := Option.bind_eq_some_iff.mp e
    split at e
    · rename_i hl
      cases e
      refine ⟨F, H0, env, O, rs, L, e1, fun vs H1 m r => ?_⟩
      have ra := RRL.toDs L.dom (RRA.all (sRefl H) (fun _ z => z) r) e2
      exact ⟨lim_line (by rw [ra.length]; exact hl), fun p np => h _ _ (sTr m (sNew np)) (Rp.tup (.inl (.inl upd_same)) (ra.mono (sNew np)))⟩
    · cases e
theorem se_lst {es : List Expr} {f : Env → Option (List R)} {pos : Pos} (h : SA X es f) : SE X (.List es pos) (eLst f) :=
  imE (pe_lst h) fun σ H Q h => by
    obtain ⟨F, H0, env, O, r, L, e, h⟩ := h
    obtain ⟨rs, e1, e⟩ := Option.bind_eq_some_iff.mp e
    obtain ⟨ds, e2, e⟩ := Option.bind_eq_some_iff.mp e
    split at e
    · rename_i hl
      cases e
      refine ⟨F, H0, env, O, rs, L, e1, fun vs H1 m r => ?_⟩
      have ra := RRL.toDs L.dom (RRA.all (sRefl H) (fun _ z => z) r) e2
      exact ⟨lim_line (by rw [ra.length]; exact hl), fun p np => h _ _ (sTr m (sNew np)) ⟨p, _, rfl, sNone m np, upd_same, ra.fresh np⟩⟩
    · cases e

/-! ### calls of built-ins -/
def CallS (X : Cx) (f : Value) (op : List R → Option R) : Prop :=
  ∃ rr : List V → Hp → VK → Prop, CallR X f rr ∧ ∀ (N : Addr → Prop) (O : List Addr) (H H' : Hp) (vs : List V) (rs : List R) (r : R) (Q : VK), Same H H' → (∀ p, N p → (H p).isSome = true) → RRL X.K N O H H' vs rs → op rs = some r →
    (∀ v H2, Same H' H2 → RR X.K N O H H2 v r → Q v H2) → rr vs H' Q
def bindA (op : List R → Option R) (f : Env → Option (List R)) : Env → Option R := fun env => (f env).bind op
theorem callS_imp {K : PySem.W.Frag} {rr : List V → Hp → VK → Prop} {op : List R → Option R} {f : Env → Option (List R)} (hk : ∀ (N : Addr → Prop) (O : List Addr) (H H' : Hp) (vs : List V) (rs : List R) (r : R) (Q : VK), Same H H' → (∀ p, N p → (H p).isSome = true) → RRL K N O H H' vs rs → op rs = some r →
    (∀ v H2, Same H' H2 → RR K N O H H2 v r → Q v H2) → rr vs H' Q) (σ : St) (H : Hp) (Q : VK) (h : tE K (bindA op f) σ H Q) : tCB rr (tA K f) σ H Q := by
  obtain ⟨F, H0, env, O, r, L, e, h⟩ := h
  obtain ⟨rs, e1, e⟩ := Option.bind_eq_some_iff.mp e
  exact ⟨F, H0, env, O, rs, L, e1, fun vs H1 m ra => hk _ O H H1 vs rs r Q m L.dom (RRA.all (sRefl H) (fun _ z => z) ra) e fun v H2 m2 r2 => h v H2 (sTr m m2) r2⟩
theorem se_callB {id : String} {x : Str} {op : List R → Option R} {p pos : Pos} {e : Expr} {es : List Expr} {f : Env → Option (List R)} (hc : CallS X (.builtin id) op) (hg : Gl X x) (hm : X.mg x = none) (hv : bootBuiltins x = some (.builtin id)) (ha : SA X (e :: es) f)
    (hn : x ≠ "__name__" := by decide) (hdb : (x == ("__debug__" : Str)) = false := by decide) (he : starEach (e :: es) X.env = (false, eval e X.env) :: starEach es X.env := by rfl) (hpl : (backTo pos (starEach es X.env)).any (·.1) = false := by rfl) :
    SE X (.Call (.Name x p) (e :: es) [] pos) (bindA op f) := by
  obtain ⟨rr, h1, h2⟩ := hc
  exact imE (pe_callB h1 hg hm hv ha hn hdb he hpl) fun σ H Q h => callS_imp h2 σ H Q h
theorem se_callTy {T : String} {x : Str} {op : List R → Option R} {p pos : Pos} {e : Expr} {es : List Expr} {f : Env → Option (List R)} (hc : CallS X (.type T) op) (hg : Gl X x) (hm : X.mg x = none) (hv : bootBuiltins x = some (.type T)) (ha : SA X (e :: es) f)
    (hn : x ≠ "__name__" := by decide) (hdb : (x == ("__debug__" : Str)) = false := by decide) (he : starEach (e :: es) X.env = (false, eval e X.env) :: starEach es X.env := by rfl) (hpl : (backTo pos (starEach es X.env)).any (·.1) = false := by rfl) :
    SE X (.Call (.Name x p) (e :: es) [] pos) (bindA op f) := by
  obtain ⟨rr, h1, h2⟩ := hc
  exact imE (pe_callTy h1 hg hm hv ha hn hdb he hpl) fun σ H Q h => callS_imp h2 σ H Q h
theorem RRL.c1 {K : PySem.W.Frag} {N : Addr → Prop} {O : List Addr} {H H' : Hp} {vs : List V} {r : R} (h : RRL K N O H H' vs [r]) : ∃ v, vs = [v] ∧ RR K N O H H' v r := by
  cases h with
  | cons a t => cases t; exact ⟨_, rfl, a⟩
theorem RRL.c2 {K : PySem.W.Frag} {N : Addr → Prop} {O : List Addr} {H H' : Hp} {vs : List V} {r q : R} (h : RRL K N O H H' vs [r, q]) : ∃ v w, vs = [v, w] ∧ RR K N O H H' v r ∧ RR K N O H H' w q := by
  cases h with
  | cons a t =>
    cases t with
    | cons b t => cases t; exact ⟨_, _, rfl, a, b⟩
theorem CallS.or {f : Value} {p q : List R → Option R} (h1 : CallS X f p) (h2 : CallS X f q) : CallS X f (fun a => (p a).or (q a)) := by
  obtain ⟨r1, g1, k1⟩ := h1
  obtain ⟨r2, g2, k2⟩ := h2
  refine ⟨_, g1.or g2, fun N O H H' vs a r Q m dm rx e qq => ?_⟩
  cases hp : p a with
  | some z =>
    have e' : z = r := by simpa [hp] using e
    subst e'
    exact .inl (k1 N O H H' vs a _ Q m dm rx hp qq)
  | none =>
    have e' : q a = some r := by simpa [hp] using e
    exact .inr (k2 N O H H' vs a _ Q m dm rx e' qq)
/-- of one argument -/
def op1 (g : R → Option R) : List R → Option R
  | [r] => g r
  | _ => none
theorem calls1 {f : Value} {g : R → Option R} {rr : V → Hp → VK → Prop} (h : CallR X f (fun vs H Q => ∃ v, vs = [v] ∧ rr v H Q))
    (k : ∀ (N : Addr → Prop) (O : List Addr) (H H' : Hp) (v : V) (a r : R) (Q : VK), Same H H' → (∀ p, N p → (H p).isSome = true) → RR X.K N O H H' v a → g a = some r → (∀ v H2, Same H' H2 → RR X.K N O H H2 v r → Q v H2) → rr v H' Q) : CallS X f (op1 g) :=
  ⟨_, h, fun N O H H' vs rs r Q m dm rl e q => by
    unfold op1 at e
    split at e
    · obtain ⟨v, rfl, r1⟩ := rl.c1
      exact ⟨v, rfl, k N O H H' v _ r Q m dm r1 e q⟩
    · cases e⟩
theorem imR {f : Value} {r r' : List V → Hp → VK → Prop} (h : CallR X f r) (i : ∀ xs H Q, r' xs H Q → r xs H Q) : CallR X f r' := fun pins s σ H xs us Q I r hh => h pins s σ H xs us Q I r (i _ _ _ hh)
def fLen (a : R) : Option R := match a with
  | .d (.str z) => if z.length ≤ LIM then some (.d (.int z.length)) else none
  | a => (sv a).map fun xs => .d (.int xs.length)
theorem cs_len : CallS X (.builtin "len") (op1 fLen) := by
  refine ⟨_, call_len_seq.or call_len_str, fun N O H H' vs rs r Q m dm rl e q => ?_⟩
  unfold op1 at e
  split at e
  · obtain ⟨v, rfl, r1⟩ := rl.c1
    unfold fLen at e
    split at e
    · split at e
      · rename_i hl
        cases e
        exact .inr ⟨_, by rw [r1.str], lim_line hl, q _ H' (sRefl H') (Rp.int _)⟩
      · cases e
    · obtain ⟨xs, e1, e⟩ := Option.map_eq_some_iff.mp e
      subst e
      obtain ⟨p, vs, rfl, hp, ra⟩ := r1.seq e1
      refine .inl ⟨p, vs, rfl, hp, ?_⟩
      rw [ra.length]
      exact q _ H' (sRefl H') (Rp.int _)
  · cases e
def fInt : R → Option R
  | .d (.int i) => some (.d (.int i))
  | .d (.bool b) => some (.d (.int (if b then 1 else 0)))
  | _ => none
theorem cs_int : CallS X (.type "int") (op1 fInt) := by
  refine ⟨_, call_int1, fun N O H H' vs rs r Q m dm rl e q => ?_⟩
  unfold op1 at e
  split at e
  · obtain ⟨v, rfl, r1⟩ := rl.c1
    unfold fInt at e
    split at e
    · cases e
      exact .inl ⟨_, by rw [r1.int], q _ H' (sRefl H') (Rp.int _)⟩
    · cases e
      exact .inr ⟨_, by rw [r1.bl], q _ H' (sRefl H') (Rp.int _)⟩
    · cases e
  · cases e
def fAbs : R → Option R
  | .d (.int i) => some (.d (.int (if i < 0 then -i else i)))
  | _ => none
theorem cs_abs : CallS X (.builtin "abs") (op1 fAbs) := by
  refine ⟨_, call_abs, fun N O H H' vs rs r Q m dm rl e q => ?_⟩
  unfold op1 at e
  split at e
  · obtain ⟨v, rfl, r1⟩ := rl.c1
    unfold fAbs at e
    split at e
    · cases e
      exact ⟨_, by rw [r1.int], q _ H' (sRefl H') (Rp.int _)⟩
    · cases e
  · cases e
def op2I (g : Int → Int → Int) : List R → Option R
  | [.d (.int i), .d (.int j)] => some (.d (.int (g i j)))
  | _ => none
theorem cs_max2 (hc : X.calm = true) : CallS X (.builtin "max") (op2I fun i j => if j > i then j else i) := by
  refine ⟨_, call_max2 hc, fun N O H H' vs rs r Q m dm rl e q => ?_⟩
  unfold op2I at e
  split at e
  · cases e
    obtain ⟨v, w, rfl, r1, r2⟩ := rl.c2
    exact ⟨_, _, by rw [r1.int, r2.int], q _ H' (sRefl H') (Rp.int _)⟩
  · cases e
theorem cs_min2 (hc : X.calm = true) : CallS X (.builtin "min") (op2I fun i j => if j < i then j else i) := by
  refine ⟨_, call_min2 hc, fun N O H H' vs rs r Q m dm rl e q => ?_⟩
  unfold op2I at e
  split at e
  · cases e
    obtain ⟨v, w, rfl, r1, r2⟩ := rl.c2
    exact ⟨_, _, by rw [r1.int, r2.int], q _ H' (sRefl H') (Rp.int _)⟩
  · cases e
/-- list(x), tuple(x) of a list or a tuple -/
def fList (a : R) : Option R := (sv a).map .own
theorem cs_list : CallS X (.type "list") (op1 fList) := by
  refine ⟨_, call_list_of, fun N O H H' vs rs r Q m dm rl e q => ?_⟩
  unfold op1 at e
  split at e
  · obtain ⟨v, rfl, r1⟩ := rl.c1
    obtain ⟨xs, e1, e⟩ := Option.map_eq_some_iff.mp e
    subst e
    obtain ⟨p, ws, rfl, hp, ra⟩ := r1.seq e1
    exact ⟨p, ws, rfl, hp, fun l nl => q _ _ (sNew nl) ⟨l, _, rfl, sNone m nl, upd_same, ra.fresh nl⟩⟩
  · cases e
def fTuple (a : R) : Option R := (sv a).map fun xs => .d (.tuple xs)
theorem cs_tuple : CallS X (.type "tuple") (op1 fTuple) := by
  refine ⟨_, call_tuple_of, fun N O H H' vs rs r Q m dm rl e q => ?_⟩
  unfold op1 at e
  split at e
  · obtain ⟨v, rfl, r1⟩ := rl.c1
    obtain ⟨xs, e1, e⟩ := Option.map_eq_some_iff.mp e
    subst e
    obtain ⟨p, ws, rfl, hp, ra⟩ := r1.seq e1
    refine ⟨p, ws, rfl, ?_⟩
    rcases hp with hp | hp
    · exact .inl ⟨hp, fun l nl => q _ _ (sNew nl) (Rp.tup (.inl (.inl upd_same)) (ra.mono (sNew nl)))⟩
    · exact .inr ⟨hp, q _ H' (sRefl H') (Rp.tup hp ra)⟩
  · cases e
/-- the ints of a list -/
def intsOf : List PyData → Option (List Int)
  | [] => some []
  | .int i :: ds => (intsOf ds).map (i :: ·)
  | _ => none
theorem intsOf_map : ∀ ns : List Int, intsOf (ns.map .int) = some ns
  | [] => rfl
  | n :: ns => by simp [intsOf, intsOf_map ns]
theorem intsOf_eq : ∀ {ds : List PyData} {ns : List Int}, intsOf ds = some ns → ds = ns.map .int
  | [], _, h => by cases h; rfl
  | .int i :: ds, _, h => by
    obtain ⟨ms, e, h⟩ := Option.map_eq_some_iff.mp h
    subst h
    rw [intsOf_eq e]; rfl
  | .none :: _, _, h => by cases h
  | .bool _ :: _, _, h => by cases h
  | .str _ :: _, _, h => by cases h
  | .list _ :: _, _, h => by cases h
  | .tuple _ :: _, _, h => by cases h
  | .dict _ :: _, _, h => by cases h
theorem RpA.intsV {K : PySem.W.Frag} {N : Addr → Prop} {H : Hp} : ∀ {ns : List Int} {vs : List V}, RpA K N H (ns.map .int) vs → vs = ns.map .int
  | [], _, h => by cases h; rfl
  | n :: ns, _, h => by
    cases h with
    | cons h1 h2 => cases h1; rw [RpA.intsV h2]; rfl
def bsOf : List PyData → Option (List Bool)
  | [] => some []
  | .bool i :: ds => (bsOf ds).map (i :: ·)
  | _ => none
theorem bsOf_map : ∀ ns : List Bool, bsOf (ns.map .bool) = some ns
  | [] => rfl
  | n :: ns => by simp [bsOf, bsOf_map ns]
theorem bsOf_eq : ∀ {ds : List PyData} {ns : List Bool}, bsOf ds = some ns → ds = ns.map .bool
  | [], _, h => by cases h; rfl
  | .bool i :: ds, _, h => by
    obtain ⟨ms, e, h⟩ := Option.map_eq_some_iff.mp h
    subst h
    rw [bsOf_eq e]; rfl
  | .none :: _, _, h => by cases h
  | .int _ :: _, _, h => by cases h
  | .str _ :: _, _, h => by cases h
  | .list _ :: _, _, h => by cases h
  | .tuple _ :: _, _, h => by cases h
  | .dict _ :: _, _, h => by cases h
theorem RpA.bsV {K : PySem.W.Frag} {N : Addr → Prop} {H : Hp} : ∀ {ns : List Bool} {vs : List V}, RpA K N H (ns.map .bool) vs → vs = ns.map .bl
  | [], _, h => by cases h; rfl
  | n :: ns, _, h => by
    cases h with
    | cons h1 h2 => cases h1; rw [RpA.bsV h2]; rfl
def fSum (a : R) : Option R := (lv a).bind fun xs => (intsOf xs).map fun ns => .d (.int ns.sum)
theorem cs_sum (hc : X.calm = true) : CallS X (.builtin "sum") (op1 fSum) := by
  refine ⟨_, cr_sum hc, fun N O H H' vs rs r Q m dm rl e q => ?_⟩
  unfold op1 at e
  split at e
  · obtain ⟨v, rfl, r1⟩ := rl.c1
    obtain ⟨xs, e1, e⟩ := Option.bind_eq_some_iff.mp e
    obtain ⟨ns, e2, e⟩ := Option.map_eq_some_iff.mp e
    subst e
    obtain ⟨p, ws, rfl, hp, ra⟩ := r1.lst e1
    rw [intsOf_eq e2] at ra
    rw [ra.intsV] at hp
    exact ⟨p, ns, rfl, .inl (.inl hp), q _ H' (sRefl H') (Rp.int _)⟩
  · cases e
def fAny (a : R) : Option R := (lv a).bind fun xs => (bsOf xs).map fun ns => .d (.bool (ns.any id))
def fAll (a : R) : Option R := (lv a).bind fun xs => (bsOf xs).map fun ns => .d (.bool (ns.all id))
theorem cs_any (hc : X.calm = true) : CallS X (.builtin "any") (op1 fAny) := by
  refine ⟨_, cr_any hc, fun N O H H' vs rs r Q m dm rl e q => ?_⟩
  unfold op1 at e
  split at e
  · obtain ⟨v, rfl, r1⟩ := rl.c1
    obtain ⟨xs, e1, e⟩ := Option.bind_eq_some_iff.mp e
    obtain ⟨ns, e2, e⟩ := Option.map_eq_some_iff.mp e
    subst e
    obtain ⟨p, ws, rfl, hp, ra⟩ := r1.lst e1
    rw [bsOf_eq e2] at ra
    rw [ra.bsV] at hp
    exact ⟨p, ns, rfl, .inl (.inl hp), q _ H' (sRefl H') (Rp.bl _)⟩
  · cases e
theorem cs_all (hc : X.calm = true) : CallS X (.builtin "all") (op1 fAll) := by
  refine ⟨_, cr_all hc, fun N O H H' vs rs r Q m dm rl e q => ?_⟩
  unfold op1 at e
  split at e
  · obtain ⟨v, rfl, r1⟩ := rl.c1
    obtain ⟨xs, e1, e⟩ := Option.bind_eq_some_iff.mp e
    obtain ⟨ns, e2, e⟩ := Option.map_eq_some_iff.mp e
    subst e
    obtain ⟨p, ws, rfl, hp, ra⟩ := r1.lst e1
    rw [bsOf_eq e2] at ra
    rw [ra.bsV] at hp
    exact ⟨p, ns, rfl, .inl (.inl hp), q _ H' (sRefl H') (Rp.bl _)⟩
  · cases e
end
end PV

/-! PV4: targets, what is walked, comprehensions, calls of defs, statements, defs -/
namespace PV
open PySem L2

section
variable {K : PySem.W.Frag} {N N' F F' : Addr → Prop} {H H' H0 H1 H2 : Hp} {env : Env} {σ : St} {O : List Addr}
theorem Rl.shrink {F : Addr → Prop} (i : ∀ a, F a → F' a) (L : Rl K F' H0 env σ H O) : Rl K F H0 env σ H O :=
  ⟨L.sl.step (sKeep (sRefl H)) (fun a _ h => h.elim .inl fun z => .inr (i a z)) (fun _ _ _ e => e), L.nd, fun a ha => ⟨fun z => (L.dj a ha).1 (i a z), (L.dj a ha).2⟩, fun a z => L.fd a (i a z), L.sm⟩
/-- a slot forgotten -/
theorem Rl.drop1 (i : Nat) (v : Option V) (L : Rl K F H0 env σ H O) : ∃ O' F', Rl K F' H0 (env.set i none) (σ.set i v) H O' ∧ (∀ a, nn O' F' a ↔ nn O F a) ∧ (∀ a, F a → F' a) := by
  obtain ⟨O', q, nd, m⟩ := RlS.drop1 i v L.sl L.nd
  have e : ∀ a, nn O' (fun a => F a ∨ (a ∈ O ∧ a ∉ O')) a ↔ nn O F a := fun a => by
    constructor
    · rintro (z | z | z)
      · exact .inl (m a z)
      · exact .inr z
      · exact .inl z.1
    · rintro (z | z)
      · by_cases h : a ∈ O'
        · exact .inl h
        · exact .inr (.inr ⟨z, h⟩)
      · exact .inr (.inl z)
  refine ⟨O', fun a => F a ∨ (a ∈ O ∧ a ∉ O'), ⟨q.step (sKeep (sRefl H)) (fun a _ h => (e a).mp h) (fun _ _ _ e => e), nd, fun a ha => ⟨?_, (L.dj a (m a ha)).2⟩, ?_, L.sm⟩, e, fun a z => .inl z⟩
  · rintro (z | z)
    · exact (L.dj a (m a ha)).1 z
    · exact z.2 ha
  · rintro a (z | z)
    · exact L.fd a z
    · exact L.dom a (.inl z.1)
theorem iff_sub (i : ∀ a, N a ↔ N' a) : Sub H N N' := fun a _ h => (i a).mpr h
theorem Rl.putD (i : Nat) {x : PyData} {v : V} (L : Rl K F H0 env σ H O) (r : Rp K (nn O F) H x v) : ∃ O' F', Rl K F' H0 (env.set i (some (.d x))) (σ.set i (some v)) H O' ∧ (∀ a, nn O' F' a ↔ nn O F a) ∧ (∀ a, F a → F' a) := by
  obtain ⟨O', F', L', e, s⟩ := L.drop1 i (some v)
  exact ⟨O', F', ⟨L'.sl.putD i (r.sub (iff_sub fun a => (e a).symm)), L'.nd, L'.dj, L'.fd, L'.sm⟩, e, s⟩
/-- a slot takes a list that is new -/
theorem Rl.putO (i : Nat) {xs : List PyData} {p : Addr} {vs : List V} (hi : i < env.length) (L : Rl K F H0 env σ H O) (np : ¬ nn O F p) (n0 : H0 p = none) (hp : H p = some (.lst vs)) (r : RpA K (fun a => nn O F a ∨ a = p) H xs vs)
    (ls : RlS K (fun a => nn O F a ∨ a = p) H env σ O) : ∃ O' F', Rl K F' H0 (env.set i (some (.own xs))) (σ.set i (some (.ref p))) H O' ∧ (∀ a, nn O' F' a ↔ (nn O F a ∨ a = p)) ∧ (∀ a, F a → F' a) := by
  obtain ⟨O', F', L', e, s⟩ := Rl.drop1 i (some (.ref p)) L
  have np' : p ∉ O' := fun z => np ((e p).mp (.inl z))
  have nf' : ¬ F' p := fun z => np ((e p).mp (.inr z))
  obtain ⟨O2, q, nd⟩ := RlS.drop1 i (some (.ref p)) ls L.nd
  have sl' : RlS K (fun a => nn O' F' a ∨ a = p) H (env.set i none) (σ.set i (some (.ref p))) O' := by
    have h1 := L'.sl
    have : ∀ {N M : Addr → Prop} {e1 : Env} {s1 : St} {O1 O3 : List Addr}, RlS K N H e1 s1 O1 → RlS K M H e1 s1 O3 → RlS K M H e1 s1 O1 := by
      intro N M e1 s1 O1 O3 a b
      induction a generalizing O3 with
      | nil => cases b; exact .nil
      | non _ ih => cases b with | non b => exact .non (ih b)
      | d _ _ ih => cases b with | d b1 b2 => exact .d b1 (ih b2)
      | own h _ _ ih => cases b with | own b1 b2 b3 => exact .own b1 b2 (ih b3)
    exact (this h1 q).step (sKeep (sRefl H)) (fun a _ z => z.elim (fun z => .inl ((e a).mp z)) .inr) (fun _ _ _ e => e)
  obtain ⟨O3, q3, nd3, m3⟩ := RlS.putO i hi sl' L'.nd np' hp (r.sub fun a _ z => z.elim (fun z => .inl ((e a).mp z)) .inr)
  have e3 : ∀ a, nn O3 F' a ↔ (nn O' F' a ∨ a = p) := fun a => by
    constructor
    · rintro (z | z)
      · rcases (m3 a).mp z with z | z
        · exact .inr z
        · exact .inl (.inl z)
      · exact .inl (.inr z)
    · rintro ((z | z) | z)
      · exact .inl ((m3 a).mpr (.inr z))
      · exact .inr z
      · exact .inl ((m3 a).mpr (.inl z))
  refine ⟨O3, F', ⟨q3.step (sKeep (sRefl H)) (fun a _ z => (e3 a).mp z) (fun _ _ _ e => e), nd3, fun a ha => ?_, L'.fd, L'.sm⟩, fun a => (e3 a).trans ⟨fun z => z.elim (fun z => .inl ((e a).mp z)) .inr, fun z => z.elim (fun z => .inl ((e a).mpr z)) .inr⟩, s⟩
  rcases (m3 a).mp ha with z | z
  · subst z; exact ⟨nf', n0⟩
  · exact L'.dj a z
/-- .. just made by an expression -/
theorem Rl.putR (i : Nat) {xs : List PyData} {v : V} (hi : i < env.length) (L : Rl K F H0 env σ H O) (m : Same H H1) (r : RR K (nn O F) O H H1 v (.own xs)) :
    ∃ O' F', Rl K F' H0 (env.set i (some (.own xs))) (σ.set i (some v)) H1 O' ∧ (∀ a, nn O' F' a ↔ PV.ext (nn O F) v (.own xs) a) ∧ (∀ a, F a → F' a) := by
  obtain ⟨p, vs, rfl, n, q, ra⟩ := r
  have L1 := L.mono m
  have np : ¬ nn O F p := fun z => by have := L.dom p z; rw [n] at this; cases this
  have sb : ∀ a, (H a).isSome = true → (nn O F a ∨ a = p) → nn O F a := fun a ha z => z.elim id fun z => by rw [z, n] at ha; cases ha
  have ls : RlS K (fun a => nn O F a ∨ a = p) H1 env σ O := L.sl.step (sKeep m) (fun a ha z => sb a ha z) (fun a _ u e => m a u e)
  have hself : H1 p = some (.lst vs) := q
  obtain ⟨O', F', q1, q2, q3⟩ := Rl.putO i hi L1 np (sNone L.sm n) q ra ls
  refine ⟨O', F', q1, fun a => (q2 a).trans ?_, q3⟩
  show (nn O F a ∨ a = p) ↔ (nn O F a ∨ V.ref p = V.ref a)
  constructor
  · rintro (z | z)
    · exact .inl z
    · exact .inr (by rw [z])
  · rintro (z | z)
    · exact .inl z
    · cases z; exact .inr rfl
/-- slots forgotten -/
def wipeE (env : Env) : List Nat → Env
  | [] => env
  | v :: vs => (wipeE env vs).set v none
theorem Rl.wipe : ∀ (vs : List Nat), Rl K F H0 env σ H O → ∃ O' F', Rl K F' H0 (wipeE env vs) (L2.wipe σ vs) H O' ∧ (∀ a, nn O' F' a ↔ nn O F a) ∧ (∀ a, F a → F' a)
  | [], L => ⟨O, F, L, fun _ => Iff.rfl, fun _ z => z⟩
  | v :: vs, L => by
    obtain ⟨O1, F1, L1, e1, s1⟩ := Rl.wipe vs L
    obtain ⟨O2, F2, L2, e2, s2⟩ := L1.drop1 v none
    exact ⟨O2, F2, L2, fun a => (e2 a).trans (e1 a), fun a z => s2 a (s1 a z)⟩
theorem RlS.iff (i : ∀ a, N a ↔ N' a) (h : RlS K N H env σ O) : RlS K N' H env σ O := h.step (sKeep (sRefl H)) (iff_sub i) fun _ _ _ e => e

/-! ### targets -/
def agree (ms : List Nat) (σ σ' : St) : Prop := σ'.length = σ.length ∧ ∀ i, i ∉ ms → σ'[i]? = σ[i]?
theorem agree.refl {ms : List Nat} {σ : St} : agree ms σ σ := ⟨rfl, fun _ _ => rfl⟩
theorem agree.tr {ms : List Nat} {σ σ1 σ2 : St} (a : agree ms σ σ1) (b : agree ms σ1 σ2) : agree ms σ σ2 := ⟨b.1.trans a.1, fun i h => (b.2 i h).trans (a.2 i h)⟩
theorem agree.mono {ms ns : List Nat} {σ σ1 : St} (a : agree ms σ σ1) (h : ∀ i ∈ ms, i ∈ ns) : agree ns σ σ1 := ⟨a.1, fun i hi => a.2 i fun z => hi (h i z)⟩
theorem agree.set {ms : List Nat} {σ : St} {i : Nat} {v : Option V} (h : i ∈ ms) : agree ms σ (σ.set i v) := ⟨by simp, fun j hj => by rw [List.getElem?_set_ne]; rintro rfl; exact hj h⟩
theorem wipe_at {σ : St} {i : Nat} : ∀ {vs : List Nat}, i ∈ vs → i < σ.length → (L2.wipe σ vs)[i]? = some none
  | v :: vs, h, hl => by
    unfold L2.wipe
    by_cases e : v = i
    · subst e
      rw [List.getElem?_set_self (by rw [wipe_length]; exact hl)]
    · rw [List.getElem?_set_ne e]
      rcases List.mem_cons.mp h with z | z
      · exact absurd z.symm e
      · exact wipe_at z hl
theorem agree.wipe {ms : List Nat} {σ σ' : St} (a : agree ms σ σ') : L2.wipe σ' ms = L2.wipe σ ms := by
  apply List.ext_getElem?
  intro i
  by_cases h : i ∈ ms
  · by_cases hl : i < σ.length
    · rw [wipe_at h hl, wipe_at h (by rw [a.1]; exact hl)]
    · rw [List.getElem?_eq_none (by rw [wipe_length, a.1]; omega), List.getElem?_eq_none (by rw [wipe_length]; omega)]
  · rw [wipe_out h, wipe_out h]
    exact a.2 i h
theorem wipe_twice {vs : List Nat} {σ : St} : L2.wipe (L2.wipe σ vs) vs = L2.wipe σ vs := agree.wipe ⟨wipe_length σ vs, fun i h => wipe_out h⟩
abbrev G := PyData → Env → Option Env
def tG (K : PySem.W.Frag) (ms : List Nat) (g : G) : TG := fun v σ H Q => ∃ F H0 env O d env', Rl K F H0 env σ H O ∧ Rp K (nn O F) H d v ∧ g d env = some env' ∧
  ∀ σ' F' O', Rl K F' H0 env' σ' H O' → (∀ a, nn O' F' a ↔ nn O F a) → (∀ a, F a → F' a) → agree ms σ σ' → Q σ' H
def tGs (K : PySem.W.Frag) (ms : List Nat) (g : List PyData → Env → Option Env) : TGs := fun vs σ H Q => ∃ F H0 env O ds env', Rl K F H0 env σ H O ∧ RpA K (nn O F) H ds vs ∧ g ds env = some env' ∧
  ∀ σ' F' O', Rl K F' H0 env' σ' H O' → (∀ a, nn O' F' a ↔ nn O F a) → (∀ a, F a → F' a) → agree ms σ σ' → Q σ' H
def gNm (i : Nat) : G := fun d env => some (env.set i (some (.d d)))
def gAll : List G → List PyData → Env → Option Env
  | [], [], env => some env
  | g :: gs, d :: ds, env => (g d env).bind (gAll gs ds)
  | _, _, _ => none
def gTp (gs : List G) : G := fun d env => match d with
  | .tuple ds => gAll gs ds env
  | _ => none
end

section
variable {X : Cx}
abbrev SG (X : Cx) (tg : Expr) (ms : List Nat) (g : G) : Prop := PG X tg (tG X.K ms g)
abbrev SGs (X : Cx) (tgs : List Expr) (ms : List Nat) (gs : List G) : Prop := PGs X tgs (tGs X.K ms (gAll gs))
theorem imG {tg : Expr} {t t' : TG} (h : PG X tg t) (i : ∀ v σ H Q, t' v σ H Q → t v σ H Q) : PG X tg t' := ⟨fun pins s σ H v u Q I r hw => h.run pins s σ H v u Q I r (i v σ H Q hw)⟩
theorem imGs {tg : List Expr} {t t' : TGs} (h : PGs X tg t) (i : ∀ v σ H Q, t' v σ H Q → t v σ H Q) : PGs X tg t' := ⟨fun pins s σ H v u Q I r hw => h.run pins s σ H v u Q I r (i v σ H Q hw)⟩
theorem sg_nm (i : Nat) {x : Str} {pos : Pos} (hN : X.N.Nodup) (hi : X.N[i]? = some x := by rfl) (hx : Loc X.env.scope x := by first | exact Or.inl rfl | exact Or.inr rfl) (hf : X.fn x = true ∨ X.env.scope.names.lookup x = some .local := by first | exact .inl rfl | exact .inr rfl) : SG X (.Name x pos) [i] (gNm i) :=
  imG (pg_name hN hi hx hf) fun v σ H Q h => by
    obtain ⟨F, H0, env, O, d, env', L, r, e, h⟩ := h
    cases e
    obtain ⟨O', F', L', i1, i2⟩ := L.putD i r
    exact h _ F' O' L' i1 i2 (agree.set (List.mem_singleton.mpr rfl))
theorem sgs_nil : SGs X [] [] [] := imGs pgs_nil fun v σ H Q h => by
  obtain ⟨F, H0, env, O, d, env', L, r, e, h⟩ := h
  cases r with
  | nil =>
    cases e
    exact ⟨rfl, h σ F O L (fun _ => Iff.rfl) (fun _ z => z) agree.refl⟩
  | cons r1 r2 => cases e
theorem sgs_cons {e : Expr} {es : List Expr} {ms ns : List Nat} {g : G} {gs : List G} (h1 : SG X e ms g) (h2 : SGs X es ns gs)
    (hs : (assignEach (e :: es) X.env).map (·.2) = assign e X.env :: (assignEach es X.env).map (·.2) := by rfl) : SGs X (e :: es) (ms ++ ns) (g :: gs) :=
  imGs (pgs_cons h1 h2 hs) fun v σ H Q h => by
    obtain ⟨F, H0, env, O, d, env', L, r, e, h⟩ := h
    cases r with
    | nil => cases e
    | cons r1 r2 =>
      obtain ⟨env1, e1, e⟩ := Option.bind_eq_some_iff.mp e
      refine ⟨_, _, rfl, F, H0, env, O, _, env1, L, r1, e1, fun σ1 F1 O1 L1 i1 i2 a1 => ?_⟩
      refine ⟨F1, H0, env1, O1, _, env', L1, r2.sub (iff_sub fun a => (i1 a).symm), e, fun σ2 F2 O2 L2 j1 j2 a2 => h σ2 F2 O2 L2 (fun a => (j1 a).trans (i1 a)) (fun a z => j2 a (i2 a z)) ?_⟩
      exact (a1.mono fun i z => List.mem_append_left _ z).tr (a2.mono fun i z => List.mem_append_right _ z)
theorem sg_tp {es : List Expr} {k : Nat} {ms : List Nat} {gs : List G} {n : Nat} {pos : Pos} (hc : X.calm = true) (h : SGs X es ms gs)
    (hn : (assignEach es X.env).length = n := by rfl) (hst : (assignEach es X.env).findIdx? (·.1) = none := by rfl) (hl : gs.length = n := by rfl) : SG X (.Tuple es k pos) ms (gTp gs) :=
  imG (pg_tup hc h hn hst) fun v σ H Q h => by
    obtain ⟨F, H0, env, O, d, env', L, r, e, h⟩ := h
    unfold gTp at e
    split at e
    · cases r with
      | tup r1 r2 =>
        refine ⟨_, _, rfl, r1, ?_, F, H0, env, O, _, env', L, r2, e, h⟩
        rw [r2.length, ← hl]
        have : ∀ (gs : List G) (ds : List PyData) (env env' : Env), gAll gs ds env = some env' → ds.length = gs.length := by
          intro gs
          induction gs with
          | nil => intro ds env env' e; cases ds with
            | nil => rfl
            | cons d ds => cases e
          | cons g gs ih => intro ds env env' e; cases ds with
            | nil => cases e
            | cons d ds =>
              obtain ⟨env1, e1, e⟩ := Option.bind_eq_some_iff.mp e
              simp [ih _ _ _ e]
        exact this _ _ _ _ e
    · cases e

/-! ### what is walked -/
structure ItOk (K : PySem.W.Frag) (L N : Addr → Prop) (H1 : Hp) (J : It) (items : List PyData) : Prop where
  ex : ∃ (G : Hp → Prop) (Y : Nat → Hp → V → Hp → Prop), Walk J items.length G Y ∧ (∀ H', (∀ a u, L a → H1 a = some u → H' a = some u) → G H') ∧
    ∀ i H' x H'', i < items.length → (∀ a u, L a → H1 a = some u → H' a = some u) → Y i H' x H'' → Same H' H'' ∧ ∀ N' : Addr → Prop, (∀ a, (H1 a).isSome = true → N' a → N a) → ∃ d, items[i]? = some d ∧ Rp K N' H'' d x
/-- what a walk counts on: all that stands; or (s) all but the forbidden lists -/
def locked (s : Bool) (N : Addr → Prop) (H1 : Hp) : Addr → Prop := fun a => s = true → (¬ N a ∨ ∀ xs, H1 a ≠ some (.lst xs))
def tI (K : PySem.W.Frag) (s : Bool) (f : Env → Option (List PyData)) : TI := fun σ H Q => ∃ F H0 env O items, Rl K F H0 env σ H O ∧ f env = some items ∧
  ∀ J H1, Same H H1 → ItOk K (locked s (nn O F) H1) (nn O F) H1 J items → Q J H1
abbrev SI (X : Cx) (tg it : Expr) (s : Bool) (f : Env → Option (List PyData)) : Prop := PI X tg it (tI X.K s f)
theorem imI {tg it : Expr} {t t' : TI} (h : PI X tg it t) (i : ∀ σ H Q, t' σ H Q → t σ H Q) : PI X tg it t' := ⟨fun pins s σ H Q I hw => h.run pins s σ H Q I (i σ H Q hw)⟩
/-- a list, a tuple or a text -/
def iAny (K : PySem.W.Frag) (tl : TE) : TI := fun σ H R => tl σ H fun x H1 => (∃ a, x = .ref a ∧ (∃ xs, SqL K H1 a xs) ∧ R (Itl K a) H1) ∨ (∃ a, x = .ref a ∧ (∃ xs, SqT K H1 a xs) ∧ R (Itt K a) H1) ∨ ∃ z, x = .str z ∧ R (Its z) H1
theorem pi_any {tg l : Expr} {tl : TE} (hl : PE X l tl) : PI X tg l (iAny X.K tl) := by
  refine ⟨fun pins s σ H R I h => ?_⟩
  refine thn (hl.run pins s σ H _ I h) fun v s1 ⟨x, H1, I1, r1, q1⟩ => ?_
  rcases q1 with ⟨a, e, ⟨xs, hq⟩, q⟩ | ⟨a, e, ⟨xs, hq⟩, q⟩ | ⟨z, e, q⟩
  · subst e
    cases r1
    obtain ⟨its, rv, p, hz⟩ := I1.list hq
    refine wpAny_pyIter_list p.isList ?_
    refine ⟨s1.heap.objs.size, [s1.heap.objs.size], _, _, H1, rfl, I1.kept (t' := s1.toks) fun b o e => Heap.get?_push_of_some _ e, turn_list a _, ⟨_, Heap.get?_push_size _ rfl, rfl, rfl⟩, fun b hb => ?_, q⟩
    have e : b = s1.heap.objs.size := by simpa using hb
    subst e
    exact I1.fpOk (Nat.le_refl _) (I1.hok.fresh (Nat.le_refl _))
  · subst e
    cases r1
    obtain ⟨its, rv, p, hz⟩ := I1.tuple hq
    refine wpAny_pyIter_tuple (show s1.heap.IsTuple a its.toArray from p) ?_
    refine ⟨s1.heap.objs.size, [s1.heap.objs.size], _, _, H1, rfl, I1.kept (t' := s1.toks) fun b o e => Heap.get?_push_of_some _ e, turn_tuple a _, ⟨_, Heap.get?_push_size _ rfl, rfl, rfl⟩, fun b hb => ?_, q⟩
    have e : b = s1.heap.objs.size := by simpa using hb
    subst e
    exact I1.fpOk (Nat.le_refl _) (I1.hok.fresh (Nat.le_refl _))
  · subst e
    obtain ⟨t, rfl⟩ := r1
    cases ha : z.cps.all (· < 128)
    · exact wpAny_pyIter_wide ha (pi_one (tk := s1.toks) I1 _ (turn_str _ z t "str_iterator" (.inr rfl)) ⟨_, Heap.get?_push_size _ rfl, rfl, rfl⟩ q)
    · exact wpAny_pyIter_ascii ha (pi_one (tk := s1.toks) I1 _ (turn_str _ z t "str_ascii_iterator" (.inl rfl)) ⟨_, Heap.get?_push_size _ rfl, rfl, rfl⟩ q)
def signs (z : Str) : List PyData := z.cps.toList.map fun c => .str ⟨#[c]⟩
/-- the items of what is walked; a slot's own list is walked only where it can't change -/
def itsOf (s : Bool) (r : R) : Option (List PyData) := match r with
  | .bor xs => if s then none else some xs
  | .d (.str z) => some (signs z)
  | r => sv r
def iSeq (s : Bool) (f : Env → Option R) : Env → Option (List PyData) := fun env => (f env).bind (itsOf s)
/-- the places that a walk may count on -/
def LOk (L N : Addr → Prop) (H1 : Hp) : Prop := ∀ b u, H1 b = some u → (¬ N b ∨ ∀ xs, u ≠ .lst xs) → L b
theorem it_at {K : PySem.W.Frag} {L N : Addr → Prop} {H1 : Hp} {J : It} {xs : List PyData} {vs : List V} {G : Hp → Prop} {Y : Nat → Hp → V → Hp → Prop} (lo : LOk L N H1) (r : RpA K N H1 xs vs) (w : Walk J vs.length G Y)
    (hG : ∀ H', (∀ a u, L a → H1 a = some u → H' a = some u) → G H') (hY : ∀ i H' x H'', Y i H' x H'' → H'' = H' ∧ vs[i]? = some x) : ItOk K L N H1 J xs := by
  refine ⟨G, Y, (by rw [r.length] at w; exact w), hG, fun i H' x H'' hi k y => ?_⟩
  obtain ⟨rfl, hx⟩ := hY _ _ _ _ y
  refine ⟨sRefl _, fun N' hN => ?_⟩
  obtain ⟨d, hd, rd⟩ := r.get' hx
  exact ⟨d, hd, Rp.step (fun b u hb c => k b u (lo b u hb c) hb) hN d x rd⟩
theorem sqL_keep {K : PySem.W.Frag} {L N : Addr → Prop} {H1 H' : Hp} {a : Addr} {vs : List V} (k : ∀ a u, L a → H1 a = some u → H' a = some u) (h : Scr K N H1 a vs) (lo : LOk L N H1) : SqL K H' a vs := by
  rcases h with ⟨h, hn⟩ | h
  · rcases h with h | ⟨o, h⟩
    · exact .inl (.inl (k a _ (lo a _ h (.inl hn)) h))
    · exact .inl (.inr ⟨o, k a _ (lo a _ h (.inl hn)) h⟩)
  · rcases h with h | h
    · rcases h with h | ⟨_, h⟩ <;> cases h
    · exact .inr h
theorem sqT_keep {K : PySem.W.Frag} {L N : Addr → Prop} {H1 H' : Hp} {a : Addr} {vs : List V} (k : ∀ a u, L a → H1 a = some u → H' a = some u) (h : SqT K H1 a vs) (lo : LOk L N H1) : SqT K H' a vs := by
  rcases h with h | h
  · rcases h with h | ⟨o, h⟩
    · exact .inl (.inl (k a _ (lo a _ h (.inr fun xs e => by cases e)) h))
    · exact .inl (.inr ⟨o, k a _ (lo a _ h (.inr fun xs e => by cases e)) h⟩)
  · exact .inr h
theorem lok_locked {N : Addr → Prop} {H1 : Hp} (s : Bool) : LOk (locked s N H1) N H1 := fun b u hb c _ => by
  rcases c with c | c
  · exact .inl c
  · refine .inr fun xs e => c xs ?_
    rw [hb] at e
    exact Option.some.inj e
theorem si_seq {tg l : Expr} {f : Env → Option R} (s : Bool) (hl : SE X l f) : SI X tg l s (iSeq s f) :=
  imI (pi_any hl) fun σ H Q h => by
    obtain ⟨F, H0, env, O, items, L, e, h⟩ := h
    obtain ⟨r, e1, e⟩ := Option.bind_eq_some_iff.mp e
    refine one L e1 fun v H1 m rr => ?_
    have lo := lok_locked (N := nn O F) (H1 := H1) s
    have fin : ∀ (p : Addr) (vs : List V), (H1 p = some (.lst vs)) → locked s (nn O F) H1 p → RpA X.K (nn O F) H1 items vs → (∃ a, V.ref p = .ref a ∧ (∃ xs, SqL X.K H1 a xs) ∧ Q (Itl X.K a) H1) := fun p vs hp hL ra =>
      ⟨p, rfl, ⟨vs, SqL.of hp⟩, h _ H1 m (it_at lo ra walk_list (fun H' k => SqL.of (k p _ hL hp)) fun _ _ _ _ y => y)⟩
    unfold itsOf at e
    split at e
    · -- a slot's own list
      cases s with
      | true => cases e
      | false =>
        obtain ⟨p, vs, rfl, hO, q, ra⟩ := rr
        have e : _ = items := Option.some.inj e
        subst e
        exact .inl (fin p vs q (fun z => by cases z) ra)
    · cases e
      rename_i z _
      refine .inr (.inr ⟨_, rr.str, h _ H1 m ⟨_, _, (by unfold signs; rw [List.length_map, Array.length_toList]; exact walk_str), fun _ _ => trivial, fun i H' x H'' hi k y => ?_⟩⟩)
      obtain ⟨rfl, c, hc, rfl⟩ := y
      refine ⟨sRefl _, fun N' hN => ⟨.str ⟨#[c]⟩, ?_, Rp.str _⟩⟩
      unfold signs
      rw [List.getElem?_map, Array.getElem?_toList, hc]
      rfl
    · rename_i hb hs
      cases r with
      | d x =>
        cases x with
        | list ys =>
          cases e
          have rr : Rp X.K (nn O F) H1 (.list items) v := rr
          cases rr with
          | lst h1 h2 => exact .inl (fin _ _ h1.1 (fun _ => .inl h1.2) h2)
        | tuple ys =>
          cases e
          have rr : Rp X.K (nn O F) H1 (.tuple items) v := rr
          cases rr with
          | tup h1 h2 => exact .inr (.inl ⟨_, rfl, ⟨_, h1⟩, h _ H1 m (it_at lo h2 walk_tup (fun H' k => sqT_keep k h1 lo) fun _ _ _ _ y => y)⟩)
        | dict kvs =>
          cases e
          have rr : Rp X.K (nn O F) H1 (.dict kvs) v := rr
          cases rr with
          | scr h1 =>
            rename_i a ns
            refine .inl ⟨a, rfl, ⟨_, h1.seq⟩, h _ H1 m (it_at lo (vs := ns.map .int) ?_ walk_list (fun H' k => sqL_keep k h1 lo) fun _ _ _ _ y => y)⟩
            rw [List.map_map]
            exact RpA.ints ns
        | _ => cases e
      | own ys =>
        cases e
        obtain ⟨p, vs, rfl, n, q, ra⟩ := rr
        refine .inl (fin p vs q (fun _ => .inl fun z => ?_) (ra.sub fun _ _ z => .inl z))
        have := L.dom p z
        rw [n] at this
        cases this
      | bor ys => exact absurd rfl (hb ys)
/-! ranges -/
def rngL (lo : Int) (n : Nat) : List PyData := (List.range n).map fun i => .int (lo + (i : Nat))
def big62 (i : Int) : Bool := Nat.blt i.natAbs 4611686018427387904
theorem big62_ok {i : Int} (h : big62 i = true) : -(2 ^ 62) ≤ i ∧ i < 2 ^ 62 := by
  unfold big62 at h
  rw [Nat.blt_eq] at h
  omega
def rgF1 : List R → Option (List PyData)
  | [.d (.int j)] => if big62 j then some (rngL 0 j.toNat) else none
  | _ => none
def iRg1 (f : Env → Option (List R)) : Env → Option (List PyData) := fun env => (f env).bind rgF1
def rgF2 : List R → Option (List PyData)
  | [.d (.int i), .d (.int j)] => if big62 i && big62 j then some (rngL i (j - i).toNat) else none
  | _ => none
def iRg2 (f : Env → Option (List R)) : Env → Option (List PyData) := fun env => (f env).bind rgF2
theorem it_range {K : PySem.W.Frag} {L N : Addr → Prop} {H1 : Hp} (lo : Int) (n : Nat) : ItOk K L N H1 (Itr lo n) (rngL lo n) := by
  refine ⟨_, _, (by unfold rngL; rw [List.length_map, List.length_range]; exact walk_range), fun _ _ => trivial, fun i H' x H'' hi k y => ?_⟩
  obtain ⟨rfl, rfl⟩ := y
  refine ⟨sRefl _, fun N' hN => ⟨.int (lo + (i : Nat)), ?_, Rp.int _⟩⟩
  unfold rngL at hi ⊢
  rw [List.length_map, List.length_range] at hi
  rw [List.getElem?_map, List.getElem?_range hi]
  rfl
theorem si_rg1 {tg a : Expr} {f : Env → Option (List R)} {p pos : Pos} (s : Bool) (hg : Gl X "range") (hm : X.mg "range" = none) (ha : SA X [a] f) (hs : starEach [a] X.env = [(false, eval a X.env)] := by rfl) : SI X tg (.Call (.Name "range" p) [a] [] pos) s (iRg1 f) :=
  imI (pi_range1 hg hm ha hs) fun σ H Q h => by
    obtain ⟨F, H0, env, O, items, L, e, h⟩ := h
    obtain ⟨rs, e1, e⟩ := Option.bind_eq_some_iff.mp e
    refine ⟨F, H0, env, O, rs, L, e1, fun vs H1 m ra => ?_⟩
    have rl := RRA.all (sRefl H) (fun _ z => z) ra
    unfold rgF1 at e
    split at e
    · rename_i j
      split at e
      · rename_i hj
        cases e
        obtain ⟨v, rfl, r1⟩ := rl.c1
        have hj := big62_ok hj
        exact ⟨j, by rw [r1.int], hj.1, hj.2, h _ H1 m (it_range _ _)⟩
      · cases e
    · cases e
theorem si_rg2 {tg a b : Expr} {f : Env → Option (List R)} {p pos : Pos} (s : Bool) (hg : Gl X "range") (hm : X.mg "range" = none) (ha : SA X [a, b] f) (hs : starEach [a, b] X.env = [(false, eval a X.env), (false, eval b X.env)] := by rfl) (hs2 : starEach [b] X.env = [(false, eval b X.env)] := by rfl) : SI X tg (.Call (.Name "range" p) [a, b] [] pos) s (iRg2 f) :=
  imI (pi_range2 hg hm ha hs hs2) fun σ H Q h => by
    obtain ⟨F, H0, env, O, items, L, e, h⟩ := h
    obtain ⟨rs, e1, e⟩ := Option.bind_eq_some_iff.mp e
    refine ⟨F, H0, env, O, rs, L, e1, fun vs H1 m ra => ?_⟩
    have rl := RRA.all (sRefl H) (fun _ z => z) ra
    unfold rgF2 at e
    split at e
    · rename_i i j
      split at e
      · rename_i hj
        cases e
        obtain ⟨v, w, rfl, r1, r2⟩ := rl.c2
        rw [Bool.and_eq_true] at hj
        have h1 := big62_ok hj.1
        have h2 := big62_ok hj.2
        exact ⟨i, j, by rw [r1.int, r2.int], ⟨h1.1, h1.2, h2.1, h2.2⟩, h _ H1 m (it_range _ _)⟩
      · cases e
    · cases e
/-- range(i, j, -1) -/
def rgF3 : List R → Option (List PyData)
  | [.d (.int i), .d (.int j), .d (.int k)] => if big62 i && big62 j && decide (k = -1) then some ((List.range (i - j).toNat).map fun t => .int (i - (t : Nat))) else none
  | _ => none
def iRg3 (f : Env → Option (List R)) : Env → Option (List PyData) := fun env => (f env).bind rgF3
theorem RRL.c3 {K : PySem.W.Frag} {N : Addr → Prop} {O : List Addr} {H H' : Hp} {vs : List V} {r q t : R} (h : RRL K N O H H' vs [r, q, t]) : ∃ v w u, vs = [v, w, u] ∧ RR K N O H H' v r ∧ RR K N O H H' w q ∧ RR K N O H H' u t := by
  cases h with
  | cons a h =>
    obtain ⟨w, u, rfl, b, c⟩ := RRL.c2 h
    exact ⟨_, _, _, rfl, a, b, c⟩
theorem si_rg3 {tg a b c : Expr} {f : Env → Option (List R)} {p pos : Pos} (s : Bool) (hg : Gl X "range") (hm : X.mg "range" = none) (ha : SA X [a, b, c] f)
    (hs : starEach [a, b, c] X.env = (false, eval a X.env) :: starEach [b, c] X.env := by rfl) (hpl : (backTo pos (starEach [b, c] X.env)).any (·.1) = false := by rfl) : SI X tg (.Call (.Name "range" p) [a, b, c] [] pos) s (iRg3 f) :=
  imI (pi_range3 hg hm ha hs hpl) fun σ H Q h => by
    obtain ⟨F, H0, env, O, items, L, e, h⟩ := h
    obtain ⟨rs, e1, e⟩ := Option.bind_eq_some_iff.mp e
    refine ⟨F, H0, env, O, rs, L, e1, fun vs H1 m ra => ?_⟩
    have rl := RRA.all (sRefl H) (fun _ z => z) ra
    unfold rgF3 at e
    split at e
    · rename_i i j k
      split at e
      · rename_i hj
        cases e
        obtain ⟨v, w, u, rfl, r1, r2, r3⟩ := rl.c3
        rw [Bool.and_eq_true, Bool.and_eq_true] at hj
        have h1 := big62_ok hj.1.1
        have h2 := big62_ok hj.1.2
        have h3 := of_decide_eq_true hj.2
        subst h3
        refine ⟨i, j, -1, (i - j).toNat, by rw [r1.int, r2.int, r3.int], RgC.neg h1.1 h1.2 h2.1 h2.2, h _ H1 m ⟨_, _, (by rw [List.length_map, List.length_range]; exact walk_rangeC), fun _ _ => trivial, fun t H' x H'' hi k y => ?_⟩⟩
        obtain ⟨rfl, rfl⟩ := y
        refine ⟨sRefl _, fun N' hN => ⟨.int (i - (t : Nat)), ?_, ?_⟩⟩
        · rw [List.length_map, List.length_range] at hi
          rw [List.getElem?_map, List.getElem?_range hi]
          rfl
        · have e : i + (t : Nat) * (-1 : Int) = i - (t : Nat) := by omega
          show Rp X.K N' H'' (.int (i - (t : Nat))) (V.int (i + (t : Nat) * (-1 : Int)))
          rw [e]
          exact Rp.int _
      · cases e
    · cases e

/-! ### comprehensions -/
def lcGo (tg : G) (tt : Env → Option Bool) (te : Env → Option R) (env : Env) : List PyData → Option (List PyData)
  | [] => some []
  | d :: ds => (tg d env).bind fun env1 => (tt env1).bind fun b => if b then ((te env1).bind toD).bind fun x => (lcGo tg tt te env ds).map (x :: ·) else lcGo tg tt te env ds
def eLc (it : Env → Option (List PyData)) (own : List Nat) (tg : G) (tt : Env → Option Bool) (te : Env → Option R) : Env → Option R := fun env =>
  (it env).bind fun items => if items.length < LIM then (lcGo tg tt te (wipeE env own) items).map .own else none
theorem keepN {H H1 : Hp} (m : Same H H1) : ∀ a u, True → H a = some u → H1 a = some u := fun a u _ h => m a u h
theorem lc_imp {K : PySem.W.Frag} {it : Env → Option (List PyData)} {own ms : List Nat} {tg : G} {tt : Env → Option Bool} {te : Env → Option R} (hms : ∀ i ∈ ms, i ∈ own) (σ : St) (H : Hp) (Q : VK) (h : tE K (eLc it own tg tt te) σ H Q) :
    tLc (tI K false it) (tG K ms tg) (tT K tt) (tE K te) own σ H Q := by
  obtain ⟨F, H0, env, O, r, L, e, h⟩ := h
  obtain ⟨items, e1, e⟩ := Option.bind_eq_some_iff.mp e
  split at e
  · rename_i hlim
    obtain ⟨out, e2, e⟩ := Option.map_eq_some_iff.mp e
    subst e
    refine ⟨F, H0, env, O, items, L, e1, fun J H1 m ok D hD => ?_⟩
    obtain ⟨Gp, Y, w, hG, hY⟩ := ok
    have L1 := L.mono m
    obtain ⟨O1, F1, Lw, i1, s1⟩ := L1.wipe own
    -- the state at turn i: what is made so far and what is still to come
    refine lc_it w (fun i H => ∃ acc vs, lcGo tg tt te (wipeE env own) (items.drop i) = some (out.drop acc.length) ∧ out = acc ++ out.drop acc.length ∧ acc.length ≤ i ∧ Same H1 H ∧ H D = some (.lst vs) ∧ RpA K (fun a => nn O F a ∨ a = D) H acc vs) ?_ ?_ ?_ ?_
    · exact ⟨[], [], e2, rfl, Nat.le_refl _, sNew hD, upd_same, .nil⟩
    · rintro i H2 hi ⟨acc, vs, _, _, _, m2, _⟩
      exact hG H2 fun a u _ hu => m2 a u hu
    · rintro i x H2 H3 hi ⟨acc, vs, go, eo, la, m2, hDv, ra⟩ y
      obtain ⟨m3, hd⟩ := hY i H2 x H3 hi (fun a u _ hu => m2 a u hu) y
      have m13 := sTr m2 m3
      -- forbidden now: the new list too
      have L3 := Lw.ext (p := D) hD m13 (some_of (m3 D _ hDv))
      have i3 : ∀ a, nn O1 (fun a => F1 a ∨ a = D) a ↔ (nn O F a ∨ a = D) := fun a => by
        constructor
        · rintro (z | z | z)
          · exact .inl ((i1 a).mp (.inl z))
          · exact .inl ((i1 a).mp (.inr z))
          · exact .inr z
        · rintro (z | z)
          · rcases (i1 a).mpr z with z | z
            · exact .inl z
            · exact .inr (.inl z)
          · exact .inr (.inr z)
      obtain ⟨d, hdi, rd⟩ := hd (nn O1 fun a => F1 a ∨ a = D) fun a ha z => by
        rcases (i3 a).mp z with z | z
        · exact z
        · rw [z, hD] at ha; cases ha
      have hdrop : items.drop i = d :: items.drop (i + 1) := by
        obtain ⟨hl, e⟩ := List.getElem?_eq_some_iff.mp hdi
        rw [List.drop_eq_getElem_cons hl, e]
      rw [hdrop] at go
      obtain ⟨env1, g1, go⟩ := Option.bind_eq_some_iff.mp go
      obtain ⟨b, g2, go⟩ := Option.bind_eq_some_iff.mp go
      refine ⟨_, H0, _, O1, d, env1, L3, rd, g1, fun σ2 F2 O2 L2 i2 s2 ag => ?_⟩
      refine ⟨(ag.mono hms).wipe.trans wipe_twice, ?_⟩
      refine oneT L2 g2 fun H4 m4 => ?_
      cases b with
      | false =>
        refine iteF ⟨acc, vs, go, eo, by omega, sTr m13 m4, m4 D _ (m3 D _ hDv), ra.mono (sTr m3 m4)⟩
      | true =>
        refine iteT ?_
        rw [if_pos rfl] at go
        obtain ⟨z, g3, go⟩ := Option.bind_eq_some_iff.mp go
        obtain ⟨rz, g4, g3⟩ := Option.bind_eq_some_iff.mp g3
        obtain ⟨tl, g5, go⟩ := Option.map_eq_some_iff.mp go
        refine one (L2.mono m4) g4 fun v H5 m5 rv => ?_
        have m35 := sTr m4 m5
        have rz' := rv.toD g3 (L2.mono m4).dom
        have hD5 : H5 D = some (.lst vs) := m35 D _ (m3 D _ hDv)
        refine ⟨vs, hD5, ?_, ?_⟩
        · have := ra.length
          rw [this]
          exact lim_lt (by omega)
        · have e3 : out.drop (acc ++ [z]).length = tl := by
            rw [List.length_append, List.length_singleton, ← List.drop_drop, ← go]
            rfl
          have NS : Sub H5 (nn O2 F2) (fun a => nn O F a ∨ a = D) := fun a _ q => (i2 a).mpr ((i3 a).mpr q)
          have wr : Keep (fun a => nn O F a ∨ a = D) H5 (upd H5 D (.lst (vs ++ [v]))) := fun a u hu c => by
            by_cases ha : a = D
            · subst ha
              rw [hD5] at hu
              cases hu
              rcases c with c | c
              · exact absurd (.inr rfl) c
              · exact absurd rfl (c vs)
            · rw [upd_ne ha]; exact hu
          refine ⟨acc ++ [z], vs ++ [v], ?_, ?_, ?_, ?_, upd_same, ?_⟩
          · rw [e3]; exact g5
          · rw [e3, List.append_assoc, List.singleton_append, go]; exact eo
          · rw [List.length_append, List.length_singleton]; omega
          · intro a u hu
            have ha : a ≠ D := ne_of_none hu hD
            rw [upd_ne ha]
            exact sTr m13 m35 a u hu
          · exact RpA.step wr Sub.refl _ _ ((ra.mono (sTr m3 m35)).append (RpA.one (rz'.sub NS)))
    · rintro H2 ⟨acc, vs, go, eo, la, m2, hDv, ra⟩
      rw [List.drop_of_length_le (Nat.le_refl _)] at go
      have e4 : out.drop acc.length = [] := (Option.some.inj go).symm
      rw [e4, List.append_nil] at eo
      subst eo
      exact h _ H2 (sTr m m2) ⟨D, vs, rfl, sNone m hD, hDv, ra⟩
  · cases e
theorem se_lc {elt tg iter : Expr} {ifs : List Expr} {scope : Scope} {own : List (Str × Nat)} {ms : List Nat} {pos : Pos} {it : Env → Option (List PyData)} {g : G} {tt : Env → Option Bool} {te : Env → Option R} (hc : X.calm = true) (hN : X.N.Nodup) (hi : SI X tg iter false it) (ok : blkC X.N X.env.scope scope own = true)
    (hg : ∀ (s : Shared) (H : Hp) (C : Addr) (cl : List (Str × Addr)) (fp : List Addr), SG (X.blk s H scope (compEnvC scope cl C X.env) fp) tg ms g)
    (ht : ∀ (s : Shared) (H : Hp) (C : Addr) (cl : List (Str × Addr)) (fp : List Addr), PTs (X.blk s H scope (compEnvC scope cl C X.env) fp) ifs (tT X.K tt))
    (he : ∀ (s : Shared) (H : Hp) (C : Addr) (cl : List (Str × Addr)) (fp : List Addr), SE (X.blk s H scope (compEnvC scope cl C X.env) fp) elt te) (hms : ∀ i ∈ ms, i ∈ own.map (·.2) := by decide) (hs : ∀ x, foldedSetIterable iter X.env x = pure x := by intro _; rfl) :
    SE X (.ListComp elt [⟨tg, iter, ifs, 0⟩] scope pos) (eLc it (own.map (·.2)) g tt te) :=
  imE (pe_lc hc hN hi (blkOk_by ok) hg ht he hs) fun σ H Q h => lc_imp hms σ H Q h
def tYesB : Env → Option Bool := fun _ => some true
theorem sts_nil : PTs X [] (tT X.K tYesB) := ⟨fun pins s σ H Q I h => by
  obtain ⟨F, H0, env, O, b, L, e, h⟩ := h
  cases e
  exact pts_nil.run pins s σ H Q I (h H (sRefl H))⟩
theorem sts_one {c : Expr} {t : Env → Option Bool} (h : ST X c t) : PTs X [c] (tT X.K t) := pts_one h
end
end PV

/-! PV5: calls of defs, statements, defs -/
namespace PV
open PySem L2

section
variable {K : PySem.W.Frag} {N N' F F' : Addr → Prop} {H H' H0 H1 H2 : Hp} {env : Env} {σ : St} {O : List Addr}
/-- a def's result, for its caller: F forbidden ahead of the call, H0 the heap ahead of it -/
def RRf (K : PySem.W.Frag) (F : Addr → Prop) (H0 H' : Hp) (v : V) : R → Prop
  | .d x => Rp K F H' x v
  | .own xs => ∃ p vs, v = .ref p ∧ H0 p = none ∧ H' p = some (.lst vs) ∧ RpA K (fun a => F a ∨ a = p) H' xs vs
  | .bor _ => False
/-- a def's promise: its value is Fn of its arguments' data -/
def spF (K : PySem.W.Frag) (np : Nat) (Fn : List PyData → Option R) : Sp := fun vs H Q _ => ∃ Fb ds r, ds.length = np ∧ RpA K Fb H ds vs ∧ (∀ a, Fb a → (H a).isSome = true) ∧ Fn ds = some r ∧ ∀ v H', Same H H' → RRf K Fb H H' v r → Q v H'
theorem spF_len {np : Nat} {Fn : List PyData → Option R} (vs : List V) (H : Hp) (Q : VK) (E : XK) (h : spF K np Fn vs H Q E) : vs.length = np := by
  obtain ⟨Fb, ds, r, hl, ra, _⟩ := h
  rw [ra.length, hl]
def isBor : R → Bool
  | .bor _ => true
  | _ => false
def noLR : R → Bool
  | .d x => noL x
  | .own xs => noLs xs
  | .bor _ => false
def eCall (np : Nat) (Fn : List PyData → Option R) (f : Env → Option (List R)) : Env → Option R := fun env => (f env).bind fun rs =>
  if rs.length = np then (if rs.any isBor then (Fn (rs.map dv)).bind fun r => if noLR r then some r else none else Fn (rs.map dv)) else none
theorem RRL.dvs (i : ∀ a, N' a → N a) (dm : ∀ a, N a → (H a).isSome = true) : ∀ {vs : List V} {rs : List R}, RRL K N O H H' vs rs → (∀ v ∈ vs, ∀ r ∈ rs, isBor r = true → ∀ a, RR K N O H H' v r → v = .ref a → ¬ N' a) → RpA K N' H' (rs.map dv) vs
  | _, _, .nil, _ => .nil
  | v :: vs, r :: rs, .cons h t, c => by
    refine .cons ?_ (RRL.dvs i dm t fun w hw q hq => c w (List.mem_cons_of_mem _ hw) q (List.mem_cons_of_mem _ hq))
    cases r with
    | d x => exact Rp.sub h fun a _ z => i a z
    | own xs =>
      obtain ⟨p, ws, rfl, n, q, ra⟩ := h
      exact .lst ⟨q, fun z => by have := dm p (i p z); rw [n] at this; cases this⟩ (ra.sub fun a _ z => .inl (i a z))
    | bor xs =>
      have h' := h
      obtain ⟨p, ws, rfl, m, q, ra⟩ := h
      exact .lst ⟨q, c _ List.mem_cons_self _ List.mem_cons_self rfl p h' rfl⟩ (ra.sub fun a _ z => i a z)
theorem call_imp {np : Nat} {Fn : List PyData → Option R} {f : Env → Option (List R)} (σ : St) (H : Hp) (Q : VK) (h : tE K (eCall np Fn f) σ H Q) : tCall (spF K np Fn) [] E0 (tA K f) σ H Q := by
  obtain ⟨F, H0, env, O, r, L, e, h⟩ := h
  obtain ⟨rs, e1, e⟩ := Option.bind_eq_some_iff.mp e
  split at e
  · rename_i hl
    refine ⟨F, H0, env, O, rs, L, e1, fun vs H1 m ra => ?_⟩
    have rl := RRA.all (sRefl H) (fun _ z => z) ra
    show spF K np Fn (vs ++ []) H1 Q E0
    rw [List.append_nil]
    have dm1 : ∀ a, nn O F a → (H1 a).isSome = true := (L.mono m).dom
    split at e
    · obtain ⟨q, e2, e⟩ := Option.bind_eq_some_iff.mp e
      split at e
      · rename_i hn
        cases e
        refine ⟨fun a => nn O F a ∧ V.ref a ∉ vs, rs.map dv, r, by simpa using hl, RRL.dvs (fun a z => z.1) L.dom rl fun v hv q hq hb a hr ea z => z.2 (ea ▸ hv), fun a z => dm1 a z.1, e2, fun v H2 m2 rf => h v H2 (sTr m m2) ?_⟩
        cases r with
        | d x => exact Rp.free _ x v hn rf
        | own xs =>
          obtain ⟨p, ws, e, n, q, ra⟩ := rf
          exact ⟨p, ws, e, sNone m n, q, RpA.free _ xs ws hn ra⟩
        | bor xs => exact rf.elim
      · cases e
    · rename_i hb
      refine ⟨nn O F, rs.map dv, r, by simpa using hl, RRL.dvs (fun a z => z) L.dom rl fun v hv q hq hb' a hr ea z => hb (List.any_eq_true.mpr ⟨q, hq, hb'⟩), dm1, e, fun v H2 m2 rf => h v H2 (sTr m m2) ?_⟩
      cases r with
      | d x => exact rf
      | own xs =>
        obtain ⟨p, ws, e, n, q, ra⟩ := rf
        exact ⟨p, ws, e, sNone m n, q, ra⟩
      | bor xs => exact rf.elim
  · cases e
end
section
variable {X : Cx}
theorem se_call {k : Nat} {f : Addr} {fd : FuncData} {ps : List Str} {np : Nat} {Fn : List PyData → Option R} {x : Str} {p pos : Pos} {e : Expr} {es : List Expr} {fa : Env → Option (List R)}
    (G : FnOk X.prog X.w X.K X.mg X.base CX0 k f fd ps (spF X.K np Fn)) (hr : Room k X.A) (hg : Gl X x) (hm : X.mg x = some (.ref f)) (hk : PySem.W.keepIn X.K (.ref f) = true) (hb : Binds X.K fd ps []) (ha : SA X (e :: es) fa)
    (hdb : (x == ("__debug__" : Str)) = false := by decide) (he : starEach (e :: es) X.env = (false, eval e X.env) :: starEach es X.env := by rfl) (hpl : (backTo pos (starEach es X.env)).any (·.1) = false := by rfl) :
    SE X (.Call (.Name x p) (e :: es) [] pos) (eCall np Fn fa) :=
  imE (pe_call G hr hg hm hk hb .nil pass0 ha hdb he hpl) fun σ H Q h => call_imp σ H Q h
end

/-! ### statements -/
inductive Fl where
  | nx (e : Env)
  | bk (e : Env)
  | ct (e : Env)
  | rt (r : R)
def Post (K : PySem.W.Frag) (F : Addr → Prop) (H0 : Hp) (D : Ends) : Fl → Prop
  | .nx e => ∀ σ' H' O', Rl K F H0 e σ' H' O' → D.nx σ' H'
  | .bk e => ∀ σ' H' O', Rl K F H0 e σ' H' O' → D.bk σ' H'
  | .ct e => ∀ σ' H' O', Rl K F H0 e σ' H' O' → D.ct σ' H'
  | .rt r => ∀ v H', Same H0 H' → RRf K F H0 H' v r → D.rt v H'
def tS (K : PySem.W.Frag) (f : Env → Option Fl) : TS := fun D σ H => ∃ F H0 env O fl, Rl K F H0 env σ H O ∧ f env = some fl ∧ Post K F H0 D fl
abbrev SS (X : Cx) (st : Stmt) (f : Env → Option Fl) : Prop := PS X st (tS X.K f)
abbrev SB (X : Cx) (sts : List Stmt) (f : Env → Option Fl) : Prop := PSs X sts (tS X.K f)
section
variable {X : Cx}
theorem imS {st : Stmt} {t t' : TS} (h : PS X st t) (i : ∀ D σ H, t' D σ H → t D σ H) : PS X st t' := ⟨fun pins s σ H D I hw => h.run pins s σ H D I (i D σ H hw)⟩
theorem imB {st : List Stmt} {t t' : TS} (h : PSs X st t) (i : ∀ D σ H, t' D σ H → t D σ H) : PSs X st t' := ⟨fun pins s σ H D I hw => h.run pins s σ H D I (i D σ H hw)⟩
def sNext : Env → Option Fl := fun env => some (.nx env)
def sBrk : Env → Option Fl := fun env => some (.bk env)
def sCont : Env → Option Fl := fun env => some (.ct env)
def sSeq (f g : Env → Option Fl) : Env → Option Fl := fun env => (f env).bind fun fl => match fl with
  | .nx e => g e
  | fl => some fl
theorem sb_nil : SB X [] sNext := imB pss_nil fun D σ H h => by
  obtain ⟨F, H0, env, O, fl, L, e, h⟩ := h
  cases e
  exact h σ H O L
theorem sb_cons {st : Stmt} {rest : List Stmt} {f g : Env → Option Fl} (h1 : SS X st f) (h2 : SB X rest g) : SB X (st :: rest) (sSeq f g) := imB (pss_cons h1 h2) fun D σ H h => by
  obtain ⟨F, H0, env, O, fl, L, e, h⟩ := h
  obtain ⟨q, e1, e⟩ := Option.bind_eq_some_iff.mp e
  refine ⟨F, H0, env, O, q, L, e1, ?_⟩
  cases q with
  | nx e2 => exact fun σ' H' O' L' => ⟨F, H0, e2, O', fl, L', e, h⟩
  | bk e2 => cases e; exact h
  | ct e2 => cases e; exact h
  | rt r => cases e; exact h
theorem sb_one {st : Stmt} {f : Env → Option Fl} (h1 : SS X st f) : SB X [st] f := pss_one h1
theorem ss_pass {pos} : SS X (.Pass pos) sNext := imS ps_pass fun D σ H h => by
  obtain ⟨F, H0, env, O, fl, L, e, h⟩ := h
  cases e
  exact h σ H O L
theorem ss_brk {pos} : SS X (.Break pos) sBrk := imS ps_break fun D σ H h => by
  obtain ⟨F, H0, env, O, fl, L, e, h⟩ := h
  cases e
  exact h σ H O L
theorem ss_cont {pos} : SS X (.Continue pos) sCont := imS ps_continue fun D σ H h => by
  obtain ⟨F, H0, env, O, fl, L, e, h⟩ := h
  cases e
  exact h σ H O L
def sIf (c : Env → Option Bool) (f g : Env → Option Fl) : Env → Option Fl := fun env => (c env).bind fun b => if b then f env else g env
theorem ss_if {c : Expr} {a b : List Stmt} {t : Env → Option Bool} {f g : Env → Option Fl} {pos : Pos} (hc : ST X c t) (ha : SB X a f) (hb : SB X b g) : SS X (.If c a b pos) (sIf t f g) := imS (ps_if hc ha hb) fun D σ H h => by
  obtain ⟨F, H0, env, O, fl, L, e, h⟩ := h
  obtain ⟨x, e1, e⟩ := Option.bind_eq_some_iff.mp e
  refine oneT L e1 fun H' m => ?_
  cases x with
  | true => exact iteT ⟨F, H0, env, O, fl, L.mono m, e, h⟩
  | false => exact iteF ⟨F, H0, env, O, fl, L.mono m, e, h⟩
/-- a slot's own list that is handed out at the frame's end -/
def outR : R → R
  | .bor xs => .own xs
  | r => r
def sRet (f : Env → Option R) : Env → Option Fl := fun env => (f env).map fun r => .rt (outR r)
theorem ss_ret {e : Expr} {f : Env → Option R} {pos : Pos} (he : SE X e f) : SS X (.Return (some e) pos) (sRet f) := imS (ps_ret he) fun D σ H h => by
  obtain ⟨F, H0, env, O, fl, L, e, h⟩ := h
  obtain ⟨r, e1, e⟩ := Option.map_eq_some_iff.mp e
  subst e
  refine one L e1 fun v H' m rr => h v H' (sTr L.sm m) ?_
  cases r with
  | d x => exact Rp.sub rr fun a _ z => .inr z
  | own xs =>
    obtain ⟨p, vs, e, n, q, ra⟩ := rr
    exact ⟨p, vs, e, sNone L.sm n, q, ra.sub fun a _ z => z.elim (fun z => .inl (.inr z)) .inr⟩
  | bor xs =>
    obtain ⟨p, vs, e, m1, q, ra⟩ := rr
    refine ⟨p, vs, e, (L.dj p m1).2, q, ra.sub fun a _ z => z.elim .inr fun z => ?_⟩
    rw [z]; exact .inl m1
def sRetN : Env → Option Fl := fun _ => some (.rt (.d .none))
theorem ss_retN {pos} : SS X (.Return none pos) sRetN := imS ps_retN fun D σ H h => by
  obtain ⟨F, H0, env, O, fl, L, e, h⟩ := h
  cases e
  exact h .non H L.sm Rp.non
def sDrop (f : Env → Option R) : Env → Option Fl := fun env => (f env).map fun _ => .nx env
theorem ss_expr {e : Expr} {f : Env → Option R} {pos : Pos} (he : SE X e f) (hs : swapsWith e none pos.line X.env = pure false := by rfl) : SS X (.Expr e pos) (sDrop f) := imS (ps_expr he hs) fun D σ H h => by
  obtain ⟨F, H0, env, O, fl, L, e, h⟩ := h
  obtain ⟨r, e1, e⟩ := Option.map_eq_some_iff.mp e
  subst e
  exact one L e1 fun v H' m rr => h σ H' O (L.mono m)

/-! ### a name takes a value -/
def putR (i : Nat) (r : R) (env : Env) : Option Env := match r with
  | .d x => some (env.set i (some (.d x)))
  | .own xs => if i < env.length then some (env.set i (some (.own xs))) else none
  | .bor _ => none
def sSet (i : Nat) (f : Env → Option R) : Env → Option Fl := fun env => (f env).bind fun r => (putR i r env).map .nx
theorem Rl.putV {K : PySem.W.Frag} {F : Addr → Prop} {H H1 H0 : Hp} {env env' : Env} {σ : St} {O : List Addr} {i : Nat} {v : V} {r : R} (L : Rl K F H0 env σ H O) (m : Same H H1) (rr : RR K (nn O F) O H H1 v r) (e : PV.putR i r env = some env') :
    ∃ O' F', Rl K F' H0 env' (σ.set i (some v)) H1 O' ∧ (∀ a, nn O' F' a ↔ PV.ext (nn O F) v r a) ∧ (∀ a, F a → F' a) := by
  cases r with
  | d x => cases e; exact (L.mono m).putD i rr
  | own xs =>
    unfold PV.putR at e
    simp only at e
    split at e
    · rename_i hi
      cases e
      exact L.putR i hi m rr
    · cases e
  | bor xs => cases e
theorem asg_imp {K : PySem.W.Frag} {i : Nat} {f : Env → Option R} {te : TE} (hte : ∀ σ H Q, tE K f σ H Q → te σ H Q) (D : Ends) (σ : St) (H : Hp) (h : tS K (sSet i f) D σ H) : tAsg te (gName i) D σ H := by
  obtain ⟨F, H0, env, O, fl, L, e, h⟩ := h
  obtain ⟨r, e1, e⟩ := Option.bind_eq_some_iff.mp e
  obtain ⟨env', e2, e⟩ := Option.map_eq_some_iff.mp e
  subst e
  refine hte σ H _ (one L e1 fun v H' m rr => ?_)
  obtain ⟨O', F', L', _, s⟩ := L.putV m rr e2
  exact h _ H' O' (L'.shrink s)
theorem ss_set (i : Nat) {x : Str} {e : Expr} {f : Env → Option R} {pos pos' : Pos} (hN : X.N.Nodup) (he : SE X e f) (hi : X.N[i]? = some x := by rfl) (hx : Loc X.env.scope x := by first | exact Or.inl rfl | exact Or.inr rfl)
    (hs : swapsWith e (some (.Name x pos')) pos.line X.env = pure false := by rfl) (hf : X.fn x = true ∨ X.env.scope.names.lookup x = some .local := by first | exact .inl rfl | exact .inr rfl) : SS X (.Assign [.Name x pos'] e pos) (sSet i f) :=
  imS (ps_set hN hi hx he hs hf) fun D σ H h => asg_imp (fun _ _ _ q => q) D σ H h
theorem ss_setLc (i : Nat) {y : Str} {py : Pos} {elt tg iter : Expr} {ifs : List Expr} {scope : Scope} {own : List (Str × Nat)} {ms : List Nat} {pos spos : Pos} {it : Env → Option (List PyData)} {g : G} {tt : Env → Option Bool} {te : Env → Option R}
    (hc : X.calm = true) (hN : X.N.Nodup) (hi : SI X tg iter false it) (ok : blkC X.N X.env.scope scope own = true)
    (hg : ∀ (s : Shared) (H : Hp) (C : Addr) (cl : List (Str × Addr)) (fp : List Addr), SG (X.blk s H scope (compEnvC scope cl C X.env) fp) tg ms g)
    (ht : ∀ (s : Shared) (H : Hp) (C : Addr) (cl : List (Str × Addr)) (fp : List Addr), PTs (X.blk s H scope (compEnvC scope cl C X.env) fp) ifs (tT X.K tt))
    (he : ∀ (s : Shared) (H : Hp) (C : Addr) (cl : List (Str × Addr)) (fp : List Addr), SE (X.blk s H scope (compEnvC scope cl C X.env) fp) elt te) (hms : ∀ i ∈ ms, i ∈ own.map (·.2) := by decide)
    (hy : X.N[i]? = some y := by rfl) (hyl : X.env.scope.names.lookup y = some .local := by rfl) (hsw : swapsWith (.ListComp elt [⟨tg, iter, ifs, 0⟩] scope pos) (some (.Name y py)) spos.line X.env = pure true := by exact sw_true rfl rfl rfl (by decide +kernel)) (hs : ∀ x, foldedSetIterable iter X.env x = pure x := by intro _; rfl) :
    SS X (.Assign [.Name y py] (.ListComp elt [⟨tg, iter, ifs, 0⟩] scope pos) spos) (sSet i (eLc it (own.map (·.2)) g tt te)) :=
  imS (ps_setLc hc hN hy hyl hsw hi (blkOk_by ok) hg ht he hs) fun D σ H h => asg_imp (fun σ H Q q => lc_imp hms σ H Q q) D σ H h
/-- a pattern takes a datum -/
def sAsg (g : G) (f : Env → Option R) : Env → Option Fl := fun env => (f env).bind fun r => (toD r).bind fun d => (g d env).map .nx
theorem ss_asg {tg e : Expr} {ms : List Nat} {g : G} {f : Env → Option R} {pos : Pos} (he : SE X e f) (hg : SG X tg ms g) (hs : swapsWithSole [tg] e pos.line X.env = pure false := by rfl) (hw : swappedStores [tg] e X.env = pure none := by rfl)
    (h1 : (assignEach [tg] X.env).map (·.2) = [assign tg X.env] := by rfl) : SS X (.Assign [tg] e pos) (sAsg g f) := imS (ps_asg he hg hs hw h1) fun D σ H h => by
  obtain ⟨F, H0, env, O, fl, L, e, h⟩ := h
  obtain ⟨r, e1, e⟩ := Option.bind_eq_some_iff.mp e
  obtain ⟨d, e2, e⟩ := Option.bind_eq_some_iff.mp e
  obtain ⟨env', e3, e⟩ := Option.map_eq_some_iff.mp e
  subst e
  refine one L e1 fun v H' m rr => ?_
  exact ⟨F, H0, env, O, d, env', L.mono m, rr.toD e2 L.dom, e3, fun σ' F' O' L' _ s _ => h σ' H' O' (L'.shrink s)⟩
/-- several names take several values, new lists among them -/
def putAll : List Nat → List R → Env → Option Env
  | [], [], env => some env
  | i :: is, r :: rs, env => (putR i r env).bind (putAll is rs)
  | _, _, _ => none
def setAll (σ : St) : List Nat → List V → St
  | i :: is, v :: vs => setAll (σ.set i (some v)) is vs
  | _, _ => σ
theorem putAll_ok {K : PySem.W.Frag} {F : Addr → Prop} {H' : Hp} : ∀ {is : List Nat} {rs : List R} {vs : List V} {H H0 : Hp} {N : Addr → Prop} {env env' : Env} {σ : St} {O O0 : List Addr} {F' : Addr → Prop}, RRA K O0 H' N H vs rs → putAll is rs env = some env' → Rl K F' H0 env σ H O → (∀ a, nn O F' a ↔ N a) → (∀ a, F a → F' a) →
    Same H H' → ∃ O', Rl K F H0 env' (setAll σ is vs) H' O'
  | [], [], vs, H, H0, N, env, env', σ, O, O0, F', h, e, L, i, s, m => by
    cases e
    cases vs with
    | nil => exact ⟨O, (L.mono m).shrink s⟩
    | cons v vs => exact h.elim
  | [], _ :: _, _, _, _, _, _, _, _, _, _, _, _, e, _, _, _, _ => by cases e
  | _ :: _, [], _, _, _, _, _, _, _, _, _, _, _, e, _, _, _, _ => by cases e
  | i :: is, r :: rs, [], _, _, _, _, _, _, _, _, _, h, _, _, _, _, _ => h.elim
  | i :: is, r :: rs, v :: vs, H, H0, N, env, env', σ, O, O0, F', h, e, L, i1, s, m => by
    obtain ⟨H1, m1, m2, rr, rest⟩ := h
    obtain ⟨env1, e1, e⟩ := Option.bind_eq_some_iff.mp e
    have nb : ∀ xs, r ≠ .bor xs := fun xs z => by subst z; cases e1
    have rr' : RR K (nn O F') O H H1 v r := by
      have q := rr.sub (N' := nn O F') fun a _ z => (i1 a).mp z
      cases r with
      | d x => exact q
      | own xs => exact q
      | bor xs => exact absurd rfl (nb xs)
    obtain ⟨O', F2, L', j, s'⟩ := L.putV m1 rr' e1
    refine putAll_ok (is := is) (rs := rs) (vs := vs) rest e L' (fun a => (j a).trans ?_) (fun a z => s' a (s a z)) m2
    cases r with
    | d x => exact i1 a
    | own xs =>
      show (nn O F' a ∨ v = .ref a) ↔ (N a ∨ v = .ref a)
      rw [i1 a]
    | bor xs => exact absurd rfl (nb xs)
def sPar (is : List Nat) (f : Env → Option (List R)) : Env → Option Fl := fun env => (f env).bind fun rs => (putAll is rs env).map .nx
theorem ss_par2 (i j : Nat) {x y : Str} {a b : Expr} {f : Env → Option (List R)} {px py pt : Pos} {kt k2 pt2} {pos : Pos} (hc : X.calm = true) (hN : X.N.Nodup) (ha : SA X [a, b] f) (hi : X.N[i]? = some x := by rfl) (hj : X.N[j]? = some y := by rfl) (hij : i ≠ j := by decide)
    (hx : X.env.scope.names.lookup x = some .local := by rfl) (hy : X.env.scope.names.lookup y = some .local := by rfl)
    (hw : swappedStores [.Tuple [.Name x px, .Name y py] kt pt] (.Tuple [a, b] k2 pt2) X.env = pure (some [x, y]) := by rfl)
    (hs : swapsWithSole [.Tuple [.Name x px, .Name y py] kt pt] (.Tuple [a, b] k2 pt2) pos.line X.env = pure false := by rfl) :
    SS X (.Assign [.Tuple [.Name x px, .Name y py] kt pt] (.Tuple [a, b] k2 pt2) pos) (sPar [i, j] f) := imS (ps_par hc hN hi hj hij hx hy ha hw hs) fun D σ H h => by
  obtain ⟨F, H0, env, O, fl, L, e, h⟩ := h
  obtain ⟨rs, e1, e⟩ := Option.bind_eq_some_iff.mp e
  obtain ⟨env', e2, e⟩ := Option.map_eq_some_iff.mp e
  subst e
  refine ⟨F, H0, env, O, rs, L, e1, fun vs H1 m ra => ?_⟩
  obtain ⟨O', L'⟩ := putAll_ok ra e2 L (fun _ => Iff.rfl) (fun _ z => z) m
  match rs, vs, e2, ra with
  | [r1, r2], [v1, v2], _, _ => exact ⟨v1, v2, rfl, h _ H1 O' L'⟩
  | [], _, e2, _ => cases e2
  | [r1], _, e2, _ => obtain ⟨_, _, e2⟩ := Option.bind_eq_some_iff.mp e2; cases e2
  | r1 :: r2 :: r3 :: rs, _, e2, _ =>
    obtain ⟨_, _, e2⟩ := Option.bind_eq_some_iff.mp e2
    obtain ⟨_, _, e2⟩ := Option.bind_eq_some_iff.mp e2
    cases e2
  | [r1, r2], [], _, ra => exact ra.elim
  | [r1, r2], [v1], _, ra => obtain ⟨_, _, _, _, ra⟩ := ra; exact ra.elim
  | [r1, r2], v1 :: v2 :: v3 :: vs, _, ra => obtain ⟨_, _, _, _, ra⟩ := ra; obtain ⟨_, _, _, _, ra⟩ := ra; exact ra.elim
theorem ss_par3 (i j l : Nat) {x y z : Str} {a b c : Expr} {f : Env → Option (List R)} {px py pz pt pos : Pos} {kt k2 pt2} (hc : X.calm = true) (hN : X.N.Nodup) (ha : SA X [a, b, c] f) (hi : X.N[i]? = some x := by rfl) (hj : X.N[j]? = some y := by rfl) (hl : X.N[l]? = some z := by rfl) (hij : i ≠ j := by decide) (hil : i ≠ l := by decide) (hjl : j ≠ l := by decide)
    (hx : X.env.scope.names.lookup x = some .local := by rfl) (hy : X.env.scope.names.lookup y = some .local := by rfl) (hz : X.env.scope.names.lookup z = some .local := by rfl)
    (hw : swappedStores [.Tuple [.Name x px, .Name y py, .Name z pz] kt pt] (.Tuple [a, b, c] k2 pt2) X.env = pure (some [x, y, z]) := by rfl)
    (hs : swapsWithSole [.Tuple [.Name x px, .Name y py, .Name z pz] kt pt] (.Tuple [a, b, c] k2 pt2) pos.line X.env = pure false := by rfl) :
    SS X (.Assign [.Tuple [.Name x px, .Name y py, .Name z pz] kt pt] (.Tuple [a, b, c] k2 pt2) pos) (sPar [i, j, l] f) := imS (ps_par3 hc hN hi hj hl hij hil hjl hx hy hz ha hw hs) fun D σ H h => by
  obtain ⟨F, H0, env, O, fl, L, e, h⟩ := h
  obtain ⟨rs, e1, e⟩ := Option.bind_eq_some_iff.mp e
  obtain ⟨env', e2, e⟩ := Option.map_eq_some_iff.mp e
  subst e
  refine ⟨F, H0, env, O, rs, L, e1, fun vs H1 m ra => ?_⟩
  obtain ⟨O', L'⟩ := putAll_ok ra e2 L (fun _ => Iff.rfl) (fun _ z => z) m
  match rs, vs, e2, ra with
  | [r1, r2, r3], [v1, v2, v3], _, _ => exact ⟨v1, v2, v3, rfl, h _ H1 O' L'⟩
  | [], _, e2, _ => cases e2
  | [r1], _, e2, _ => obtain ⟨_, _, e2⟩ := Option.bind_eq_some_iff.mp e2; cases e2
  | [r1, r2], _, e2, _ => obtain ⟨_, _, e2⟩ := Option.bind_eq_some_iff.mp e2; obtain ⟨_, _, e2⟩ := Option.bind_eq_some_iff.mp e2; cases e2
  | r1 :: r2 :: r3 :: r4 :: rs, _, e2, _ =>
    obtain ⟨_, _, e2⟩ := Option.bind_eq_some_iff.mp e2
    obtain ⟨_, _, e2⟩ := Option.bind_eq_some_iff.mp e2
    obtain ⟨_, _, e2⟩ := Option.bind_eq_some_iff.mp e2
    cases e2
  | [r1, r2, r3], [], _, ra => exact ra.elim
  | [r1, r2, r3], [v1], _, ra => obtain ⟨_, _, _, _, ra⟩ := ra; exact ra.elim
  | [r1, r2, r3], [v1, v2], _, ra => obtain ⟨_, _, _, _, ra⟩ := ra; obtain ⟨_, _, _, _, ra⟩ := ra; exact ra.elim
  | [r1, r2, r3], v1 :: v2 :: v3 :: v4 :: vs, _, ra => obtain ⟨_, _, _, _, ra⟩ := ra; obtain ⟨_, _, _, _, ra⟩ := ra; obtain ⟨_, _, _, _, ra⟩ := ra; exact ra.elim
/-- .. where the pair is made and unpacked: any number of names -/
def gNames : List Nat → TGs
  | [] => gNil
  | i :: is => gCons (gName i) (gNames is)
theorem gNames_ok : ∀ {is : List Nat} {vs : List V} {σ : St} {H : Hp} {Q : St → Hp → Prop}, is.length = vs.length → Q (setAll σ is vs) H → gNames is vs σ H Q
  | [], [], _, _, _, _, q => ⟨rfl, q⟩
  | [], _ :: _, _, _, _, h, _ => by cases h
  | _ :: _, [], _, _, _, h, _ => by cases h
  | i :: is, v :: vs, σ, H, Q, h, q => ⟨v, vs, rfl, gNames_ok (is := is) (vs := vs) (by simpa using h) q⟩
theorem ss_parN (is : List Nat) {tgs es : List Expr} {f : Env → Option (List R)} {pt pt2 pos : Pos} {kt k2} (hc : X.calm = true) (ha : SA X es f) (hg : PGs X tgs (gNames is)) (hl : is.length ≤ LIM := by decide)
    (hn : (assignEach tgs X.env).length = is.length := by rfl) (hst : (assignEach tgs X.env).findIdx? (·.1) = none := by rfl)
    (hs : swapsWithSole [.Tuple tgs kt pt] (.Tuple es k2 pt2) pos.line X.env = pure false := by rfl) (hw : swappedStores [.Tuple tgs kt pt] (.Tuple es k2 pt2) X.env = pure none := by rfl)
    (h1 : (assignEach [.Tuple tgs kt pt] X.env).map (·.2) = [assign (.Tuple tgs kt pt) X.env] := by rfl) : SS X (.Assign [.Tuple tgs kt pt] (.Tuple es k2 pt2) pos) (sPar is f) := imS (ps_asg (pe_tup ha) (pg_tup hc hg hn hst) hs hw h1) fun D σ H h => by
  obtain ⟨F, H0, env, O, fl, L, e, h⟩ := h
  obtain ⟨rs, e1, e⟩ := Option.bind_eq_some_iff.mp e
  obtain ⟨env', e2, e⟩ := Option.map_eq_some_iff.mp e
  subst e
  refine ⟨F, H0, env, O, rs, L, e1, fun vs H1 m ra => ?_⟩
  obtain ⟨O', L'⟩ := putAll_ok ra e2 L (fun _ => Iff.rfl) (fun _ z => z) m
  have l1 : ∀ {is : List Nat} {rs : List R} {env env' : Env}, putAll is rs env = some env' → rs.length = is.length := by
    intro is
    induction is with
    | nil => intro rs env env' e; cases rs with
      | nil => rfl
      | cons r rs => cases e
    | cons i is ih => intro rs env env' e; cases rs with
      | nil => cases e
      | cons r rs => obtain ⟨_, _, e⟩ := Option.bind_eq_some_iff.mp e; simp [ih e]
  have l2 := l1 e2
  have l3 : vs.length = rs.length := by
    have := (RRA.all (sRefl H) (fun _ z => z) ra : RRL X.K (nn O F) O H H1 vs rs)
    exact Paired.length this
  refine ⟨lim_line (by rw [l3, l2]; exact hl), fun p np => ?_⟩
  refine ⟨p, vs, rfl, .inl (.inl upd_same), by rw [l3, l2], gNames_ok (by rw [l3, l2]) (h _ _ O' (L'.mono (sNew np)))⟩
theorem pgs_nm (i : Nat) {x : Str} {es : List Expr} {is : List Nat} {pos : Pos} (hN : X.N.Nodup) (h2 : PGs X es (gNames is)) (hi : X.N[i]? = some x := by rfl) (hx : Loc X.env.scope x := by first | exact Or.inl rfl | exact Or.inr rfl) (hf : X.fn x = true ∨ X.env.scope.names.lookup x = some .local := by first | exact .inl rfl | exact .inr rfl)
    (hs : (assignEach (.Name x pos :: es) X.env).map (·.2) = assign (.Name x pos) X.env :: (assignEach es X.env).map (·.2) := by rfl) : PGs X (.Name x pos :: es) (gNames (i :: is)) := pgs_cons (pg_name hN hi hx hf) h2 hs
theorem pgs_nm0 : PGs X [] (gNames []) := pgs_nil

/-! ### an own list changes -/
theorem RlS.write {K : PySem.W.Frag} {N : Addr → Prop} {H H' : Hp} : ∀ {env : Env} {σ : St} {O : List Addr} {i : Nat} {xs ys : List PyData} {a : Addr} {ws : List V}, RlS K N H env σ O → O.Nodup → env[i]? = some (some (.own xs)) → σ[i]? = some (some (.ref a)) → N a → H' = upd H a (.lst ws) → (∃ vs, H a = some (.lst vs)) → RpA K N H' ys ws →
    RlS K N H' (env.set i (some (.own ys))) σ O ∧ a ∈ O
  | [], _, _, _, _, _, _, _, _, _, e, _, _, _, _, _ => by simp at e
  | _ :: env, _, _, 0, xs, ys, a, ws, h, nd, e, e2, na, eH, hv, ra => by
    cases h with
    | non h1 => simp at e
    | d h1 h2 => simp at e
    | own h1 h2 h3 =>
      simp at e2
      have e2 := e2.symm
      subst e2
      obtain ⟨n1, n2⟩ := List.nodup_cons.mp nd
      subst eH
      refine ⟨?_, List.mem_cons_self⟩
      simp only [List.set_cons_zero]
      refine .own upd_same ra (h3.step (fun b u hb c => ?_) Sub.refl fun b hb u hu => ?_)
      · by_cases hba : b = a
        · subst hba
          rw [h1] at hb
          cases hb
          rcases c with c | c
          · exact absurd na c
          · exact absurd rfl (c _)
        · rw [upd_ne hba]; exact hb
      · rw [upd_ne (fun z => n1 (by rw [← z]; exact hb))]; exact hu
  | _ :: env, _, _, i + 1, xs, ys, a, ws, h, nd, e, e2, na, eH, hv, ra => by
    have e' : env[i]? = some (some (.own xs)) := by simpa using e
    have kp : Keep N H H' := fun b u hb c => by
      rw [eH]
      by_cases hba : b = a
      · subst hba
        obtain ⟨vs, hv⟩ := hv
        rw [hv] at hb
        cases hb
        rcases c with c | c
        · exact absurd na c
        · exact absurd rfl (c _)
      · rw [upd_ne hba]; exact hb
    simp only [List.set_cons_succ]
    cases h with
    | non h1 =>
      obtain ⟨q, m⟩ := RlS.write (i := i) h1 nd e' (by simpa using e2) na eH hv ra
      exact ⟨.non q, m⟩
    | d h1 h2 =>
      obtain ⟨q, m⟩ := RlS.write (i := i) h2 nd e' (by simpa using e2) na eH hv ra
      exact ⟨.d (Rp.step kp Sub.refl _ _ h1) q, m⟩
    | own h1 h2 h3 =>
      obtain ⟨n1, n2⟩ := List.nodup_cons.mp nd
      obtain ⟨q, m⟩ := RlS.write (i := i) h3 n2 e' (by simpa using e2) na eH hv ra
      refine ⟨.own ?_ (RpA.step kp Sub.refl _ _ h2) q, List.mem_cons_of_mem _ m⟩
      rw [eH, upd_ne (fun z => n1 (by rw [z]; exact m))]
      exact h1
theorem Rl.write {K : PySem.W.Frag} {F : Addr → Prop} {H H0 : Hp} {env : Env} {σ : St} {O : List Addr} {i : Nat} {xs ys : List PyData} {a : Addr} {vs ws : List V} (L : Rl K F H0 env σ H O) (e : env[i]? = some (some (.own xs))) (e2 : σ[i]? = some (some (.ref a))) (m : a ∈ O) (hv : H a = some (.lst vs)) (ra : RpA K (nn O F) H ys ws) :
    Rl K F H0 (env.set i (some (.own ys))) σ (upd H a (.lst ws)) O := by
  have kp : Keep (nn O F) H (upd H a (.lst ws)) := fun b u hb c => by
    by_cases hba : b = a
    · subst hba
      rw [hv] at hb
      cases hb
      rcases c with c | c
      · exact absurd (.inl m) c
      · exact absurd rfl (c _)
    · rw [upd_ne hba]; exact hb
  obtain ⟨q, _⟩ := RlS.write L.sl L.nd e e2 (.inl m) rfl ⟨vs, hv⟩ (RpA.step kp Sub.refl _ _ ra)
  refine ⟨q, L.nd, L.dj, fun b hb => ?_, fun b u hb => ?_⟩
  · by_cases hba : b = a
    · subst hba; rw [upd_same]; rfl
    · rw [upd_ne hba]; exact L.fd b hb
  · rw [upd_ne (fun z => by rw [z, (L.dj a m).2] at hb; cases hb)]
    exact L.sm b u hb
def ownAt (env : Env) (i : Nat) : Option (List PyData) := match env[i]? with
  | some (some (.own xs)) => some xs
  | _ => none
theorem ownAt_some {env : Env} {i : Nat} {xs : List PyData} (h : ownAt env i = some xs) : env[i]? = some (some (.own xs)) := by
  unfold ownAt at h
  split at h
  · cases h; assumption
  · cases h
def sApp (i : Nat) (f : Env → Option R) : Env → Option Fl := fun env => (ownAt env i).bind fun xs => (f env).bind fun r => (toD r).bind fun x => if xs.length < LIM then some (.nx (env.set i (some (.own (xs ++ [x]))))) else none
theorem ss_app (i : Nat) {x : Str} {e : Expr} {f : Env → Option R} {px apos cpos pos : Pos} (he : SE X e f) (hN : X.N[i]? = some x := by rfl) (hv : Vis X.env.scope x := by first | exact Or.inl rfl | exact Or.inr (Or.inl rfl) | exact Or.inr (Or.inr rfl)) (hd : (x == ("__debug__" : Str)) = false := by decide) (hcd : (x == ("__classdict__" : Str)) = false := by decide)
    (hbase : attributeBase (.Name x px) "append" X.env (eval (.Name x px) X.env) = eval (.Name x px) X.env := by rfl)
    (hfew : ((backTo cpos (starEach [e] X.env)).all (fun x => !x.1) && (backToKw cpos (keywordEach [] X.env)).all (fun x => x.1.isSome)
      && decide (([e] : List Expr).length + ([] : List Keyword).length + (if ([] : List Keyword).isEmpty then 0 else 1) < 30)) = true := by rfl)
    (hline : (apos.endLine == cpos.line) = true := by rfl) (hs : starEach [e] X.env = (false, eval e X.env) :: starEach [] X.env := by rfl)
    (hsw : swapsWith (.Call (.Attribute (.Name x px) "append" apos) [e] [] cpos) none pos.line X.env = pure false := by rfl) : SS X (.Expr (.Call (.Attribute (.Name x px) "append" apos) [e] [] cpos) pos) (sApp i f) :=
  imS (ps_expr (pe_bm PySem.F.plainAttrs_list PySem.F.slot_list_append PySem.F.type_list_append mt_append (pe_var hN hv hd hcd) (pa_cons he pa_nil hs) hbase hfew hline hs (by rfl)) hsw) fun D σ H h => by
    obtain ⟨F, H0, env, O, fl, L, e, h⟩ := h
    obtain ⟨xs, e0, e⟩ := Option.bind_eq_some_iff.mp e
    obtain ⟨r, e1, e⟩ := Option.bind_eq_some_iff.mp e
    obtain ⟨y, e2, e⟩ := Option.bind_eq_some_iff.mp e
    split at e
    · rename_i hl
      cases e
      have e0 := ownAt_some e0
      obtain ⟨a, vs, q, m, ha, ra⟩ := RlS.getO L.sl e0
      refine ⟨_, q, .inl ⟨rfl, vs, SqL.of ha⟩, one L e1 fun v H1 m1 rr => ?_⟩
      have ha1 := m1 a _ ha
      refine ⟨a, vs, v, rfl, rfl, ha1, lim_lt (by rw [ra.length]; exact hl), h σ _ O ((L.mono m1).write e0 q m ha1 ((ra.mono m1).append (RpA.one (rr.toD e2 L.dom))))⟩
    · cases e
def sExt (i : Nat) (f : Env → Option R) : Env → Option Fl := fun env => (ownAt env i).bind fun xs => (f env).bind fun r => (lv r).bind fun ys => if xs.length + ys.length ≤ LIM then some (.nx (env.set i (some (.own (xs ++ ys))))) else none
theorem ss_ext (i : Nat) {x : Str} {e : Expr} {f : Env → Option R} {px apos cpos pos : Pos} (he : SE X e f) (hN : X.N[i]? = some x := by rfl) (hv : Vis X.env.scope x := by first | exact Or.inl rfl | exact Or.inr (Or.inl rfl) | exact Or.inr (Or.inr rfl)) (hd : (x == ("__debug__" : Str)) = false := by decide) (hcd : (x == ("__classdict__" : Str)) = false := by decide)
    (hbase : attributeBase (.Name x px) "extend" X.env (eval (.Name x px) X.env) = eval (.Name x px) X.env := by rfl)
    (hfew : ((backTo cpos (starEach [e] X.env)).all (fun x => !x.1) && (backToKw cpos (keywordEach [] X.env)).all (fun x => x.1.isSome)
      && decide (([e] : List Expr).length + ([] : List Keyword).length + (if ([] : List Keyword).isEmpty then 0 else 1) < 30)) = true := by rfl)
    (hline : (apos.endLine == cpos.line) = true := by rfl) (hs : starEach [e] X.env = (false, eval e X.env) :: starEach [] X.env := by rfl)
    (hsw : swapsWith (.Call (.Attribute (.Name x px) "extend" apos) [e] [] cpos) none pos.line X.env = pure false := by rfl) : SS X (.Expr (.Call (.Attribute (.Name x px) "extend" apos) [e] [] cpos) pos) (sExt i f) :=
  imS (ps_expr (pe_bm PySem.F.plainAttrs_list PySem.F.slot_list_extend PySem.F.type_list_extend mt_extend (pe_var hN hv hd hcd) (pa_cons he pa_nil hs) hbase hfew hline hs (by rfl)) hsw) fun D σ H h => by
    obtain ⟨F, H0, env, O, fl, L, e, h⟩ := h
    obtain ⟨xs, e0, e⟩ := Option.bind_eq_some_iff.mp e
    obtain ⟨r, e1, e⟩ := Option.bind_eq_some_iff.mp e
    obtain ⟨ys, e2, e⟩ := Option.bind_eq_some_iff.mp e
    split at e
    · rename_i hl
      cases e
      have e0 := ownAt_some e0
      obtain ⟨a, vs, q, m, ha, ra⟩ := RlS.getO L.sl e0
      refine ⟨_, q, .inl ⟨rfl, vs, SqL.of ha⟩, one L e1 fun v H1 m1 rr => ?_⟩
      have ha1 := m1 a _ ha
      obtain ⟨b, ws, rfl, hb, rb⟩ := rr.lst e2
      exact ⟨a, b, vs, ws, rfl, rfl, ha1, hb, lim_line (by rw [ra.length, rb.length]; exact hl), h σ _ O ((L.mono m1).write e0 q m ha1 ((ra.mono m1).append rb))⟩
    · cases e
/-- x.pop(), dropped -/
def sPop (i : Nat) : Env → Option Fl := fun env => (ownAt env i).bind fun xs => if xs.length = 0 then none else some (.nx (env.set i (some (.own xs.dropLast))))
theorem ss_pop (i : Nat) {x : Str} {px apos cpos pos : Pos} (hN : X.N[i]? = some x := by rfl) (hv : Vis X.env.scope x := by first | exact Or.inl rfl | exact Or.inr (Or.inl rfl) | exact Or.inr (Or.inr rfl)) (hd : (x == ("__debug__" : Str)) = false := by decide) (hcd : (x == ("__classdict__" : Str)) = false := by decide)
    (hbase : attributeBase (.Name x px) "pop" X.env (eval (.Name x px) X.env) = eval (.Name x px) X.env := by rfl) (hline : (apos.endLine == cpos.line) = true := by rfl)
    (hsw : swapsWith (.Call (.Attribute (.Name x px) "pop" apos) [] [] cpos) none pos.line X.env = pure false := by rfl) : SS X (.Expr (.Call (.Attribute (.Name x px) "pop" apos) [] [] cpos) pos) (sPop i) :=
  imS (ps_expr (pe_bm0 PySem.F.plainAttrs_list PySem.F.slot_list_pop PySem.F.type_list_pop mt_pop (pe_var hN hv hd hcd) hbase hline) hsw) fun D σ H h => by
    obtain ⟨F, H0, env, O, fl, L, e, h⟩ := h
    obtain ⟨xs, e0, e⟩ := Option.bind_eq_some_iff.mp e
    split at e
    · cases e
    · rename_i hl
      cases e
      have e0 := ownAt_some e0
      obtain ⟨a, vs, q, m, ha, ra⟩ := RlS.getO L.sl e0
      have hlen := ra.length
      obtain ⟨y, hy⟩ : ∃ y, vs[vs.length - 1]? = some y := ⟨vs[vs.length - 1]'(by omega), List.getElem?_eq_getElem (by omega)⟩
      exact ⟨_, q, .inl ⟨rfl, vs, SqL.of ha⟩, a, vs, y, rfl, rfl, ha, hy, h σ _ O (L.write e0 q m ha ra.dropLast)⟩
/-- x[j] = e -/
def sSetIx (i : Nat) (fj fe : Env → Option R) : Env → Option Fl := fun env => (ownAt env i).bind fun xs => (fe env).bind fun r => (toD r).bind fun y => (fj env).bind fun j => match j with
  | .d (.int k) => (ixN xs.length k).map fun n => .nx (env.set i (some (.own (xs.set n y))))
  | _ => none
theorem ss_setIx (i : Nat) {x : Str} {j e : Expr} {fj fe : Env → Option R} {px tpos pos : Pos} (hj : SE X j fj) (he : SE X e fe) (hN : X.N[i]? = some x := by rfl) (hv : Vis X.env.scope x := by first | exact Or.inl rfl | exact Or.inr (Or.inl rfl) | exact Or.inr (Or.inr rfl)) (hd : (x == ("__debug__" : Str)) = false := by decide) (hcd : (x == ("__classdict__" : Str)) = false := by decide)
    (ha : ∀ v, assign (.Subscript (.Name x px) j tpos) X.env v = (do
      let ov ← holding [v] (eval (.Name x px) X.env)
      let iv ← holding [v, ov] (eval j X.env)
      standAt tpos
      holding [v, ov, iv] (setItem ov iv v)
      release [v, ov, iv] []) := by intro _; rfl)
    (hs : swapsWithSole [.Subscript (.Name x px) j tpos] e pos.line X.env = pure false := by rfl) (hw : swappedStores [.Subscript (.Name x px) j tpos] e X.env = pure none := by rfl)
    (h1 : (assignEach [.Subscript (.Name x px) j tpos] X.env).map (·.2) = [assign (.Subscript (.Name x px) j tpos) X.env] := by rfl) : SS X (.Assign [.Subscript (.Name x px) j tpos] e pos) (sSetIx i fj fe) :=
  imS (ps_asg he (pg_sub (pe_var hN hv hd hcd) hj set_list ha) hs hw h1) fun D σ H h => by
    obtain ⟨F, H0, env, O, fl, L, e, h⟩ := h
    obtain ⟨xs, e0, e⟩ := Option.bind_eq_some_iff.mp e
    obtain ⟨r, e1, e⟩ := Option.bind_eq_some_iff.mp e
    obtain ⟨y, e2, e⟩ := Option.bind_eq_some_iff.mp e
    obtain ⟨jr, e3, e⟩ := Option.bind_eq_some_iff.mp e
    split at e
    · rename_i k
      obtain ⟨n, e4, e⟩ := Option.map_eq_some_iff.mp e
      subst e
      have e0 := ownAt_some e0
      refine one L e1 fun v H1 m1 rr => ?_
      obtain ⟨a, vs, q, m, ha, ra⟩ := RlS.getO (L.mono m1).sl e0
      refine ⟨_, q, one (L.mono m1) e3 fun w H2 m2 rj => ?_⟩
      have ha2 := m2 a _ ha
      refine ⟨a, vs, k, n, rfl, rj.int, ha2, by rw [ra.length]; exact e4, h σ _ O ?_⟩
      exact ((L.mono m1).mono m2).write e0 q m ha2 ((ra.mono m2).set n ((rr.toD e2 L.dom).mono m2))
    · cases e
/-- name op= e, of ints -/
def sAug (i : Nat) (op : R → R → Option R) (f : Env → Option R) : Env → Option Fl := fun env => (eVar i env).bind fun a => (f env).bind fun b => (op a b).bind fun r => (putR i r env).map .nx
theorem ss_aug (i : Nat) {x : Str} {e : Expr} {f : Env → Option R} {op : Operator} {fo : R → R → Option R} {pos pos' : Pos} (ho : OpS X (inplaceOp op) fo) (hN : X.N.Nodup) (he : SE X e f) (hi : X.N[i]? = some x := by rfl) (hx : Loc X.env.scope x := by first | exact Or.inl rfl | exact Or.inr rfl)
    (hf : X.fn x = true ∨ X.env.scope.names.lookup x = some .local := by first | exact .inl rfl | exact .inr rfl) : SS X (.AugAssign (.Name x pos') op e pos) (sAug i fo f) := by
  obtain ⟨rr, h1, h2⟩ := ho
  refine imS (ps_aug hN hi hx he (fun pins s σ H x y v u Q I r1 r2 q => h1 pins s σ H x y v u Q I r1 r2 q) hf) fun D σ H h => ?_
  obtain ⟨F, H0, env, O, fl, L, e, h⟩ := h
  obtain ⟨a, e1, e⟩ := Option.bind_eq_some_iff.mp e
  obtain ⟨b, e2, e⟩ := Option.bind_eq_some_iff.mp e
  obtain ⟨r, e3, e⟩ := Option.bind_eq_some_iff.mp e
  obtain ⟨env', e4, e⟩ := Option.map_eq_some_iff.mp e
  subst e
  have fin : ∀ v, σ[i]? = some (some v) → RR X.K (nn O F) O H H v a → tAug i (tE X.K f) rr D σ H := fun v q ra => by
    refine ⟨v, q, one L e2 fun w H1 m1 rb => ?_⟩
    refine h2 (nn O F) O H H1 v w a b r _ m1 L.dom (ra.mono m1) rb e3 fun z H2 m2 rz => ?_
    obtain ⟨O', F', L', _, s⟩ := L.putV (sTr m1 m2) rz e4
    exact h _ H2 O' (L'.shrink s)
  unfold eVar at e1
  split at e1
  · rename_i x hx
    cases e1
    obtain ⟨v, q, rp⟩ := RlS.getD L.sl hx
    exact fin v q rp
  · rename_i xs hx
    cases e1
    obtain ⟨p, vs, q, m, ha, rp⟩ := RlS.getO L.sl hx
    exact fin _ q ⟨p, vs, rfl, m, ha, rp⟩
  · cases e1
theorem is_add : OpS X (inplaceOp .Add) (iOp (· + ·) fun _ _ => true) := opsI0 iop_add
theorem is_sub : OpS X (inplaceOp .Sub) opSub := opsI0 iop_sub
theorem is_mul : OpS X (inplaceOp .Mult) (iOp (· * ·) cMul) := opsI iop_mul fun i j h => cMul_ok h
theorem is_fdiv : OpS X (inplaceOp .FloorDiv) opFdiv := opsI iop_fdiv fun i j h => cDiv_ok h
theorem is_mod : OpS X (inplaceOp .Mod) opMod := opsI iop_mod fun i j h => of_decide_eq_true h

/-! ### loops -/
def forL (tg : G) (body : Env → Option Fl) : List PyData → Env → Option Fl
  | [], env => some (.nx env)
  | d :: ds, env => (tg d env).bind fun env1 => (body env1).bind fun fl => match fl with
    | .nx e => forL tg body ds e
    | .ct e => forL tg body ds e
    | .bk e => some (.nx e)
    | .rt r => some (.rt r)
def sFor (it : Env → Option (List PyData)) (tg : G) (body : Env → Option Fl) : Env → Option Fl := fun env => (it env).bind fun items => forL tg body items env
/-- what a loop finds, but the own lists -/
def loopH (O : List Addr) (H : Hp) : Hp := fun a => if a ∈ O then none else H a
theorem loopH_at {O : List Addr} {H : Hp} {a : Addr} {u : HO} (h : loopH O H a = some u) : a ∉ O ∧ H a = some u := by
  unfold loopH at h
  split at h
  · cases h
  · exact ⟨by assumption, h⟩
theorem loopH_in {O : List Addr} {H : Hp} {a : Addr} (h : a ∉ O) : loopH O H a = H a := by unfold loopH; rw [if_neg h]
theorem Rl.loop {K : PySem.W.Frag} {F : Addr → Prop} {H H0 : Hp} {env : Env} {σ : St} {O : List Addr} (L : Rl K F H0 env σ H O) : Rl K F (loopH O H) env σ H O :=
  ⟨L.sl, L.nd, fun a ha => ⟨(L.dj a ha).1, by unfold loopH; rw [if_pos ha]⟩, L.fd, fun a u h => (loopH_at h).2⟩
theorem Rl.unloop {K : PySem.W.Frag} {F : Addr → Prop} {H H0 H1 : Hp} {env env1 : Env} {σ σ1 : St} {O O1 : List Addr} (L : Rl K F H0 env σ H O) (L1 : Rl K F (loopH O H) env1 σ1 H1 O1) : Rl K F H0 env1 σ1 H1 O1 := by
  have up : ∀ a u, H0 a = some u → loopH O H a = some u := fun a u h => by
    rw [loopH_in fun z => by rw [(L.dj a z).2] at h; cases h]
    exact L.sm a u h
  refine ⟨L1.sl, L1.nd, fun a ha => ⟨(L1.dj a ha).1, ?_⟩, L1.fd, fun a u h => L1.sm a u (up a u h)⟩
  cases q : H0 a with
  | none => rfl
  | some u => have := up a u q; rw [(L1.dj a ha).2] at this; cases this
theorem for_imp {K : PySem.W.Frag} {it : Env → Option (List PyData)} {ms : List Nat} {tg : G} {body : Env → Option Fl} (D : Ends) (σ : St) (H : Hp) (h : tS K (sFor it tg body) D σ H) : tFor (tI K true it) (tG K ms tg) (tS K body) D σ H := by
  obtain ⟨F, H0, env, O, fl, L, e, h⟩ := h
  obtain ⟨items, e1, e⟩ := Option.bind_eq_some_iff.mp e
  refine ⟨F, H0, env, O, items, L, e1, fun J H1 m ok => ?_⟩
  obtain ⟨Gp, Y, w, hG, hY⟩ := ok
  have L1 := L.mono m
  have notO : ∀ a u, locked true (nn O F) H1 a → H1 a = some u → a ∉ O := fun a u hl hu ho => by
    obtain ⟨vs, e⟩ := RlS.ownAt L1.sl ho
    rcases hl rfl with z | z
    · exact z (.inl ho)
    · exact z vs e
  have keepL : ∀ {F' : Addr → Prop} {env' : Env} {σ' : St} {H' : Hp} {O' : List Addr}, Rl K F' (loopH O H1) env' σ' H' O' → ∀ a u, locked true (nn O F) H1 a → H1 a = some u → H' a = some u := fun L' a u hl hu => L'.sm a u (by rw [loopH_in (notO a u hl hu)]; exact hu)
  refine for_it w (fun i σ' H' => ∃ F' O' env', Rl K F' (loopH O H1) env' σ' H' O' ∧ (∀ a, F a → F' a) ∧ (∀ a, F' a → nn O F a ∨ loopH O H1 a = none) ∧ forL tg body (items.drop i) env' = some fl) ?_ ?_ ?_ ?_
  · exact ⟨F, O, env, L1.loop, fun _ z => z, fun a z => .inl (.inr z), e⟩
  · rintro i σ' H' hi ⟨F', O', env', L', s, _, go⟩
    exact hG H' (keepL L')
  · rintro i x σ' H' H'' hi ⟨F', O', env', L', s, sf, go⟩ y
    obtain ⟨m3, hd⟩ := hY i H' x H'' hi (keepL L') y
    obtain ⟨d, hdi, rd⟩ := hd (nn O' F') fun a ha z => by
      rcases z with z | z
      · by_cases ho : a ∈ O
        · exact .inl ho
        · have := (L'.dj a z).2
          rw [loopH_in ho] at this
          rw [this] at ha; cases ha
      · rcases sf a z with z | z
        · exact z
        · by_cases ho : a ∈ O
          · exact .inl ho
          · rw [loopH_in ho] at z
            rw [z] at ha; cases ha
    have hdrop : items.drop i = d :: items.drop (i + 1) := by
      obtain ⟨hl, e⟩ := List.getElem?_eq_some_iff.mp hdi
      rw [List.drop_eq_getElem_cons hl, e]
    rw [hdrop] at go
    obtain ⟨env1, g1, go⟩ := Option.bind_eq_some_iff.mp go
    obtain ⟨fl1, g2, go⟩ := Option.bind_eq_some_iff.mp go
    refine ⟨F', _, env', O', d, env1, L'.mono m3, rd, g1, fun σ2 F2 O2 L2 i2 s2 _ => ?_⟩
    have sf2 : ∀ a, F2 a → nn O F a ∨ loopH O H1 a = none := fun a z => by
      rcases (i2 a).mp (.inr z) with z | z
      · exact .inr (L'.dj a z).2
      · exact sf a z
    refine ⟨F2, _, env1, O2, fl1, L2, g2, ?_⟩
    have st : ∀ a, F a → F2 a := fun a z => s2 a (s a z)
    cases fl1 with
    | nx e2 => exact fun σ3 H3 O3 L3 => ⟨F2, O3, e2, L3, st, sf2, go⟩
    | ct e2 => exact fun σ3 H3 O3 L3 => ⟨F2, O3, e2, L3, st, sf2, go⟩
    | bk e2 =>
      cases go
      exact fun σ3 H3 O3 L3 => h σ3 H3 O3 (L1.unloop (L3.shrink st))
    | rt r =>
      cases go
      intro v H3 m4 rf
      have up : ∀ a u, H0 a = some u → loopH O H1 a = some u := fun a u h => by
        rw [loopH_in fun z => by rw [(L1.dj a z).2] at h; cases h]
        exact L1.sm a u h
      refine h v H3 (fun a u q => m4 a u (up a u q)) ?_
      cases r with
      | d x => exact Rp.sub rf fun a _ z => st a z
      | own xs =>
        obtain ⟨p, vs, e, n, q, ra⟩ := rf
        refine ⟨p, vs, e, ?_, q, ra.sub fun a _ z => z.elim (fun z => .inl (st a z)) .inr⟩
        cases z : H0 p with
        | none => rfl
        | some u => rw [up p u z] at n; cases n
      | bor xs => exact rf
  · rintro σ' H' ⟨F', O', env', L', s, _, go⟩
    rw [List.drop_of_length_le (Nat.le_refl _)] at go
    cases go
    exact h σ' H' O' (L1.unloop (L'.shrink s))
theorem ss_for {tg iter : Expr} {body : List Stmt} {ms : List Nat} {it : Env → Option (List PyData)} {g : G} {f : Env → Option Fl} {pos : Pos} (hp : PassesOwn (model X.prog X.w) X.A X.env X.xe) (hc : X.calm = true) (hi : SI X tg iter true it) (hg : SG X tg ms g) (hb : SB X body f)
    (hs : ∀ x, foldedSetIterable iter X.env x = pure x := by intro _; rfl) : SS X (.For tg iter body [] pos) (sFor it g f) := imS (ps_for hp hc hi hg hb hs) fun D σ H h => for_imp D σ H h
def whileL (c : Env → Option Bool) (body : Env → Option Fl) : Nat → Env → Option Fl
  | 0, _ => none
  | n + 1, env => (c env).bind fun b => if b then (body env).bind fun fl => match fl with
      | .nx e => whileL c body n e
      | .ct e => whileL c body n e
      | .bk e => some (.nx e)
      | .rt r => some (.rt r)
    else some (.nx env)
def sWhile (n : Nat) (c : Env → Option Bool) (body : Env → Option Fl) : Env → Option Fl := whileL c body n
theorem ss_while {c : Expr} {body : List Stmt} {t : Env → Option Bool} {f : Env → Option Fl} {pos : Pos} (n : Nat) (hp : PassesOwn (model X.prog X.w) X.A X.env X.xe) (hc : ST X c t) (hb : SB X body f) : SS X (.While c body [] pos) (sWhile n t f) := imS (ps_while hp hc hb) fun D σ H h => by
  obtain ⟨F, H0, env, O, fl, L, e, h⟩ := h
  refine ⟨fun m σ' H' => ∃ O' env', Rl X.K F H0 env' σ' H' O' ∧ whileL t f m env' = some fl, ⟨n, O, env, L, e⟩, ?_⟩
  rintro m σ' H' ⟨O', env', L', go⟩
  cases m with
  | zero => cases go
  | succ m =>
    obtain ⟨b, g1, go⟩ := Option.bind_eq_some_iff.mp go
    refine oneT L' g1 fun H1 m1 => ?_
    have L1 := L'.mono m1
    cases b with
    | true =>
      refine iteT ?_
      rw [if_pos rfl] at go
      obtain ⟨fl1, g2, go⟩ := Option.bind_eq_some_iff.mp go
      refine ⟨fun σ2 H2 => ∃ O2 env2, Rl X.K F H0 env2 σ2 H2 O2 ∧ whileL t f m env2 = some fl, fun σ2 H2 q => ⟨m, Nat.lt_succ_self m, q⟩, F, H0, env', O', fl1, L1, g2, ?_⟩
      cases fl1 with
      | nx e2 => exact fun σ3 H3 O3 L3 => ⟨O3, e2, L3, go⟩
      | ct e2 => exact fun σ3 H3 O3 L3 => ⟨O3, e2, L3, go⟩
      | bk e2 => cases go; exact h
      | rt r => cases go; exact h
    | false =>
      refine iteF ?_
      rw [if_neg Bool.false_ne_true] at go
      cases go
      exact h σ' H1 O' L1
/-- a slot's own list is its own no more -/
def freeze (i : Nat) (env : Env) : Env := match env[i]? with
  | some (some (.own xs)) => env.set i (some (.d (.list xs)))
  | _ => env
theorem RlS.freezeAt {K : PySem.W.Frag} {N N' : Addr → Prop} {H : Hp} : ∀ {env : Env} {σ : St} {O : List Addr} {i : Nat} {xs : List PyData} {a : Addr}, RlS K N H env σ O → O.Nodup → env[i]? = some (some (.own xs)) → σ[i]? = some (some (.ref a)) → (∀ b, N' b → N b) → ¬ N' a →
    ∃ O', RlS K N' H (env.set i (some (.d (.list xs)))) σ O' ∧ O'.Nodup ∧ (∀ b ∈ O', b ∈ O ∧ b ≠ a)
  | [], _, _, _, _, _, _, _, e, _, _, _ => by simp at e
  | _ :: env, _, _, 0, xs, a, h, nd, e, e2, s, na => by
    cases h with
    | non h1 => simp at e
    | d h1 h2 => simp at e
    | own h1 h2 h3 =>
      simp at e e2
      subst e2
      obtain ⟨n1, n2⟩ := List.nodup_cons.mp nd
      simp only [List.set_cons_zero]
      subst e
      exact ⟨_, .d (.lst ⟨h1, na⟩ (h2.sub fun b _ z => s b z)) (h3.step (sKeep (sRefl H)) (fun b _ z => s b z) fun _ _ _ e => e), n2, fun b hb => ⟨List.mem_cons_of_mem _ hb, fun z => n1 (z ▸ hb)⟩⟩
  | _ :: env, _ :: σ, _, i + 1, xs, a, h, nd, e, e2, s, na => by
    have e' : env[i]? = some (some (.own xs)) := by simpa using e
    simp only [List.set_cons_succ]
    cases h with
    | non h1 =>
      obtain ⟨O', q, n, m⟩ := RlS.freezeAt (i := i) h1 nd e' (by simpa using e2) s na
      exact ⟨O', .non q, n, m⟩
    | d h1 h2 =>
      obtain ⟨O', q, n, m⟩ := RlS.freezeAt (i := i) h2 nd e' (by simpa using e2) s na
      exact ⟨O', .d (h1.sub fun b _ z => s b z) q, n, m⟩
    | own h1 h2 h3 =>
      obtain ⟨n1, n2⟩ := List.nodup_cons.mp nd
      obtain ⟨O', q, n, m⟩ := RlS.freezeAt (i := i) h3 n2 e' (by simpa using e2) s na
      refine ⟨_ :: O', .own h1 (h2.sub fun b _ z => s b z) q, List.nodup_cons.mpr ⟨fun z => n1 (m _ z).1, n⟩, fun b hb => ?_⟩
      rcases List.mem_cons.mp hb with z | z
      · subst z
        refine ⟨List.mem_cons_self, fun z => n1 ?_⟩
        obtain ⟨a2, vs2, q2, m2, _⟩ := RlS.getO h3 e'
        have e3 : σ[i]? = some (some (.ref a)) := by simpa using e2
        rw [e3] at q2
        cases q2
        rw [z]; exact m2
      · exact ⟨List.mem_cons_of_mem _ (m b z).1, (m b z).2⟩
theorem Rl.freezeAt {K : PySem.W.Frag} {F : Addr → Prop} {H H0 : Hp} {env : Env} {σ : St} {O : List Addr} {i : Nat} {xs : List PyData} (L : Rl K F H0 env σ H O) (e : env[i]? = some (some (.own xs))) : ∃ O', Rl K F H0 (env.set i (some (.d (.list xs)))) σ H O' := by
  obtain ⟨a, vs, q, m, ha, ra⟩ := RlS.getO L.sl e
  obtain ⟨O', r, nd, s⟩ := RlS.freezeAt (N' := fun b => nn O F b ∧ b ≠ a) L.sl L.nd e q (fun b z => z.1) fun z => z.2 rfl
  refine ⟨O', r.step (sKeep (sRefl H)) (fun b _ z => ?_) (fun _ _ _ e => e), nd, fun b hb => L.dj b (s b hb).1, L.fd, L.sm⟩
  rcases z with z | z
  · exact ⟨.inl (s b z).1, (s b z).2⟩
  · exact ⟨.inr z, fun y => (L.dj a m).1 (by rw [← y]; exact z)⟩
theorem Rl.freeze {K : PySem.W.Frag} {F : Addr → Prop} {H H0 : Hp} {env : Env} {σ : St} {O : List Addr} (i : Nat) (L : Rl K F H0 env σ H O) : ∃ O', Rl K F H0 (PV.freeze i env) σ H O' := by
  unfold PV.freeze
  split
  · rename_i xs h
    exact L.freezeAt h
  · exact ⟨O, L⟩
/-- ahead of a statement a slot's own list may be given up -/
def sFrz (i : Nat) (f : Env → Option Fl) : Env → Option Fl := fun env => f (freeze i env)
theorem ss_frz (i : Nat) {st : Stmt} {f : Env → Option Fl} (h : SS X st f) : SS X st (sFrz i f) := imS h fun D σ H h => by
  obtain ⟨F, H0, env, O, fl, L, e, h⟩ := h
  obtain ⟨O', L'⟩ := L.freeze i
  exact ⟨F, H0, _, O', fl, L', e, h⟩

/-! ### defs -/
/-- a def's value: np parameters, n names in all -/
def mkF (np n : Nat) (body : Env → Option Fl) : List PyData → Option R := fun ds => if ds.length = np then (body (ds.map (fun d => some (.d d)) ++ List.replicate (n - np) none)).bind fun fl => match fl with
    | .rt r => some r
    | .nx _ => some (.d .none)
    | _ => none
  else none
theorem start_ok {K : PySem.W.Frag} {N : Addr → Prop} {H : Hp} : ∀ {ds : List PyData} {vs : List V} (k : Nat), RpA K N H ds vs → RlS K N H (ds.map (fun d => some (.d d)) ++ List.replicate k none) (vs.map some ++ List.replicate k none) []
  | [], _, k, h => by
    cases h
    simp only [List.map_nil, List.nil_append]
    induction k with
    | zero => exact .nil
    | succ k ih => exact .non ih
  | d :: ds, _, k, h => by
    cases h with
    | cons h1 h2 => exact .d h1 (start_ok k h2)
theorem fn_ok {P : Program} {w : World} {K : PySem.W.Frag} {mg : Str → Option Value} {base : Heap} {x qual : Str} {st : Stmt} {f : Addr} {fd : FuncData} {N ps : List Str} {k np : Nat} {body : Env → Option Fl} (F : L2.Fun K x qual st f fd) (Sc : FnScope N ps (defScope st)) (hp : ps.length = np)
    (hb : ∀ (cdv : Value) (A : Around) (outer : List PySem.Env) (s : Shared) (H : Hp) (E : XK), Room k (A.deeper (PyProof.Rows.envOfC qual (defScope st) s.heap.objs.size f cdv)) → SB (cxOf CX0 P w K mg base N qual (defScope st) f cdv A outer s H E).nox (defBody st) body) : FnOk P w K mg base CX0 (k + 1) f fd ps (spF K np (mkF np N.length body)) := by
  refine F.ok Sc (fun vs H Q E h => by rw [hp]; exact spF_len vs H Q E h) fun cdv A outer s H vs Q E hr h => ?_
  obtain ⟨Fb, ds, r, hl, ra, fd', e, q⟩ := h
  refine ⟨_, hb cdv A outer s H E hr, ?_⟩
  unfold mkF at e
  rw [if_pos hl] at e
  obtain ⟨fl, e1, e⟩ := Option.bind_eq_some_iff.mp e
  have L : Rl K Fb H (ds.map (fun d => some (.d d)) ++ List.replicate (N.length - np) none) (L2.start N vs) H [] := by
    have hv : vs.length = np := by rw [ra.length, hl]
    refine ⟨?_, List.nodup_nil, fun _ z => absurd z (by simp), fd', sRefl H⟩
    unfold L2.start
    rw [hv]
    exact (start_ok _ ra).iff fun a => ⟨.inr, fun z => z.elim (fun z => absurd z (by simp)) id⟩
  refine ⟨Fb, H, _, [], fl, L, e1, ?_⟩
  cases fl with
  | rt r' => cases e; exact fun v H' m rf => q v H' m rf
  | nx e' => cases e; exact fun σ' H' O' L' => q .non H' L'.sm Rp.non
  | bk e' => cases e
  | ct e' => cases e
/-- a promise that is never kept: a recursion's floor -/
theorem fn_zero {P : Program} {w : World} {K : PySem.W.Frag} {mg : Str → Option Value} {base : Heap} {f : Addr} {fd : FuncData} {ps : List Str} {k np : Nat} : FnOk P w K mg base CX0 k f fd ps (spF K np fun _ => none) := by
  have no : ∀ vs H Q E, ¬ spF K np (fun _ => none) vs H Q E := fun vs H Q E h => by
    obtain ⟨_, _, _, _, _, _, e, _⟩ := h
    cases e
  exact ⟨fun vs H Q E h => absurd h (no vs H Q E), fun A outer s H args us vs Q E _ _ _ _ h => absurd h (no vs H Q E)⟩
/-- any value's truth -/
def tru : R → Option Bool
  | .d .none => some false
  | .d (.bool b) => some b
  | .d (.int i) => some (i != 0)
  | .d (.str z) => if z.length ≤ LIM then some ((z.length : Int) != 0) else none
  | r => (sv r).map fun xs => !xs.isEmpty
def tT' (f : Env → Option R) : Env → Option Bool := fun env => (f env).bind tru
theorem isEmpty_rp {K : PySem.W.Frag} {N : Addr → Prop} {H : Hp} {ds : List PyData} {vs : List V} (h : RpA K N H ds vs) : vs.isEmpty = ds.isEmpty := by
  have := h.length
  cases ds with
  | nil => cases h; rfl
  | cons d ds => cases h; rfl
theorem st_truth {e : Expr} {f : Env → Option R} (h : SE X e f) (he : ∀ whole, isTrue e X.env whole = (do let v ← whole; standAt e.pos; holding [v] (truthy v)) := by intro _; rfl) : ST X e (tT' f) :=
  imT (pt_truth h he) fun σ H Q h => by
    obtain ⟨F, H0, env, O, b, L, e, h⟩ := h
    obtain ⟨x, e1, e⟩ := Option.bind_eq_some_iff.mp e
    refine one L e1 fun v H' m rr => ?_
    have sq : ∀ xs, sv x = some xs → b = (!xs.isEmpty) → ∃ k, TruV X.K v H' k ∧ Q k H' := fun xs hx hb => by
      obtain ⟨p, vs, rfl, hp, ra⟩ := rr.seq hx
      refine ⟨b, ?_, h H' m⟩
      rw [hb, ← isEmpty_rp ra]
      rcases hp with hp | hp
      · exact .inl ⟨vs, hp, rfl⟩
      · exact .inr (.inl ⟨vs, hp, rfl⟩)
    unfold tru at e
    split at e
    · cases e
      have rr : Rp X.K (nn O F) H' .none v := rr
      cases rr
      exact ⟨false, rfl, h H' m⟩
    · cases e
      rw [rr.bl]
      exact ⟨_, rfl, h H' m⟩
    · cases e
      rw [rr.int]
      exact ⟨_, rfl, h H' m⟩
    · split at e
      · rename_i hl
        cases e
        rw [rr.str]
        exact ⟨_, ⟨lim_line hl, rfl⟩, h H' m⟩
      · cases e
    · obtain ⟨xs, hx, e⟩ := Option.map_eq_some_iff.mp e
      exact sq xs hx e.symm
end
end PV

/-! PV6: what is walked at once with a count or with another: enumerate, zip -/
namespace PV
open PySem L2 PyProof.Rows

/-- what can be walked: a list, a tuple, a text -/
inductive Src where
  | lst (a : Addr)
  | tup (a : Addr)
  | str (z : Str) (t : Tok)
def Src.val : Src → Value
  | .lst a => .ref a
  | .tup a => .ref a
  | .str z t => .str z t
/-- its iterator stands at the i-th -/
def Src.itr : Src → Heap → Addr → Nat → Prop
  | .lst a, h, it, i => h.IsListIter it a i
  | .tup a, h, it, i => h.IsTupleIter it a i
  | .str z t, h, it, i => h.IsStrIter it (strIterType z) z t i
def Src.obj : Src → Obj
  | .lst a => { cls := .type "list_iterator", data := .fields #[.ref a, .int 0 0] }
  | .tup a => { cls := .type "tuple_iterator", data := .fields #[.ref a, .int 0 0] }
  | .str z t => { cls := .type (strIterType z), data := .fields #[.str z t, .int 0 0] }
def signV (z : Str) : List V := z.cps.toList.map fun c => .str ⟨#[c]⟩
def Src.has (K : PySem.W.Frag) (H : Hp) : Src → List V → Prop
  | .lst a, xs => SqL K H a xs
  | .tup a, xs => SqT K H a xs
  | .str z _, xs => xs = signV z
def Src.fp : Src → Addr → List Addr
  | .lst a, it => [it, a]
  | .tup a, it => [it, a]
  | .str _ _, it => [it]
theorem strIter_ne (z : Str) : strIterType z = "str_ascii_iterator" ∨ strIterType z = "str_iterator" := by
  unfold strIterType
  split
  · exact .inl rfl
  · exact .inr rfl
theorem Src.itr_cls {S : Src} {h : Heap} {it : Addr} {i : Nat} (q : S.itr h it i) : ∃ o, h.get? it = some o ∧ o.cls ≠ .type "list" ∧ o.cls ≠ .type "tuple" ∧ o.cls ≠ .type "enumerate" ∧ o.cls ≠ .type "zip" ∧ ∃ vs, o.data = .fields vs := by
  cases S with
  | lst a => obtain ⟨o, ho, hc, hd⟩ := q; exact ⟨o, ho, by rw [hc]; decide, by rw [hc]; decide, by rw [hc]; decide, by rw [hc]; decide, _, hd⟩
  | tup a => obtain ⟨o, ho, hc, hd⟩ := q; exact ⟨o, ho, by rw [hc]; decide, by rw [hc]; decide, by rw [hc]; decide, by rw [hc]; decide, _, hd⟩
  | str z t =>
    obtain ⟨o, ho, hc, hd⟩ := q
    rcases strIter_ne z with e | e <;> rw [e] at hc <;> exact ⟨o, ho, by rw [hc]; decide, by rw [hc]; decide, by rw [hc]; decide, by rw [hc]; decide, _, hd⟩
theorem Src.itr_at {S : Src} {h h' : Heap} {it : Addr} {i : Nat} (q : S.itr h it i) (k : ∀ o, h.get? it = some o → h'.get? it = some o) : S.itr h' it i := by
  cases S with
  | lst a => obtain ⟨o, ho, r⟩ := q; exact ⟨o, k o ho, r⟩
  | tup a => obtain ⟨o, ho, r⟩ := q; exact ⟨o, k o ho, r⟩
  | str z t => obtain ⟨o, ho, r⟩ := q; exact ⟨o, k o ho, r⟩
theorem vals_back : ∀ {xs : List V} {us : List Value} {j : Nat} {v : Value}, Vals xs us → us[j]? = some v → ∃ x, xs[j]? = some x ∧ RelV x v
  | _, _, _, _, .nil, h => by simp at h
  | _, _, 0, _, .cons r _, h => by simp at h; subst h; exact ⟨_, rfl, r⟩
  | _, _, j + 1, _, .cons _ t, h => by
    obtain ⟨x, q1, q2⟩ := vals_back (j := j) t (by simpa using h)
    exact ⟨x, by simpa using q1, q2⟩
/-- its iterator draws its items -/
theorem Src.ready (S : Src) {X : Cx} {pins : List (Addr × Obj)} {σ : L2.St} {H : Hp} {s : Shared} {it : Addr} {i : Nat} {xs : List V} {A : Around} (hh : A.handled = none) (I : Inv X pins σ H s) (hq : S.has X.K H xs) (hi : S.itr s.heap it i) :
    ∃ P St, Draws X.prog X.w A it (S.fp it) xs.length P St ∧ St i s.heap ∧ (∀ i v, P i v → ∃ x, xs[i]? = some x ∧ RelV x v) ∧ (∀ i h, St i h → S.itr h it i) := by
  obtain ⟨o, ho, n1, n2, n3, n4, _⟩ := Src.itr_cls hi
  cases S with
  | lst a =>
    obtain ⟨its, rv, p, hz⟩ := I.list hq
    obtain ⟨o2, ho2, hc2, _⟩ := id p.isList
    have hne : a ≠ it := fun e => by subst e; rw [ho] at ho2; cases ho2; exact n1 hc2
    have hl := rv.length
    have D := Draws.list (prog := X.prog) (w := X.w) hh it a hne its.toArray
    rw [List.size_toArray, ← hl] at D
    refine ⟨_, _, D, ⟨hi, p.isList⟩, fun j v hv => ?_, fun _ _ st => st.1⟩
    have hv' : its[j]? = some v := by simpa using hv
    exact vals_back rv hv'
  | tup a =>
    obtain ⟨its, rv, p, hz⟩ := I.tuple hq
    obtain ⟨o2, ho2, hc2, n, hd2⟩ := id p
    have hne : a ≠ it := fun e => by subst e; rw [ho] at ho2; cases ho2; exact n2 hc2
    have hl := rv.length
    have D := Draws.tuple (prog := X.prog) (w := X.w) hh it a hne its.toArray
    rw [List.size_toArray, ← hl] at D
    refine ⟨_, _, D, ⟨hi, ⟨o2, ho2, hc2, n, hd2⟩⟩, fun j v hv => ?_, fun _ _ st => st.1⟩
    have hv' : its[j]? = some v := by simpa using hv
    exact vals_back rv hv'
  | str z t =>
    have hq : xs = signV z := hq
    subst hq
    have D := Draws.text (prog := X.prog) (w := X.w) hh it z t
    rw [show z.cps.size = (signV z).length by unfold signV; rw [List.length_map, Array.length_toList]] at D
    refine ⟨_, _, D, hi, fun j v hv => ?_, fun _ _ st => st⟩
    obtain ⟨c, u, hc, rfl⟩ := hv
    refine ⟨.str ⟨#[c]⟩, ?_, u, rfl⟩
    unfold signV
    rw [List.getElem?_map, Array.getElem?_toList, hc]
    rfl

/-! ### enumerate -/
def IteS (K : PySem.W.Frag) (S : Src) : It :=
  ⟨fun i H => ∃ (xs : List V) (x : V), S.has K H xs ∧ xs[i]? = some x, fun i H v H' => ∃ T x, v = .ref T ∧ H T = none ∧ H' = upd H T (.tup [.int (i : Nat), x]) ∧ ∀ xs, S.has K H xs → xs[i]? = some x, fun i H => ∃ xs : List V, S.has K H xs ∧ xs.length = i⟩
theorem Src.inj (S : Src) {X : Cx} {pins : List (Addr × Obj)} {σ : L2.St} {H : Hp} {s : Shared} {xs ys : List V} (I : Inv X pins σ H s) (h1 : S.has X.K H xs) (h2 : S.has X.K H ys) : xs = ys := by
  cases S with
  | lst a => exact I.list_inj h1 h2
  | tup a => exact I.tuple_inj h1 h2
  | str z t =>
    have h1 : xs = signV z := h1
    have h2 : ys = signV z := h2
    rw [h1, h2]
theorem turn_enumS {P : Program} {w : World} {K : PySem.W.Frag} {elts : List Expr} {kk : Nat} {tpos : Pos} (S : Src) (e it : Addr) (hei : e ≠ it) (hef : e ∉ S.fp it) (hif : it ∈ S.fp it) :
    Turn P w K (.Tuple elts kk tpos) (IteS K S) [e, it] e (fun i h => (∃ old, IsEnum h e it ((i : Nat) : Int) old) ∧ S.itr h it i) where
  mem := by simp
  obj := fun i h st b hb => by
    obtain ⟨⟨old, he⟩, hi⟩ := st
    obtain ⟨o, ho, _, _, _, _, vs, hd⟩ := Src.itr_cls hi
    have e' : b = e ∨ b = it := by simpa using hb
    rcases e' with z | z
    · rw [z]; exact ⟨_, he, fun v q => nomatch q⟩
    · rw [z]; exact ⟨o, ho, fun v q => by rw [hd] at q; cases q⟩
  keep := fun i h h' st k => let ⟨⟨old, he⟩, hi⟩ := st; ⟨⟨old, k e (by simp) _ he⟩, Src.itr_at hi fun o q => k it (by simp) o q⟩
  item := by
    intro X hP hw hK hc i pins s σ H E I hf st hg
    subst hP hw hK
    obtain ⟨⟨old, he⟩, hit⟩ := st
    obtain ⟨xs, x, hq, hx⟩ := hg
    have hh : X.A.in1.handled = none := I.ok.hd hc
    obtain ⟨Pv, St, D, st, hP, hS⟩ := S.ready hh I hq hit
    have hel : e < s.heap.objs.size := Heap.lt_size he
    have hil : it < s.heap.objs.size := by obtain ⟨_, q, _⟩ := Src.itr_cls hit; exact Heap.lt_size q
    have hlt : i < xs.length := (List.getElem?_eq_some_iff.mp hx).1
    refine wpAny_pyNext_enum_itemC D he st hlt hei hef fun u h' tk hPu ho st' hT hsz hk => ?_
    obtain ⟨x', hx', ru⟩ := hP i u hPu
    rw [hx] at hx'
    cases hx'
    refine ⟨_, rfl, wpAny_letOwnedTupleGo_enum (s := { s with heap := h', toks := tk + 1 }) ho fun h'' he' sb => ?_⟩
    have hT2 : h''.get? s.heap.objs.size = some { cls := .type "tuple", data := .seq #[.int i tk, u] } := (sb.2 _ (Nat.ne_of_gt hel)).trans hT
    have new : ObjOk X.prog X.w (upd H s.heap.objs.size (.tup [.int (i : Nat), x])) h'' s.heap.objs.size (.tup [.int (i : Nat), x]) :=
      ⟨by show 2 ≤ sizeLine; decide, [.int i tk, u], .cons ⟨_, rfl⟩ (.cons ru .nil), ⟨_, hT2, rfl, _, rfl⟩⟩
    have I1 : Inv X pins σ (upd H s.heap.objs.size (.tup [.int (i : Nat), x])) { s with heap := h'', toks := tk + 1 } :=
      I.turnedNew (ch := [e, it]) (fun b ob hb q => (sb.2 b (fun z => hb (by simp [z]))).trans (hk b ob (fun z => hb (by simp [z])) (fun z => hb (by simp [z])) q)) hf (Nat.le_refl _) new
    refine ⟨.ref s.heap.objs.size, _, I1, rfl, ⟨_, x, rfl, I.hok.fresh (Nat.le_refl _), rfl, fun ys hy => by rw [S.inj I hy hq]; exact hx⟩, ⟨⟨u, ?_⟩, Src.itr_at (hS _ _ st') fun o q => (sb.2 it (Ne.symm hei)).trans q⟩, fun b hb => ?_⟩
    · have e1 : ((i + 1 : Nat) : Int) = (i : Int) + 1 := by omega
      rw [e1]; exact he'
    · have hb' : b < s.heap.objs.size := by
        have e' : b = e ∨ b = it := by simpa using hb
        rcases e' with z | z
        · rw [z]; exact hel
        · rw [z]; exact hil
      rw [upd_ne (Nat.ne_of_lt hb')]
      exact (hf b hb).1
  done := by
    intro X hP hw hK hc i pins s σ H E I hf st hg
    subst hP hw hK
    obtain ⟨⟨old, he⟩, hit⟩ := st
    obtain ⟨xs, hq, hx⟩ := hg
    subst hx
    have hh : X.A.in1.handled = none := I.ok.hd hc
    obtain ⟨Pv, St, D, st, hP, hS⟩ := S.ready hh I hq hit
    obtain ⟨f0, f1, f2, f3, f4, f5⟩ := hf it (by simp)
    exact wpAny_pyNext_enum_endD D he st fun h' eb => ⟨rfl, I.turned (t' := s.toks) (fun b o hb q => eb b o hb q) f0 f1 f3 f4 f5⟩
  self := fun A i s Q E st h => let ⟨⟨_, he⟩, _⟩ := st; wpAny_pyIter_enum he h

set_option maxHeartbeats 4000000 in
theorem meets_enumerate_new1 {v : Value} {o : Obj} {H : Heap → Prop} (B : Begins v o H) :
    Meets (Builtin.«enumerate.__new__» ⟨[.type "enumerate", v], []⟩) (fun _ R s => H s.heap ∧
      R (.ok (.ret (.ref (s.heap.push o).objs.size))) { s with heap := (s.heap.push o).push { cls := .type "enumerate", data := .fields #[.none, .bool false, .ref s.heap.objs.size, rawInt 0, .none, .none] } }) :=
  .of_wp fun prog w A R s h => by
    obtain ⟨hp, g, d, tk, os⟩ := s; obtain ⟨h1, h⟩ := h
    have hsub := sub_enumerate
    have q1 : ∀ {A' : Around} {E : Value → Shared → Prop} {Q : Value → Shared → Prop}, Q (.ref hp.objs.size) ⟨hp.push o, g, d, tk, os⟩ → wpAny (model prog w) A' (pyIter v) Q E ⟨hp, g, d, tk, os⟩ :=
      fun q => B.iter prog w _ _ ⟨hp, g, d, tk, os⟩ _ h1 q
    wp_walk using q1
    refine wpAny_stack_any fun st => wpAny_pure ?_
    split
    · rename_i c _ _ _ _ _
      cases (c == Value.type "enumerate")
      · wp_walk using q1
        exact ⟨_, rfl, h⟩
      · wp_walk using q1
        exact ⟨_, rfl, h⟩
    · wp_walk using q1
      exact ⟨_, rfl, h⟩
theorem enum_begins1 {prog : Program} {w : World} {A : Around} {E : Value → Shared → Prop} {s : Shared} {v : Value} {o : Obj} {H : Heap → Prop} {Q : Value → Shared → Prop} (B : Begins v o H) (h1 : H s.heap)
    (h : ∀ h', IsEnum h' (s.heap.objs.size + 1) s.heap.objs.size 0 .none → h'.get? s.heap.objs.size = some o → h'.objs.size = s.heap.objs.size + 2 →
      (∀ b o, s.heap.get? b = some o → h'.get? b = some o) → Q (.ref (s.heap.objs.size + 1)) { s with heap := h' }) :
    wpAny (model prog w) A (call (.type "enumerate") [v]) Q E s := by
  refine callType_new F.called_enumerate (by decide) (F.typeCall_enumerate_1 _) (F.newCall_enumerate_1 _) (fun obj => F.args_object_init_2 obj _) F.entry_enumerate_new
    (meets_enumerate_new1 B) ⟨h1, ?_⟩
  have hz : (s.heap.push o).objs.size = s.heap.objs.size + 1 := Heap.size_push ..
  show _ ∧ _
  rw [hz]
  have he : IsEnum ((s.heap.push o).push { cls := .type "enumerate", data := .fields #[.none, .bool false, .ref s.heap.objs.size, rawInt 0, .none, .none] }) (s.heap.objs.size + 1) s.heap.objs.size 0 .none := by
    have := Heap.get?_push_size (s.heap.push o) (o := { cls := .type "enumerate", data := .fields #[.none, .bool false, .ref s.heap.objs.size, rawInt 0, .none, .none] }) rfl
    rw [hz] at this; exact this
  refine ⟨⟨_, he, rfl⟩, h _ he (Heap.get?_push_of_some _ (Heap.get?_push_size _ B.free)) (by rw [Heap.size_push, hz]) fun b o x => Heap.get?_push_of_some _ (Heap.get?_push_of_some _ x)⟩

theorem ad_ne {a b : Nat} (h : a ≠ b) : @Ne Addr a b := h
theorem ad_not {a N : Nat} {l : List Addr} {it : Nat} (h : ∀ b ∈ l, @Eq Addr b it ∨ b < N) (h1 : a ≠ it) (h2 : ¬ a < N) : ¬ (@Membership.mem Addr (List Addr) _ l a) := fun z => by
  rcases h a z with y | y
  · exact h1 y
  · exact h2 y
/-- a source, of a value -/
def SrcV (K : PySem.W.Frag) (H : Hp) (v : V) (xs : List V) (go : (Src → Prop)) : Prop :=
  (∃ a, v = .ref a ∧ SqL K H a xs ∧ go (.lst a)) ∨ (∃ a, v = .ref a ∧ SqT K H a xs ∧ go (.tup a)) ∨ (∃ z, v = .str z ∧ xs = signV z ∧ ∀ t, go (.str z t))
/-- its value, how it begins -/
theorem Src.begin {X : Cx} {pins : List (Addr × Obj)} {σ : L2.St} {H : Hp} {s : Shared} {v : V} {u : Value} {xs : List V} {go : Src → Prop} (I : Inv X pins σ H s) (h : SrcV X.K H v xs go) (r : RelV v u) :
    ∃ S : Src, u = S.val ∧ S.has X.K H xs ∧ go S ∧ (∃ HB : Heap → Prop, Begins u S.obj HB ∧ HB s.heap) ∧ (∀ b ∈ S.fp s.heap.objs.size, b ≤ s.heap.objs.size) ∧ (∀ it, ∀ b ∈ S.fp it, b = it ∨ b < s.heap.objs.size) := by
  rcases h with ⟨a, rfl, hq, g⟩ | ⟨a, rfl, hq, g⟩ | ⟨z, rfl, hq, g⟩
  · cases r
    obtain ⟨its, rv, p, hz⟩ := I.list hq
    obtain ⟨o2, ho2, hc2, _⟩ := id p.isList
    have hlt := Heap.lt_size ho2
    refine ⟨.lst a, rfl, hq, g, ⟨_, begins_list a its.toArray, p.isList⟩, fun b hb => ?_, fun it b hb => ?_⟩
    · rcases List.mem_cons.mp hb with e | e
      · rw [e]; exact Nat.le_refl _
      · rw [List.mem_singleton.mp e]; exact Nat.le_of_lt hlt
    · rcases List.mem_cons.mp hb with e | e
      · exact .inl e
      · rw [List.mem_singleton.mp e]; exact .inr hlt
  · cases r
    obtain ⟨its, rv, p, hz⟩ := I.tuple hq
    obtain ⟨o2, ho2, hc2, n, hd2⟩ := id p
    have hlt := Heap.lt_size ho2
    refine ⟨.tup a, rfl, hq, g, ⟨_, begins_tuple a its.toArray, ⟨o2, ho2, hc2, n, hd2⟩⟩, fun b hb => ?_, fun it b hb => ?_⟩
    · rcases List.mem_cons.mp hb with e | e
      · rw [e]; exact Nat.le_refl _
      · rw [List.mem_singleton.mp e]; exact Nat.le_of_lt hlt
    · rcases List.mem_cons.mp hb with e | e
      · exact .inl e
      · rw [List.mem_singleton.mp e]; exact .inr hlt
  · obtain ⟨t, rfl⟩ := r
    exact ⟨.str z t, rfl, hq, g t, ⟨_, begins_text z t, trivial⟩, fun b hb => Nat.le_of_eq (List.mem_singleton.mp hb), fun it b hb => .inl (List.mem_singleton.mp hb)⟩
theorem Src.itr0 {S : Src} {h : Heap} {it : Addr} (e : h.get? it = some S.obj) : S.itr h it 0 := by
  cases S with
  | lst a => exact ⟨_, e, rfl, rfl⟩
  | tup a => exact ⟨_, e, rfl, rfl⟩
  | str z t => exact ⟨_, e, rfl, rfl⟩
def iEnumS (K : PySem.W.Frag) (ta : TA) : TI := fun σ H R => ta σ H fun vs H1 => ∃ v xs, vs = [v] ∧ SrcV K H1 v xs fun S => R (IteS K S) H1
theorem pi_enumS {X : Cx} {e : Expr} {ta : TA} {p pos tpos : Pos} {elts : List Expr} {kk : Nat} (hg : Gl X "enumerate") (hm : X.mg "enumerate" = none) (ha : PA X [e] ta) (hs : starEach [e] X.env = [(false, eval e X.env)] := by rfl) :
    PI X (.Tuple elts kk tpos) (.Call (.Name "enumerate" p) [e] [] pos) (iEnumS X.K ta) := by
  refine ⟨fun pins s σ H R I h => ?_⟩
  refine Call_ (ld_blt I hg hm boot_enumerate (PyProof.Rows.callWith_type1 (thn (ha.run pos pins s σ H _ I h) fun us s1 ⟨vs, H1, I1, r1, q1⟩ => ?_) hs rfl))
  obtain ⟨v, xs, ex, q1⟩ := q1
  subst ex
  cases r1 with
  | cons r rr =>
    cases rr
    obtain ⟨S, rfl, hq, q, ⟨HB, B, hB⟩, _, hfp⟩ := Src.begin I1 q1 r
    refine enum_begins1 B hB fun h' he hit hsz hk => wpAny_pyIter_enum he ?_
    have I2 : Inv X pins σ H1 { s1 with heap := h' } := I1.kept (t' := s1.toks) hk
    have hef : s1.heap.objs.size + 1 ∉ S.fp s1.heap.objs.size := ad_not (hfp _) (by omega) (by omega)
    have hif : s1.heap.objs.size ∈ S.fp s1.heap.objs.size := by cases S <;> simp [Src.fp]
    refine ⟨s1.heap.objs.size + 1, [s1.heap.objs.size + 1, s1.heap.objs.size], _, _, H1, rfl, I2, turn_enumS S (s1.heap.objs.size + 1) s1.heap.objs.size (Nat.succ_ne_self _) hef hif, ⟨⟨.none, he⟩, Src.itr0 hit⟩, fun b hb => ?_, q⟩
    have e' : b = s1.heap.objs.size + 1 ∨ b = s1.heap.objs.size := by simpa using hb
    have hle : s1.heap.objs.size ≤ b := by
      rcases e' with z | z
      · rw [z]; exact Nat.le_add_right _ _
      · rw [z]; exact Nat.le_refl _
    exact I1.fpOk hle (I1.hok.fresh hle)

/-! ### zip of two -/
def ItzS (K : PySem.W.Frag) (S1 S2 : Src) : It :=
  ⟨fun i H => ∃ (xs ys : List V) (x y : V), S1.has K H xs ∧ S2.has K H ys ∧ xs[i]? = some x ∧ ys[i]? = some y,
    fun i H v H' => ∃ T x y, v = .ref T ∧ H T = none ∧ H' = upd H T (.tup [x, y]) ∧ (∀ xs, S1.has K H xs → xs[i]? = some x) ∧ ∀ ys, S2.has K H ys → ys[i]? = some y,
    fun i H => ∃ xs ys : List V, S1.has K H xs ∧ S2.has K H ys ∧ i = min xs.length ys.length⟩
theorem turn_zipS {P : Program} {w : World} {K : PySem.W.Frag} {elts : List Expr} {kk : Nat} {tpos : Pos} (S1 S2 : Src) {z TI TO i1 i2 : Addr} (D : ZipSep2 z TI TO i1 i2 (S1.fp i1) (S2.fp i2)) :
    Turn P w K (.Tuple elts kk tpos) (ItzS K S1 S2) [z, TI, TO, i1, i2] z (fun i h => IsZip h z TI TO .none ∧ IsTupOf2 h TI (.ref i1) (.ref i2) ∧ (∃ x y, IsTupOf2 h TO x y) ∧ S1.itr h i1 i ∧ S2.itr h i2 i) where
  mem := by simp
  obj := fun i h st c hc => by
    obtain ⟨hz, hTI, ⟨x, y, hTO⟩, h1, h2⟩ := st
    obtain ⟨o1, e1, _, _, _, _, vs1, d1⟩ := Src.itr_cls h1
    obtain ⟨o2, e2, _, _, _, _, vs2, d2⟩ := Src.itr_cls h2
    have e' : c = z ∨ c = TI ∨ c = TO ∨ c = i1 ∨ c = i2 := by simpa using hc
    rcases e' with q | q | q | q | q
    · rw [q]; exact ⟨_, hz, fun v q => nomatch q⟩
    · rw [q]; exact ⟨_, hTI, fun v q => nomatch q⟩
    · rw [q]; exact ⟨_, hTO, fun v q => nomatch q⟩
    · rw [q]; exact ⟨o1, e1, fun v q => by rw [d1] at q; cases q⟩
    · rw [q]; exact ⟨o2, e2, fun v q => by rw [d2] at q; cases q⟩
  keep := fun i h h' st k => by
    obtain ⟨hz, hTI, ⟨x, y, hTO⟩, h1, h2⟩ := st
    exact ⟨k z (by simp) _ hz, k TI (by simp) _ hTI, ⟨x, y, k TO (by simp) _ hTO⟩, Src.itr_at h1 fun o q => k i1 (by simp) o q, Src.itr_at h2 fun o q => k i2 (by simp) o q⟩
  item := by
    intro X hP hw hK hc i pins s σ H E I hf st hg
    subst hP hw hK
    obtain ⟨hz, hTI, ⟨x0, y0, hTO⟩, h1, h2⟩ := st
    obtain ⟨xs, ys, x, y, hqx, hqy, hx, hy⟩ := hg
    have hh : X.A.in1.handled = none := I.ok.hd hc
    obtain ⟨P1, St1, D1, st1, hP1, hS1⟩ := S1.ready hh I hqx h1
    obtain ⟨P2, St2, D2, st2, hP2, hS2⟩ := S2.ready hh I hqy h2
    have hzl : z < s.heap.objs.size := Heap.lt_size hz
    have l1 : i1 < s.heap.objs.size := by obtain ⟨_, q, _⟩ := Src.itr_cls h1; exact Heap.lt_size q
    have l2 : i2 < s.heap.objs.size := by obtain ⟨_, q, _⟩ := Src.itr_cls h2; exact Heap.lt_size q
    refine wpAny_pyNext_zipD2_item D D1 D2 hz hTI hTO st1 st2 (List.getElem?_eq_some_iff.mp hx).1 (List.getElem?_eq_some_iff.mp hy).1 fun u u2 h' tk y1 y2 z' TO' st1' st2' hT hsz hk => ?_
    obtain ⟨x', hx', ru⟩ := hP1 i u y1
    rw [hx] at hx'
    cases hx'
    obtain ⟨x', hy', ru2⟩ := hP2 i u2 y2
    rw [hy] at hy'
    cases hy'
    refine ⟨_, rfl, wpAny_letOwnedTupleGo_zip (s := { s with heap := h', toks := tk }) z' fun h'' z'' sb => ?_⟩
    have hT2 : h''.get? s.heap.objs.size = some { cls := .type "tuple", data := .seq #[u, u2] } := (sb.2 _ (Nat.ne_of_gt hzl)).trans hT
    have new : ObjOk X.prog X.w (upd H s.heap.objs.size (.tup [x, y])) h'' s.heap.objs.size (.tup [x, y]) :=
      ⟨by show 2 ≤ sizeLine; decide, [u, u2], .cons ru (.cons ru2 .nil), ⟨_, hT2, rfl, _, rfl⟩⟩
    have I1 : Inv X pins σ (upd H s.heap.objs.size (.tup [x, y])) { s with heap := h'', toks := tk } :=
      I.turnedNew (ch := [z, TI, TO, i1, i2]) (fun c o hb q => (sb.2 c (fun q' => hb (by simp [q']))).trans (hk c o (fun q' => hb (by simp [q'])) (fun q' => hb (by simp [q'])) (fun q' => hb (by simp [q'])) (fun q' => hb (by simp [q'])) q)) hf (Nat.le_refl _) new
    refine ⟨.ref s.heap.objs.size, _, I1, rfl, ⟨_, x, y, rfl, I.hok.fresh (Nat.le_refl _), rfl, fun l hl => by rw [S1.inj I hl hqx]; exact hx, fun l hl => by rw [S2.inj I hl hqy]; exact hy⟩, ⟨z'', ?_, ⟨u, u2, ?_⟩, ?_, ?_⟩, fun c hcm => ?_⟩
    · exact (sb.2 _ D.TIz).trans (hk _ _ D.TIz D.TITO D.TIi1 D.TIi2 hTI)
    · exact (sb.2 _ D.TOz).trans TO'
    · exact Src.itr_at (hS1 _ _ st1') fun o q => (sb.2 _ (Ne.symm D.zi1)).trans q
    · exact Src.itr_at (hS2 _ _ st2') fun o q => (sb.2 _ (Ne.symm D.zi2)).trans q
    · have hlt : c < s.heap.objs.size := by
        have e' : c = z ∨ c = TI ∨ c = TO ∨ c = i1 ∨ c = i2 := by simpa using hcm
        rcases e' with q | q | q | q | q
        · rw [q]; exact hzl
        · rw [q]; exact Heap.lt_size hTI
        · rw [q]; exact Heap.lt_size hTO
        · rw [q]; exact l1
        · rw [q]; exact l2
      rw [upd_ne (Nat.ne_of_lt hlt)]
      exact (hf c hcm).1
  done := by
    intro X hP hw hK hc i pins s σ H E I hf st hg
    subst hP hw hK
    obtain ⟨hz, hTI, ⟨x0, y0, hTO⟩, h1, h2⟩ := st
    obtain ⟨xs, ys, hqx, hqy, hend⟩ := hg
    have hh : X.A.in1.handled = none := I.ok.hd hc
    obtain ⟨P1, St1, D1, st1, hP1, hS1⟩ := S1.ready hh I hqx h1
    obtain ⟨P2, St2, D2, st2, hP2, hS2⟩ := S2.ready hh I hqy h2
    exact wpAny_pyNext_zipD2_end D D1 D2 hz hTI hTO st1 st2 (by omega) (by omega) (by omega) fun h' tk hk => ⟨rfl, I.turnedL (t' := tk) (ch := [z, TI, TO, i1, i2]) (fun c o hb q =>
      hk c o (fun q' => hb (by simp [q'])) (fun q' => hb (by simp [q'])) (fun q' => hb (by simp [q'])) (fun q' => hb (by simp [q'])) q) hf⟩
  self := fun A i s Q E st h => wpAny_pyIter_zip st.1 h
def iZipS (K : PySem.W.Frag) (ta : TA) : TI := fun σ H R => ta σ H fun vs H1 => ∃ v w xs, vs = [v, w] ∧ SrcV K H1 v xs fun S1 => ∃ ys, SrcV K H1 w ys fun S2 => R (ItzS K S1 S2) H1
theorem pi_zipS {X : Cx} {e e2 : Expr} {ta : TA} {p pos tpos : Pos} {elts : List Expr} {kk : Nat} (hg : Gl X "zip") (hm : X.mg "zip" = none) (ha : PA X [e, e2] ta)
    (hs : starEach [e, e2] X.env = (false, eval e X.env) :: starEach [e2] X.env := by rfl) (hpl : (backTo pos (starEach [e2] X.env)).any (·.1) = false := by rfl) :
    PI X (.Tuple elts kk tpos) (.Call (.Name "zip" p) [e, e2] [] pos) (iZipS X.K ta) := by
  refine ⟨fun pins s σ H R I h => ?_⟩
  refine Call_ (ld_blt I hg hm PyProof.Rows.boot_zip (PyProof.Rows.callWith_type1 (thn (ha.run pos pins s σ H _ I h) fun us s1 ⟨vs, H1, I1, r1, q1⟩ => ?_) hs hpl))
  obtain ⟨v, w, xs, ex, q1⟩ := q1
  subst ex
  cases r1 with
  | cons r rr =>
    cases rr with
    | cons r' rr =>
      cases rr
      obtain ⟨S1, rfl, hq, q, ⟨HB, B, hB⟩, hf1, hfp⟩ := Src.begin I1 q1 r
      obtain ⟨ys, q⟩ := q
      obtain ⟨S2, rfl, hq2, q, ⟨HB2, B2, hB2⟩, hf2, hfp2⟩ := Src.begin I1 q r'
      refine zip_begins2 B B2 hB hB2 fun h' hz hTI hTO h1 h2 hsz hk => wpAny_pyIter_zip hz ?_
      have I2 : Inv X pins σ H1 { s1 with heap := h' } := I1.kept (t' := s1.toks) hk
      have sep : ZipSep2 (s1.heap.objs.size + 4) (s1.heap.objs.size + 2) (s1.heap.objs.size + 3) s1.heap.objs.size (s1.heap.objs.size + 1) (S1.fp s1.heap.objs.size) (S2.fp (s1.heap.objs.size + 1)) := by
        have m1 : s1.heap.objs.size ∈ S1.fp s1.heap.objs.size := by cases S1 <;> simp [Src.fp]
        have m2 : s1.heap.objs.size + 1 ∈ S2.fp (s1.heap.objs.size + 1) := by cases S2 <;> simp [Src.fp]
        exact ⟨ad_ne (by omega), ad_ne (by omega), ad_ne (by omega), ad_ne (by omega), m1, ad_not (hfp _) (by omega) (by omega), ad_not (hfp _) (by omega) (by omega), ad_ne (by omega), m2,
          ad_not (hfp2 _) (by omega) (by omega), ad_not (hfp2 _) (by omega) (by omega), ad_not (hfp2 _) (by omega) (by omega), ad_not (hfp _) (by omega) (by omega)⟩
      refine ⟨s1.heap.objs.size + 4, [s1.heap.objs.size + 4, s1.heap.objs.size + 2, s1.heap.objs.size + 3, s1.heap.objs.size, s1.heap.objs.size + 1], _, _, H1, rfl, I2, turn_zipS S1 S2 sep, ⟨hz, hTI, ⟨_, _, hTO⟩, Src.itr0 h1, Src.itr0 h2⟩, fun c hcm => ?_, q⟩
      have e' : c = s1.heap.objs.size + 4 ∨ c = s1.heap.objs.size + 2 ∨ c = s1.heap.objs.size + 3 ∨ c = s1.heap.objs.size ∨ c = s1.heap.objs.size + 1 := by simpa using hcm
      have hle : s1.heap.objs.size ≤ c := by
        rcases e' with z | z | z | z | z <;> rw [z] <;> first | exact Nat.le_add_right _ _ | exact Nat.le_refl _
      exact I1.fpOk hle (I1.hok.fresh hle)
theorem walk_enumS {K : PySem.W.Frag} {S : Src} {xs : List V} : Walk (IteS K S) xs.length (fun H => S.has K H xs) (YPair (fun i => some (.int (i : Nat))) (fun i => xs[i]?)) := by
  refine ⟨fun i _ hi q => ⟨xs, xs[i], q, by simp [hi]⟩, fun _ q => ⟨xs, q, rfl⟩, fun i H v H' _ q y => ?_⟩
  obtain ⟨T, x, h1, h2, h3, h4⟩ := y
  exact ⟨T, .int (i : Nat), x, h1, h2, h3, rfl, h4 xs q⟩
theorem walk_zipS {K : PySem.W.Frag} {S1 S2 : Src} {xs ys : List V} : Walk (ItzS K S1 S2) (min xs.length ys.length) (fun H => S1.has K H xs ∧ S2.has K H ys) (YPair (fun i => xs[i]?) (fun i => ys[i]?)) := by
  refine ⟨fun i _ hi q => ?_, fun _ q => ⟨xs, ys, q.1, q.2, rfl⟩, fun i H v H' _ q y => ?_⟩
  · have h1 : i < xs.length := by omega
    have h2 : i < ys.length := by omega
    exact ⟨xs, ys, xs[i], ys[i], q.1, q.2, by simp [h1], by simp [h2]⟩
  · obtain ⟨T, x, z, h1, h2, h3, h4, h5⟩ := y
    exact ⟨T, x, z, h1, h2, h3, h4 xs q.1, h5 ys q.2⟩
end PV

/-! PV7: data compared, looked for, least and greatest; enumerate, zip, reversed; list(range()), isinstance, chains -/
namespace PV
open PySem L2 PySem.W

abbrev noN : Addr → Prop := fun _ => False
section
variable {K : PySem.W.Frag} {N N' F F' : Addr → Prop} {H H' H0 H1 H2 : Hp} {env : Env} {σ : L2.St} {O : List Addr}
theorem RR.rp {v : V} {r : R} (h : RR K N O H H' v r) : Rp K noN H' (dv r) v := by
  cases r with
  | d x => exact Rp.sub h fun _ _ z => z.elim
  | own xs =>
    obtain ⟨p, vs, rfl, _, q, ra⟩ := h
    exact .lst ⟨q, id⟩ (ra.sub fun _ _ z => z.elim)
  | bor xs =>
    obtain ⟨p, vs, rfl, _, q, ra⟩ := h
    exact .lst ⟨q, id⟩ (ra.sub fun _ _ z => z.elim)
end
section
variable {X : Cx} {pins : List (Addr × Obj)} {σ : L2.St} {H : Hp} {s : Shared} {N : Addr → Prop}
mutual
theorem Rp.rds (I : Inv X pins σ H s) : ∀ (d : PyData) (v : V) (u : Value), d.plain = true → Rp X.K N H d v → RelV v u → ∃ as, Reads s.heap u d as
  | .none, _, _, _, h, r => by
    cases h
    cases r
    exact ⟨_, Reads.none⟩
  | .bool b, _, _, _, h, r => by
    cases h
    cases r
    exact ⟨_, Reads.bool b⟩
  | .int i, _, _, _, h, r => by
    cases h
    obtain ⟨t, rfl⟩ := r
    exact ⟨_, Reads.int i t⟩
  | .str x, _, _, _, h, r => by
    cases h
    obtain ⟨t, rfl⟩ := r
    exact ⟨_, Reads.str x t⟩
  | .list ds, _, _, c, h, r => by
    cases h with
    | lst hs ha =>
      cases r
      obtain ⟨its, rv, ⟨o, n, ho, hc, _, hd⟩, _⟩ := I.list hs.seq
      obtain ⟨as, hr⟩ := RpA.rds I ds _ its (by simpa [PyData.plain] using c) ha rv
      exact ⟨_, Reads.list ho hc hd hr⟩
  | .tuple ds, _, _, c, h, r => by
    cases h with
    | tup hs ha =>
      cases r
      obtain ⟨its, rv, ⟨o, ho, hc, n, hd⟩, _⟩ := I.tuple hs
      obtain ⟨as, hr⟩ := RpA.rds I ds _ its (by simpa [PyData.plain] using c) ha rv
      exact ⟨_, Reads.tuple ho hc hd hr⟩
  | .dict _, _, _, c, _, _ => by simp [PyData.plain] at c
theorem RpA.rds (I : Inv X pins σ H s) : ∀ (ds : List PyData) (vs : List V) (us : List Value), PyData.plainAll ds = true → RpA X.K N H ds vs → Vals vs us → ∃ as, ReadsAll s.heap us ds as
  | [], _, _, _, h, r => by
    cases h
    cases r
    exact ⟨_, ReadsAll.nil⟩
  | d :: ds, _, _, c, h, r => by
    simp only [PyData.plainAll, Bool.and_eq_true] at c
    cases h with
    | cons h1 h2 =>
      cases r with
      | cons r1 r2 =>
        obtain ⟨as, q1⟩ := Rp.rds I d _ _ c.1 h1 r1
        obtain ⟨bs, q2⟩ := RpA.rds I ds _ _ c.2 h2 r2
        exact ⟨_, ReadsAll.cons q1 q2⟩
end
end

/-- plain and not deep -/
def okD (d : PyData) : Bool := d.plain && decide (d.depth ≤ 60)
theorem okD_1 {d : PyData} (h : okD d = true) : d.plain = true := (Bool.and_eq_true_iff.mp h).1
theorem okD_2 {d : PyData} (h : okD d = true) : d.depth ≤ 60 := of_decide_eq_true (Bool.and_eq_true_iff.mp h).2
def okDs (xs : List PyData) : Bool := PyData.plainAll xs && decide (PyData.depthAll xs ≤ 59)
section
variable {X : Cx}
def rD2 (K : PySem.W.Frag) (c : PyData → PyData → Bool) (g : PyData → PyData → Bool) : R2 := fun x y H Q => ∃ d e, Rp K noN H d x ∧ Rp K noN H e y ∧ c d e = true ∧ Q (.bl (g d e)) H
def opD2 (c : PyData → PyData → Bool) (g : PyData → PyData → Bool) (a b : R) : Option R := if c (dv a) (dv b) then some (.d (.bool (g (dv a) (dv b)))) else none
theorem os_D2 {f : Value → Value → Sem Value} {c g : PyData → PyData → Bool} (h : OpR X f (rD2 X.K c g)) : OpS X f (opD2 c g) := ⟨_, h, fun N O H H' x y a b r Q m dm r1 r2 e q => by
  unfold opD2 at e
  split at e
  · rename_i hc
    cases e
    exact ⟨_, _, r1.rp, r2.rp, hc, q _ H' (sRefl H') (Rp.bl _)⟩
  · cases e⟩
def opEq2 : R → R → Option R := opD2 (fun d e => okD d && okD e) PyData.eqv
def opNe2 : R → R → Option R := opD2 (fun d e => okD d && okD e) fun d e => !PyData.eqv d e
theorem min_le60 {d e : PyData} (h : okD d = true) : min d.depth e.depth ≤ 60 := Nat.le_trans (Nat.min_le_left _ _) (okD_2 h)
theorem os_eq2 {k : Nat} (hr : Room k X.A) : OpS X (compareOp .Eq) opEq2 := os_D2 fun pins s σ H x y v u Q I rx ry h => by
  obtain ⟨d, e, hd, he, hc, q⟩ := h
  rw [Bool.and_eq_true] at hc
  obtain ⟨as, r1⟩ := Rp.rds I d x v (okD_1 hc.1) hd rx
  obtain ⟨bs, r2⟩ := Rp.rds I e y u (okD_1 hc.2) he ry
  have hu := hr.units
  have := min_le60 (e := e) hc.1
  exact PySem.SeqAt.eq_plain r1 r2 (okD_1 hc.1) (okD_1 hc.2) (by omega) ⟨.bl _, H, I, rfl, q⟩
theorem os_ne2 {k : Nat} (hr : Room k X.A) : OpS X (compareOp .NotEq) opNe2 := os_D2 fun pins s σ H x y v u Q I rx ry h => by
  obtain ⟨d, e, hd, he, hc, q⟩ := h
  rw [Bool.and_eq_true] at hc
  obtain ⟨as, r1⟩ := Rp.rds I d x v (okD_1 hc.1) hd rx
  obtain ⟨bs, r2⟩ := Rp.rds I e y u (okD_1 hc.2) he ry
  have hu := hr.units
  have := min_le60 (e := e) hc.1
  exact PySem.SeqAt.ne_plain r1 r2 (okD_1 hc.1) (okD_1 hc.2) (by omega) ⟨.bl _, H, I, rfl, q⟩
/-- data that can be ordered -/
def cLt (d e : PyData) : Bool := okD d && okD e && alike d e && !isNon d
theorem notNon {d : PyData} (h : isNon d = false) : d ≠ .none := fun e => by subst e; cases h
def opLt2 (a b : R) : Option R := (opLt a b).or (opD2 cLt (fun d e => dataLt d e) a b)
def opGt2 (a b : R) : Option R := (opGt a b).or (opD2 cLt (fun d e => dataLt e d) a b)
def opLe2 (a b : R) : Option R := (opLe a b).or (opD2 cLt (fun d e => !dataLt e d) a b)
def opGe2 (a b : R) : Option R := (opGe a b).or (opD2 cLt (fun d e => !dataLt d e) a b)
theorem cLt_ok {d e : PyData} (h : cLt d e = true) : okD d = true ∧ okD e = true ∧ alike d e = true ∧ d ≠ .none := by
  unfold cLt at h
  simp only [Bool.and_eq_true, Bool.not_eq_true'] at h
  exact ⟨h.1.1.1, h.1.1.2, h.1.2, notNon h.2⟩
theorem os_lt2 {k : Nat} (hr : Room k X.A) : OpS X (compareOp .Lt) opLt2 := os_lt.or (os_D2 fun pins s σ H x y v u Q I rx ry h => by
  obtain ⟨d, e, hd, he, hc, q⟩ := h
  obtain ⟨c1, c2, c3, c4⟩ := cLt_ok hc
  obtain ⟨as, r1⟩ := Rp.rds I d x v (okD_1 c1) hd rx
  obtain ⟨bs, r2⟩ := Rp.rds I e y u (okD_1 c2) he ry
  have hu := hr.units
  have := min_le60 (e := e) c1
  exact lt_data r1 r2 c3 c4 (by omega) ⟨.bl _, H, I, rfl, q⟩)
theorem os_gt2 {k : Nat} (hr : Room k X.A) : OpS X (compareOp .Gt) opGt2 := os_gt.or (os_D2 fun pins s σ H x y v u Q I rx ry h => by
  obtain ⟨d, e, hd, he, hc, q⟩ := h
  obtain ⟨c1, c2, c3, c4⟩ := cLt_ok hc
  obtain ⟨as, r1⟩ := Rp.rds I d x v (okD_1 c1) hd rx
  obtain ⟨bs, r2⟩ := Rp.rds I e y u (okD_1 c2) he ry
  have hu := hr.units
  have := min_le60 (e := e) c1
  exact gt_data r1 r2 c3 c4 (by omega) ⟨.bl _, H, I, rfl, q⟩)
theorem os_le2 {k : Nat} (hr : Room k X.A) : OpS X (compareOp .LtE) opLe2 := os_le.or (os_D2 fun pins s σ H x y v u Q I rx ry h => by
  obtain ⟨d, e, hd, he, hc, q⟩ := h
  obtain ⟨c1, c2, c3, c4⟩ := cLt_ok hc
  obtain ⟨as, r1⟩ := Rp.rds I d x v (okD_1 c1) hd rx
  obtain ⟨bs, r2⟩ := Rp.rds I e y u (okD_1 c2) he ry
  have hu := hr.units
  have := min_le60 (e := e) c1
  exact le_data r1 r2 c3 c4 (by omega) ⟨.bl _, H, I, rfl, q⟩)
theorem os_ge2 {k : Nat} (hr : Room k X.A) : OpS X (compareOp .GtE) opGe2 := os_ge.or (os_D2 fun pins s σ H x y v u Q I rx ry h => by
  obtain ⟨d, e, hd, he, hc, q⟩ := h
  obtain ⟨c1, c2, c3, c4⟩ := cLt_ok hc
  obtain ⟨as, r1⟩ := Rp.rds I d x v (okD_1 c1) hd rx
  obtain ⟨bs, r2⟩ := Rp.rds I e y u (okD_1 c2) he ry
  have hu := hr.units
  have := min_le60 (e := e) c1
  exact ge_data r1 r2 c3 c4 (by omega) ⟨.bl _, H, I, rfl, q⟩)
/-- in a list, in a tuple -/
def cIn (d e : PyData) : Bool := match e with
  | .list xs => okD d && okDs xs
  | .tuple xs => okD d && okDs xs
  | _ => false
def itemsOf : PyData → List PyData
  | .list xs => xs
  | .tuple xs => xs
  | _ => []
def opIn : R → R → Option R := opD2 cIn fun d e => (itemsOf e).any fun y => PyData.eqv y d
def opNotIn : R → R → Option R := opD2 cIn fun d e => !((itemsOf e).any fun y => PyData.eqv y d)
theorem okDs_1 {xs : List PyData} (h : okDs xs = true) : PyData.plainAll xs = true := (Bool.and_eq_true_iff.mp h).1
theorem okDs_2 {xs : List PyData} (h : okDs xs = true) : PyData.depthAll xs ≤ 59 := of_decide_eq_true (Bool.and_eq_true_iff.mp h).2
theorem os_in {k : Nat} (hr : Room k X.A) : OpS X (compareOp .In) opIn := os_D2 fun pins s σ H x y v u Q I rx ry h => by
  obtain ⟨d, e, hd, he, hc, q⟩ := h
  have hu := hr.units
  unfold cIn at hc
  split at hc
  · rename_i xs
    rw [Bool.and_eq_true] at hc
    obtain ⟨as, r1⟩ := Rp.rds I d x v (okD_1 hc.1) hd rx
    obtain ⟨bs, r2⟩ := Rp.rds I (.list xs) y u (by simpa [PyData.plain] using okDs_1 hc.2) he ry
    have := okDs_2 hc.2
    exact PySem.SeqAt.in_list_data r2 r1 (okDs_1 hc.2) (okD_1 hc.1) (by omega) ⟨.bl _, H, I, rfl, q⟩
  · rename_i xs
    rw [Bool.and_eq_true] at hc
    obtain ⟨as, r1⟩ := Rp.rds I d x v (okD_1 hc.1) hd rx
    obtain ⟨bs, r2⟩ := Rp.rds I (.tuple xs) y u (by simpa [PyData.plain] using okDs_1 hc.2) he ry
    have := okDs_2 hc.2
    exact PySem.SeqAt.in_tuple_data r2 r1 (okDs_1 hc.2) (okD_1 hc.1) (by omega) ⟨.bl _, H, I, rfl, q⟩
  · cases hc
theorem os_notIn {k : Nat} (hr : Room k X.A) : OpS X (compareOp .NotIn) opNotIn := os_D2 fun pins s σ H x y v u Q I rx ry h => by
  obtain ⟨d, e, hd, he, hc, q⟩ := h
  have hu := hr.units
  unfold cIn at hc
  split at hc
  · rename_i xs
    rw [Bool.and_eq_true] at hc
    obtain ⟨as, r1⟩ := Rp.rds I d x v (okD_1 hc.1) hd rx
    obtain ⟨bs, r2⟩ := Rp.rds I (.list xs) y u (by simpa [PyData.plain] using okDs_1 hc.2) he ry
    have := okDs_2 hc.2
    exact PySem.SeqAt.notIn_list_data r2 r1 (okDs_1 hc.2) (okD_1 hc.1) (by omega) ⟨.bl _, H, I, rfl, q⟩
  · rename_i xs
    rw [Bool.and_eq_true] at hc
    obtain ⟨as, r1⟩ := Rp.rds I d x v (okD_1 hc.1) hd rx
    obtain ⟨bs, r2⟩ := Rp.rds I (.tuple xs) y u (by simpa [PyData.plain] using okDs_1 hc.2) he ry
    have := okDs_2 hc.2
    exact PySem.SeqAt.notIn_tuple_data r2 r1 (okDs_1 hc.2) (okD_1 hc.1) (by omega) ⟨.bl _, H, I, rfl, q⟩
  · cases hc
end

/-! ### the least, the greatest -/
mutual
def alikeB : List PyData → Bool
  | [] => true
  | x :: xs => !isNon x && xs.all (fun y => alike x y && alike y x) && alike x x && alikeB xs
end
theorem alikeB_ok : ∀ {xs : List PyData}, alikeB xs = true → AlikeAll xs
  | [], _ => ⟨fun _ h => absurd h (by simp), fun _ h => absurd h (by simp)⟩
  | x :: xs, h => by
    unfold alikeB at h
    simp only [Bool.and_eq_true, Bool.not_eq_true', List.all_eq_true] at h
    obtain ⟨⟨⟨h1, h2⟩, h3⟩, h4⟩ := h
    obtain ⟨i1, i2⟩ := alikeB_ok h4
    refine ⟨fun a ha b hb => ?_, fun a ha => ?_⟩
    · rcases List.mem_cons.mp ha with e | ha'
      · subst e
        rcases List.mem_cons.mp hb with e | hb'
        · subst e; exact h3
        · exact (h2 b hb').1
      · rcases List.mem_cons.mp hb with e | hb'
        · subst e; exact (h2 a ha').2
        · exact i1 a ha' b hb'
    · rcases List.mem_cons.mp ha with e | ha
      · subst e; exact notNon h1
      · exact i2 a ha
def cMin (xs : List PyData) : Bool := okDs xs && alikeB xs
def fMin (a : R) : Option R := (sv a).bind fun xs => match xs with
  | [] => none
  | x :: xs => if cMin (x :: xs) then some (.d (minD x xs)) else none
def fMax (a : R) : Option R := (sv a).bind fun xs => match xs with
  | [] => none
  | x :: xs => if cMin (x :: xs) then some (.d (maxD x xs)) else none
section
variable {X : Cx}
def rBest (K : PySem.W.Frag) (f : PyData → List PyData → PyData) : V → Hp → VK → Prop := fun v H Q => ∃ (N : Addr → Prop) (p : Addr) (vs : List V) (x : PyData) (xs : List PyData), v = .ref p ∧ (SqL K H p vs ∨ SqT K H p vs) ∧ RpA K N H (x :: xs) vs ∧ cMin (x :: xs) = true ∧
  ∀ w H', Same H H' → Rp K N H' (f x xs) w → Q w H'
theorem best_end {pins : List (Addr × Obj)} {σ : L2.St} {H : Hp} {s : Shared} {Q : VK} {N : Addr → Prop} {ds : List PyData} {vs : List V} {its : List Value} {m : PyData} {i : Nat} {v : Value} {h' : Heap} {tk : Nat} {bs : List Addr}
    (I : Inv X pins σ H s) (rv : Vals vs its) (ra : RpA X.K N H ds vs) (hc : PyData.plainAll ds = true) (hi : its.toArray[i]? = some v) (r : Reads h' v m bs) (hk : ∀ b o, s.heap.get? b = some o → h'.get? b = some o)
    (q : ∀ w H', Same H H' → Rp X.K N H' m w → Q w H') : EP X pins σ Q v { s with heap := h', toks := tk } := by
  have hi' : its[i]? = some v := by simpa using hi
  obtain ⟨x, q1, q2⟩ := vals_back rv hi'
  obtain ⟨d, e1, rd⟩ := ra.get' q1
  have hp : d.plain = true := by
    have : ∀ {ds : List PyData} {i : Nat} {d : PyData}, PyData.plainAll ds = true → ds[i]? = some d → d.plain = true := by
      intro ds
      induction ds with
      | nil => intro i d _ e; simp at e
      | cons y ys ih =>
        intro i d c e
        simp only [PyData.plainAll, Bool.and_eq_true] at c
        cases i with
        | zero => simp at e; subst e; exact c.1
        | succ i => exact ih c.2 (by simpa using e)
    exact this hc e1
  obtain ⟨as, r0⟩ := Rp.rds I d x v hp rd q2
  have e2 := PySem.SeqAt.plain_unique d m v as bs hp (PyProof.Rows.Reads.keeps hk r0) r
  subst e2
  have I2 : Inv X pins σ H { s with heap := h', toks := tk } := I.kept hk
  exact ⟨x, H, I2, q2, q x H (sRefl H) rd⟩
theorem call_minD {k : Nat} (hr : Room k X.A) (hcalm : X.calm = true) : CallR X (.builtin "min") (fun vs H Q => ∃ v, vs = [v] ∧ rBest X.K minD v H Q) := by
  intro pins s σ H xs us Q I r h
  obtain ⟨v, rfl, N, p, vs, d, ds, rfl, hp, ra, hc, q⟩ := h
  obtain ⟨u, rfl, r1⟩ := vals1 r
  cases (show u = Value.ref p from r1)
  obtain ⟨c1, c2⟩ := Bool.and_eq_true_iff.mp hc
  have hu := hr.units
  have h59 := okDs_2 c1
  have hh := I.ok.hd hcalm
  rcases hp with hp | hp
  · obtain ⟨its, rv, pl, hz⟩ := I.list hp
    obtain ⟨as, rs⟩ := RpA.rds I (d :: ds) vs its (okDs_1 c1) ra rv
    exact min_list_data hh pl.isList (by simpa using rs) (alikeB_ok c2) (by omega) fun i v h' tk bs hi rm hk => best_end I rv ra (okDs_1 c1) hi rm hk q
  · obtain ⟨its, rv, pl, hz⟩ := I.tuple hp
    obtain ⟨as, rs⟩ := RpA.rds I (d :: ds) vs its (okDs_1 c1) ra rv
    exact min_tuple_data hh pl (by simpa using rs) (alikeB_ok c2) (by omega) fun i v h' tk bs hi rm hk => best_end I rv ra (okDs_1 c1) hi rm hk q
theorem call_maxD {k : Nat} (hr : Room k X.A) (hcalm : X.calm = true) : CallR X (.builtin "max") (fun vs H Q => ∃ v, vs = [v] ∧ rBest X.K maxD v H Q) := by
  intro pins s σ H xs us Q I r h
  obtain ⟨v, rfl, N, p, vs, d, ds, rfl, hp, ra, hc, q⟩ := h
  obtain ⟨u, rfl, r1⟩ := vals1 r
  cases (show u = Value.ref p from r1)
  obtain ⟨c1, c2⟩ := Bool.and_eq_true_iff.mp hc
  have hu := hr.units
  have h59 := okDs_2 c1
  have hh := I.ok.hd hcalm
  rcases hp with hp | hp
  · obtain ⟨its, rv, pl, hz⟩ := I.list hp
    obtain ⟨as, rs⟩ := RpA.rds I (d :: ds) vs its (okDs_1 c1) ra rv
    exact max_list_data hh pl.isList (by simpa using rs) (alikeB_ok c2) (by omega) fun i v h' tk bs hi rm hk => best_end I rv ra (okDs_1 c1) hi rm hk q
  · obtain ⟨its, rv, pl, hz⟩ := I.tuple hp
    obtain ⟨as, rs⟩ := RpA.rds I (d :: ds) vs its (okDs_1 c1) ra rv
    exact max_tuple_data hh pl (by simpa using rs) (alikeB_ok c2) (by omega) fun i v h' tk bs hi rm hk => best_end I rv ra (okDs_1 c1) hi rm hk q
theorem best_imp {f : PyData → List PyData → PyData} (N : Addr → Prop) (O : List Addr) (H H' : Hp) (v : V) (a r : R) (Q : VK) (dm : ∀ p, N p → (H p).isSome = true) (r1 : RR X.K N O H H' v a)
    (e : ((sv a).bind fun xs => match xs with
  | [] => none
  | x :: xs => if cMin (x :: xs) then some (.d (f x xs)) else none) = some r) (q : ∀ v H2, Same H' H2 → RR X.K N O H H2 v r → Q v H2) : rBest X.K f v H' Q := by
  obtain ⟨xs, e1, e⟩ := Option.bind_eq_some_iff.mp e
  cases xs with
  | nil => cases e
  | cons x xs =>
    simp only at e
    split at e
    · rename_i hc
      cases e
      obtain ⟨p, vs, rfl, hp, ra⟩ := r1.seq e1
      exact ⟨N, p, vs, x, xs, rfl, hp, ra, hc, fun w H2 m rp => q w H2 m rp⟩
    · cases e
theorem cs_min {k : Nat} (hr : Room k X.A) (hc : X.calm = true) : CallS X (.builtin "min") (op1 fMin) := calls1 (call_minD hr hc) fun N O H H' v a r Q m dm r1 e q => best_imp N O H H' v a r Q dm r1 e q
theorem cs_max {k : Nat} (hr : Room k X.A) (hc : X.calm = true) : CallS X (.builtin "max") (op1 fMax) := calls1 (call_maxD hr hc) fun N O H H' v a r Q m dm r1 e q => best_imp N O H H' v a r Q dm r1 e q
end
end PV

/-! PV8: enumerate, zip, reversed as what is walked; list(range()); isinstance; chains; slices with a step; tuple * int -/
namespace PV
open PySem L2 PySem.W

/-! ### enumerate, zip -/
section
variable {X : Cx}
theorem signV_map {K : PySem.W.Frag} {N : Addr → Prop} {H : Hp} (z : Str) : RpA K N H (signs z) (signV z) := by
  unfold signs signV
  induction z.cps.toList with
  | nil => exact .nil
  | cons c cs ih => exact .cons (Rp.str _) ih
/-- a result as what is walked: its source -/
theorem RR.src {K : PySem.W.Frag} {F : Addr → Prop} {H H1 : Hp} {O : List Addr} {v : V} {r : R} {s : Bool} {items : List PyData} {L : Addr → Prop} {go : Src → Prop} (lo : LOk L (nn O F) H1) (dm : ∀ a, nn O F a → (H a).isSome = true) (hL : ∀ a vs, H1 a = some (.lst vs) → a ∈ O → s = false → L a)
    (rr : RR K (nn O F) O H H1 v r) (e : itsOf s r = some items) (g : ∀ (S : Src) (vs : List V), S.has K H1 vs → RpA K (nn O F) H1 items vs → (∀ H', (∀ a u, L a → H1 a = some u → H' a = some u) → S.has K H' vs) → go S) : ∃ xs, SrcV K H1 v xs go := by
  have fin : ∀ (p : Addr) (vs : List V), H1 p = some (.lst vs) → L p → RpA K (nn O F) H1 items vs → ∃ xs, SrcV K H1 (.ref p) xs go := fun p vs hp hl ra =>
    ⟨vs, .inl ⟨p, rfl, SqL.of hp, g (.lst p) vs (SqL.of hp) ra fun H' k => SqL.of (k p _ hl hp)⟩⟩
  unfold itsOf at e
  split at e
  · cases s with
    | true => cases e
    | false =>
      obtain ⟨p, vs, rfl, hO, q, ra⟩ := rr
      have e : _ = items := Option.some.inj e
      subst e
      exact fin p vs q (hL p vs q hO rfl) ra
  · cases e
    rename_i z
    rw [rr.str]
    exact ⟨signV z, .inr (.inr ⟨z, rfl, rfl, fun t => g (.str z t) _ rfl (signV_map z) fun H' k => rfl⟩)⟩
  · rename_i hb hs
    cases r with
    | d x =>
      cases x with
      | list ys =>
        cases e
        have rr : Rp K (nn O F) H1 (.list items) v := rr
        cases rr with
        | lst h1 h2 => exact fin _ _ h1.1 (lo _ _ h1.1 (.inl h1.2)) h2
      | tuple ys =>
        cases e
        have rr : Rp K (nn O F) H1 (.tuple items) v := rr
        cases rr with
        | tup h1 h2 => exact ⟨_, .inr (.inl ⟨_, rfl, h1, g (.tup _) _ h1 h2 fun H' k => sqT_keep k h1 lo⟩)⟩
      | dict kvs =>
        cases e
        have rr : Rp K (nn O F) H1 (.dict kvs) v := rr
        cases rr with
        | scr h1 =>
          rename_i a ns
          refine ⟨_, .inl ⟨a, rfl, h1.seq, g (.lst a) (ns.map .int) h1.seq ?_ fun H' k => sqL_keep k h1 lo⟩⟩
          rw [List.map_map]
          exact RpA.ints ns
      | _ => cases e
    | own ys =>
      cases e
      obtain ⟨p, vs, rfl, n, q, ra⟩ := rr
      refine fin p vs q (lo _ _ q (.inl fun z => ?_)) (ra.sub fun _ _ z => .inl z)
      have := dm p z
      rw [n] at this
      cases this
    | bor ys => exact absurd rfl (hb ys)
def enumL : Nat → List PyData → List PyData
  | _, [] => []
  | i, d :: ds => .tuple [.int (i : Nat), d] :: enumL (i + 1) ds
theorem enumL_get : ∀ {ds : List PyData} {k i : Nat} {d : PyData}, ds[i]? = some d → (enumL k ds)[i]? = some (.tuple [.int ((k + i : Nat) : Int), d])
  | [], _, _, _, e => by simp at e
  | x :: ds, k, 0, d, e => by simp at e; subst e; rfl
  | x :: ds, k, i + 1, d, e => by
    have := enumL_get (ds := ds) (k := k + 1) (i := i) (d := d) (by simpa using e)
    show (enumL (k + 1) ds)[i]? = _
    rw [this]
    congr 4
    omega
theorem enumL_length : ∀ (k : Nat) (ds : List PyData), (enumL k ds).length = ds.length
  | _, [] => rfl
  | k, d :: ds => by simp [enumL, enumL_length (k + 1) ds]
theorem enumL_eq (ds : List PyData) : ∀ k, enumL k ds = (ds.zipIdx k).map fun p => .tuple [.int (p.2 : Nat), p.1] := by
  induction ds with
  | nil => intro k; rfl
  | cons d ds ih => intro k; simp [enumL, ih]
def zipL : List PyData → List PyData → List PyData
  | x :: xs, y :: ys => .tuple [x, y] :: zipL xs ys
  | _, _ => []
theorem zipL_length : ∀ (xs ys : List PyData), (zipL xs ys).length = min xs.length ys.length
  | [], ys => by simp [zipL]
  | x :: xs, [] => by simp [zipL]
  | x :: xs, y :: ys => by simp [zipL, zipL_length xs ys]
theorem zipL_get : ∀ {xs ys : List PyData} {i : Nat} {d e : PyData}, xs[i]? = some d → ys[i]? = some e → (zipL xs ys)[i]? = some (.tuple [d, e])
  | [], _, _, _, _, h, _ => by simp at h
  | x :: xs, [], _, _, _, _, h => by simp at h
  | x :: xs, y :: ys, 0, _, _, h, h' => by simp at h h'; subst h h'; rfl
  | x :: xs, y :: ys, i + 1, d, e, h, h' => by
    show (zipL xs ys)[i]? = _
    exact zipL_get (by simpa using h) (by simpa using h')
/-- a walk that gives new pairs -/
theorem it_pair {K : PySem.W.Frag} {L N : Addr → Prop} {H1 : Hp} {J : It} {items : List PyData} {n : Nat} {G : Hp → Prop} {f g : Nat → Option V} (lo : LOk L N H1) (hn : n = items.length) (w : Walk J n G (YPair f g))
    (hG : ∀ H', (∀ a u, L a → H1 a = some u → H' a = some u) → G H') (hi : ∀ i, i < n → ∀ x y, f i = some x → g i = some y → ∃ d e, items[i]? = some (.tuple [d, e]) ∧ Rp K N H1 d x ∧ Rp K N H1 e y) : ItOk K L N H1 J items := by
  subst hn
  refine ⟨G, _, w, hG, fun i H' x H'' hl k y => ?_⟩
  obtain ⟨T, x1, y1, rfl, hT, rfl, e1, e2⟩ := y
  obtain ⟨d, e, hd, r1, r2⟩ := hi i hl x1 y1 e1 e2
  refine ⟨sNew hT, fun N' hN => ⟨_, hd, .tup (.inl (.inl upd_same)) ?_⟩⟩
  have st : ∀ {d : PyData} {v : V}, Rp K N H1 d v → Rp K N' (upd H' T (.tup [x1, y1])) d v := fun {d v} r => (Rp.step (fun b u hb c => k b u (lo b u hb c) hb) hN d v r).mono (sNew hT)
  exact .cons (st r1) (.cons (st r2) .nil)
def iEnum (s : Bool) (f : Env → Option (List R)) : Env → Option (List PyData) := fun env => (f env).bind fun rs => match rs with
  | [r] => (itsOf s r).map (enumL 0)
  | _ => none
theorem locked_false {N : Addr → Prop} {H1 : Hp} {a : Addr} : locked false N H1 a := fun h => by cases h
theorem si_enum {e : Expr} {f : Env → Option (List R)} {p pos tpos : Pos} {elts : List Expr} {kk : Nat} (s : Bool) (hg : Gl X "enumerate") (hm : X.mg "enumerate" = none) (ha : SA X [e] f) (hs : starEach [e] X.env = [(false, eval e X.env)] := by rfl) :
    SI X (.Tuple elts kk tpos) (.Call (.Name "enumerate" p) [e] [] pos) s (iEnum s f) :=
  imI (pi_enumS hg hm ha hs) fun σ H Q h => by
    obtain ⟨F, H0, env, O, items, L, e, h⟩ := h
    obtain ⟨rs, e1, e⟩ := Option.bind_eq_some_iff.mp e
    refine ⟨F, H0, env, O, rs, L, e1, fun vs H1 m ra => ?_⟩
    have rl := RRA.all (sRefl H) (fun _ z => z) ra
    split at e
    · rename_i r
      obtain ⟨its, e2, e⟩ := Option.map_eq_some_iff.mp e
      subst e
      obtain ⟨v, rfl, r1⟩ := rl.c1
      have lo := lok_locked (N := nn O F) (H1 := H1) s
      obtain ⟨xs, hx⟩ := RR.src (go := fun S => Q (IteS X.K S) H1) lo L.dom (fun a vs _ _ hs => by subst hs; exact locked_false) r1 e2 fun S vs hv ra hk => h _ H1 m (it_pair lo (n := vs.length) (by rw [enumL_length, ra.length]) walk_enumS hk fun i hi x y e1 e2 => by
        cases e1
        obtain ⟨d, hd, rd⟩ := ra.get' e2
        exact ⟨_, d, by rw [enumL_get hd, Nat.zero_add], Rp.int _, rd⟩)
      exact ⟨v, xs, rfl, hx⟩
    · cases e
def iZip (s : Bool) (f : Env → Option (List R)) : Env → Option (List PyData) := fun env => (f env).bind fun rs => match rs with
  | [r, q] => (itsOf s r).bind fun xs => (itsOf s q).map fun ys => zipL xs ys
  | _ => none
theorem si_zip {e e2 : Expr} {f : Env → Option (List R)} {p pos tpos : Pos} {elts : List Expr} {kk : Nat} (s : Bool) (hg : Gl X "zip") (hm : X.mg "zip" = none) (ha : SA X [e, e2] f)
    (hs : starEach [e, e2] X.env = (false, eval e X.env) :: starEach [e2] X.env := by rfl) (hpl : (backTo pos (starEach [e2] X.env)).any (·.1) = false := by rfl) :
    SI X (.Tuple elts kk tpos) (.Call (.Name "zip" p) [e, e2] [] pos) s (iZip s f) :=
  imI (pi_zipS hg hm ha hs hpl) fun σ H Q h => by
    obtain ⟨F, H0, env, O, items, L, e, h⟩ := h
    obtain ⟨rs, e1, e⟩ := Option.bind_eq_some_iff.mp e
    refine ⟨F, H0, env, O, rs, L, e1, fun vs H1 m ra => ?_⟩
    have rl := RRA.all (sRefl H) (fun _ z => z) ra
    split at e
    · rename_i r q
      obtain ⟨xs, e2, e⟩ := Option.bind_eq_some_iff.mp e
      obtain ⟨ys, e3, e⟩ := Option.map_eq_some_iff.mp e
      subst e
      obtain ⟨v, w, rfl, r1, r2⟩ := rl.c2
      have lo := lok_locked (N := nn O F) (H1 := H1) s
      have hL : ∀ a (vs : List V), H1 a = some (.lst vs) → a ∈ O → s = false → locked s (nn O F) H1 a := fun a vs _ _ hs => by subst hs; exact locked_false
      have key : ∀ (S1 : Src) (vs : List V), S1.has X.K H1 vs → RpA X.K (nn O F) H1 xs vs → (∀ H', (∀ a u, locked s (nn O F) H1 a → H1 a = some u → H' a = some u) → S1.has X.K H' vs) → ∃ ws, SrcV X.K H1 w ws fun S2 => Q (ItzS X.K S1 S2) H1 := fun S1 vs hv ra hk =>
        RR.src lo L.dom hL r2 e3 fun S2 ws hw rb hk2 => h _ H1 m (it_pair lo (n := min vs.length ws.length) (by rw [zipL_length, ra.length, rb.length]) walk_zipS (fun H' k => ⟨hk H' k, hk2 H' k⟩) fun i hi x y e1 e2 => by
          obtain ⟨d, hd, rd⟩ := ra.get' e1
          obtain ⟨d2, hd2, rd2⟩ := rb.get' e2
          exact ⟨d, d2, zipL_get hd hd2, rd, rd2⟩)
      obtain ⟨us, hus⟩ := RR.src (go := fun S1 => ∃ ws, SrcV X.K H1 w ws fun S2 => Q (ItzS X.K S1 S2) H1) lo L.dom hL r1 e2 key
      exact ⟨v, w, us, rfl, hus⟩
    · cases e
end
end PV

/-! PV9: slices with a step; tuple * int; reversed; list(range()); isinstance; chains -/
namespace PV
open PySem L2 PySem.W PyProof.Rows

/-! ### slices with a step -/
def stIx (n : Nat) (lo hi : Option Int) (c : Int) : List Nat :=
  (List.range (Builtin.Slice.slicePlaces (Builtin.Slice.sliceAdjust lo hi c n).1 (Builtin.Slice.sliceAdjust lo hi c n).2 c)).map fun (k : Nat) => ((Builtin.Slice.sliceAdjust lo hi c n).1 + (k : Int) * c).toNat
def lsIx (n : Nat) (lo hi : Option Int) (c : Int) : List Nat := sliceRange (sliceBounds lo hi (some c) n).1 (sliceBounds lo hi (some c) n).2.1 (sliceBounds lo hi (some c) n).2.2
def picks {α : Type} (xs : List α) (is : List Nat) : List α := is.filterMap fun i => xs[i]?
theorem picks_vals {xs : List V} {us : List Value} (r : Vals xs us) : ∀ is : List Nat, Vals (picks xs is) (picks us is)
  | [] => .nil
  | i :: is => by
    unfold picks
    cases q : xs[i]? with
    | none =>
      have q' : us[i]? = none := by
        rw [List.getElem?_eq_none_iff] at q ⊢
        rw [← r.length]; exact q
      rw [List.filterMap_cons_none q, List.filterMap_cons_none q']
      exact picks_vals r is
    | some d =>
      obtain ⟨v, q', r'⟩ := r.get q
      rw [List.filterMap_cons_some q, List.filterMap_cons_some q']
      exact .cons r' (picks_vals r is)
theorem picks_length {α : Type} (xs : List α) (is : List Nat) : (picks xs is).length ≤ is.length := List.length_filterMap_le ..
section
variable {prog : Program} {w : World} {A : Around} {E : Value → Shared → Prop} {s : Shared}
theorem sliceApplied_step {sl : Addr} {vl vu vs : Value} {lo hi : Option Int} {c : Int} {n : Nat} {Q : Int × Int × Nat → Shared → Prop} (hs : s.heap.IsSliceOf sl vl vu vs) (pl : IsPart vl lo) (pu : IsPart vu hi) (ps : IsPart vs (some c)) (h0 : c ≠ 0)
    (h : Q ((Builtin.Slice.sliceAdjust lo hi c n).1, c, Builtin.Slice.slicePlaces (Builtin.Slice.sliceAdjust lo hi c n).1 (Builtin.Slice.sliceAdjust lo hi c n).2 c) s) : wpAny (model prog w) A (Builtin.Slice.sliceApplied (.ref sl) (pure (n : Int))) Q E s := by
  obtain ⟨os, hos, hcs, hds⟩ := id hs
  unfold Builtin.Slice.sliceApplied Builtin.Slice.sliceFields
  refine wpAny_bind (wpAny_bind (wpAny_field hos hds (x := vl) rfl (wpAny_bind (wpAny_field hos hds (x := vu) rfl (wpAny_bind (wpAny_field hos hds (x := vs) rfl (wpAny_pure ?_)))))))
  refine wpAny_bind (HT.slicePart_ ps ?_)
  show wpAny _ _ (if (c == 0) = true then _ else _) _ _ s
  rw [if_neg (fun q => h0 (eq_of_beq q))]
  refine wpAny_bind (HT.slicePart_ pl (wpAny_bind (HT.slicePart_ pu (wpAny_bind (wpAny_pure ?_)))))
  exact wpAny_pure h
theorem getItem_tuple_step {t sl : Addr} {items : Array Value} {vl vu vs : Value} {lo hi : Option Int} {c : Int} {Q : Value → Shared → Prop} (ht : IsTup s.heap t items) (hs : s.heap.IsSliceOf sl vl vu vs) (pl : IsPart vl lo) (pu : IsPart vu hi) (ps : IsPart vs (some c))
    (h0 : c ≠ 0) (h1 : c ≠ 1) (hl : (stIx items.size lo hi c).length ≤ sizeLine)
    (h : Q (.ref s.heap.objs.size) { s with heap := s.heap.push { cls := .type "tuple", data := .seq (picks items.toList (stIx items.size lo hi c)).toArray } }) : wpAny (model prog w) A (getItem (.ref t) (.ref sl)) Q E s := by
  have htake : sizeOk (.seq (picks items.toList (stIx items.size lo hi c)).toArray) := by
    show (picks items.toList (stIx items.size lo hi c)).toArray.size ≤ sizeLine
    rw [List.size_toArray]
    exact Nat.le_trans (picks_length _ _) hl
  obtain ⟨os, hos, hcs, hds⟩ := id hs
  have hTs : s.TypeIs (.ref sl) "slice" := ⟨os, hos, hcs⟩
  unfold getItem
  try with_reducible refine wpAny_holding ?_
  first | refine wpAny_bind (wpAny_pure ?_) | skip
  refine wpAny_bind (wpAny_sequenceKey ht.typeIs (by decide) ?_)
  refine wpAny_bind (wpAny_callSpecial?_slot (name := Str.ofString "__getitem__") ht.typeIs PyProof.Rows.slot_tuple_getitem
    (wpAny_call_entry PyProof.Rows.slot_tuple_getitem ht.typeIs entry_tuple_getitem ?_ (args_tuple_getitem _ _)))
  show wpAny _ _ (Builtin.Tuple.tupleItemsOf (.ref t) >>= _) _ _ s
  refine wpAny_bind (tupleItemsOf_ ht ?_)
  refine wpAny_bind (wpAny_typeOf hTs ?_)
  rw [if_pos (by decide)]
  refine wpAny_bind (sliceApplied_step hs pl pu ps h0 ?_)
  have hno : ¬ (((Builtin.Slice.sliceAdjust lo hi c items.size).1 == 0 && c == 1 && Builtin.Slice.slicePlaces (Builtin.Slice.sliceAdjust lo hi c items.size).1 (Builtin.Slice.sliceAdjust lo hi c items.size).2 c == items.size) = true) := by
    intro q
    rw [Bool.and_eq_true, Bool.and_eq_true] at q
    exact h1 (eq_of_beq q.1.2)
  show wpAny _ _ (if ((Builtin.Slice.sliceAdjust lo hi c items.size).1 == 0 && c == 1 && Builtin.Slice.slicePlaces (Builtin.Slice.sliceAdjust lo hi c items.size).1 (Builtin.Slice.sliceAdjust lo hi c items.size).2 c == items.size) = true then _ else _) _ _ s
  rw [if_neg hno]
  have e : (List.filterMap (fun (k : Nat) => items[((Builtin.Slice.sliceAdjust lo hi c items.size).1 + (k : Int) * c).toNat]?) (List.range (Builtin.Slice.slicePlaces (Builtin.Slice.sliceAdjust lo hi c items.size).1 (Builtin.Slice.sliceAdjust lo hi c items.size).2 c))).toArray
      = (picks items.toList (stIx items.size lo hi c)).toArray := by
    unfold picks stIx
    rw [List.filterMap_map]
    congr 2
    funext k
    simp
  rw [e]
  first
    | exact wpAny_bind (m := Builtin.Tuple.tupleExact _) (wpAny_newObj_type (wpAny_pure ⟨_, rfl, wpAny_pure h⟩) htake)
    | exact wpAny_bind (m := Builtin.Tuple.tupleExact _) (wpAny_newObj_type (wpAny_bind (wpAny_pure (wpAny_pure ⟨_, rfl, wpAny_pure h⟩))) htake)
    | exact wpAny_bind (wpAny_bind (m := Builtin.Tuple.tupleExact _) (wpAny_newObj_type (wpAny_pure (wpAny_pure ⟨_, rfl, wpAny_pure h⟩)) htake))
    | exact wpAny_bind (wpAny_bind (m := Builtin.Tuple.tupleExact _) (wpAny_newObj_type (wpAny_pure ⟨_, rfl, wpAny_pure h⟩) htake))
end
/-- what a stepped slice of a value is -/
abbrev R3s := V → Option Int → Option Int → Int → Hp → VK → Prop
def StR (X : Cx) (r : R3s) : Prop :=
  ∀ (pins : List (Addr × Obj)) (s : Shared) (σ : L2.St) (H : Hp) (x : V) (v vl vu vs : Value) (lo hi : Option Int) (c : Int) (sl : Addr) (Q : VK), Inv X pins σ H s → RelV x v → s.heap.IsSliceOf sl vl vu vs → IsPart vl lo → IsPart vu hi → IsPart vs (some c) → r x lo hi c H Q →
    ∃ T id, typeLookup (.type T) "__getitem__" = pure (some (.builtin id)) ∧ s.TypeIs v T ∧ wpAny (model X.prog X.w) X.A (getItem v (.ref sl)) (EP X pins σ Q) X.xe s
theorem StR.or {X : Cx} {r r' : R3s} (h : StR X r) (h' : StR X r') : StR X (fun x lo hi c H Q => r x lo hi c H Q ∨ r' x lo hi c H Q) := by
  intro pins s σ H x v vl vu vs lo hi c sl Q I rx hs pl pu ps q
  rcases q with q | q
  · exact h pins s σ H x v vl vu vs lo hi c sl Q I rx hs pl pu ps q
  · exact h' pins s σ H x v vl vu vs lo hi c sl Q I rx hs pl pu ps q
section
variable {X : Cx}
def tSt (r : R3s) (te : TE) (tl th ts : TO) : TE := fun σ H Q => te σ H fun x H1 => tl σ H1 fun l H2 => th σ H2 fun u H3 => ts σ H3 fun c H4 => ∃ k, c = some k ∧ r x l u k H4 Q
theorem pe_stepS {e st : Expr} {lo hi : Option Expr} {te : TE} {tl th ts : TO} {pos p2 : Pos} {r : R3s} (hr : StR X r) (he : PE X e te) (hl : PO X lo tl) (hu : PO X hi th) (hst : PO X (some st) ts) : PE X (.Subscript e (.Slice lo hi (some st) p2) pos) (tSt r te tl th ts) := by
  refine ⟨fun pins s σ H Q I h => ?_⟩
  refine Subscript_ (thn (he.run pins s σ H _ I h) fun v s1 ⟨x, H1, I1, r1, q1⟩ => ?_)
  refine wpAny_Slice (thn (hl.run pins s1 σ H1 _ I1 q1) fun vl s2 ⟨l, H2, I2, pl, q2⟩ => thn (hu.run pins s2 σ H2 _ I2 q2) fun vu s3 ⟨u, H3, I3, pu, q3⟩ => ?_)
  refine thn (hst.run pins s3 σ H3 _ I3 q3) fun vs s4 ⟨c, H4, I4, ps, k, ek, q4⟩ => ?_
  subst ek
  have I5 : Inv X pins σ H4 { s4 with heap := s4.heap.push { cls := .type "slice", data := .fields #[vl, vu, vs] } } := I4.kept (t' := s4.toks) fun b ob q => Heap.get?_push_of_some _ q
  obtain ⟨T, id, hT, ht, hg⟩ := hr pins { s4 with heap := s4.heap.push { cls := .type "slice", data := .fields #[vl, vu, vs] } } σ H4 x v vl vu vs l u k s4.heap.objs.size Q I5 r1 (Heap.IsSliceOf.new ..) pl pu ps q4
  show wpAny (model X.prog X.w) X.A (subscriptTail e (.Slice lo hi (some st) p2) v (.ref s4.heap.objs.size)) (EP X pins σ Q) X.xe { s4 with heap := s4.heap.push { cls := .type "slice", data := .fields #[vl, vu, vs] } }
  exact tail_any (ops := [v, .ref s4.heap.objs.size]) ht hT hg (by with_unfolding_all rfl)
def rStT (K : PySem.W.Frag) : R3s := fun x lo hi c H Q => ∃ a xs, x = .ref a ∧ SqT K H a xs ∧ c ≠ 0 ∧ c ≠ 1 ∧ (stIx xs.length lo hi c).length ≤ sizeLine ∧ ∀ p, H p = none → Q (.ref p) (upd H p (.tup (picks xs (stIx xs.length lo hi c))))
theorem str_tup : StR X (rStT X.K) := by
  intro pins s σ H x v vl vu vs lo hi c sl Q I rx hs pl pu ps h
  obtain ⟨a, xs, rfl, hx, h0, h1, hlim, q⟩ := h
  cases rx
  obtain ⟨its, r, ht, hz⟩ := I.tuple hx
  have hlen : its.toArray.size = xs.length := by rw [List.size_toArray]; exact r.length.symm
  refine ⟨"tuple", _, PyProof.Rows.slot_tuple_getitem.lookup, ht.typeIs, ?_⟩
  refine getItem_tuple_step ht hs pl pu ps h0 h1 (by rw [hlen]; exact hlim) ?_
  rw [hlen]
  refine ⟨.ref s.heap.objs.size, _, I.laid (t' := s.toks) (o := .tup (picks xs (stIx xs.length lo hi c))) (fun b ob q => Heap.get?_push_of_some _ q) (Nat.le_refl _) ?_, rfl, q _ (I.hok.fresh (Nat.le_refl _))⟩
  exact ⟨Nat.le_trans (picks_length _ _) hlim, _, picks_vals r _, IsTup.new _ _⟩
def rStL (K : PySem.W.Frag) : R3s := fun x lo hi c H Q => ∃ a xs, x = .ref a ∧ SqL K H a xs ∧ c ≠ 0 ∧ (lsIx xs.length lo hi c).length ≤ sizeLine ∧ ∀ p, H p = none → Q (.ref p) (upd H p (.lst (picks xs (lsIx xs.length lo hi c))))
theorem slicePick_picks (items : List Value) (lo hi : Option Int) (c : Int) : slicePick items.toArray lo hi (some c) = (picks items (lsIx items.length lo hi c)).toArray := by
  unfold slicePick picks lsIx
  rw [List.size_toArray]
  congr 2
  funext k
  simp
theorem str_lst : StR X (rStL X.K) := by
  intro pins s σ H x v vl vu vs lo hi c sl Q I rx hs pl pu ps h
  obtain ⟨a, xs, rfl, hx, h0, hlim, q⟩ := h
  cases rx
  obtain ⟨its, r, ht, hz⟩ := I.list hx
  have hlen : its.length = xs.length := r.length.symm
  refine ⟨"list", _, PySem.slot_list_getitem.lookup, ht.isList.typeIs, ?_⟩
  refine wpAny_getItem_list_slice ht.isList hs pl pu ps (fun e => h0 (Option.some.inj e)) ?_ (by rw [List.size_toArray]; omega)
  rw [slicePick_picks, hlen]
  refine ⟨.ref s.heap.objs.size, _, I.laid (t' := s.toks) (o := .lst (picks xs (lsIx xs.length lo hi c))) (fun b ob q => Heap.get?_push_of_some _ q) (Nat.le_refl _) ?_, rfl, q _ (I.hok.fresh (Nat.le_refl _))⟩
  exact ⟨Nat.le_trans (picks_length _ _) hlim, _, 0, picks_vals r _, Heap.get?_push_size _ rfl⟩
def strSt (z : Str) (lo hi : Option Int) (c : Int) : Str := ⟨((Builtin.Str.strSliceIndices lo hi c z.length).filterMap (z.cps[·]?)).toArray⟩
def rStS : R3s := fun x lo hi c H Q => ∃ z, x = .str z ∧ c ≠ 0 ∧ c ≠ 1 ∧ (strSt z lo hi c).length ≤ sizeLine ∧ Q (.str (strSt z lo hi c)) H
theorem str_str : StR X rStS := by
  intro pins s σ H x v vl vu vs lo hi c sl Q I rx hs pl pu ps h
  obtain ⟨z, rfl, h0, h1, hz, q⟩ := h
  obtain ⟨t, rfl⟩ := rx
  obtain ⟨os, hos, hcs, hds⟩ := hs
  obtain ⟨l, rfl, rfl⟩ := IsPart.raw pl
  obtain ⟨u, rfl, rfl⟩ := IsPart.raw pu
  obtain ⟨k, rfl, hk⟩ := IsPart.raw ps
  refine ⟨"str", _, F.slot_str_getitem.lookup, typeIs_str _ _ _, ?_⟩
  have e1 : (k.map (·.1)).getD 1 = c := by rw [hk]; rfl
  refine wpAny_getItem_str_slice (l := l) (u := u) (st := k) ⟨os, hos, hcs, hds⟩ (by rw [e1]; exact beq_eq_false_iff_ne.mpr h0) ?_
  unfold sliceMade slicePicked
  rw [e1, if_neg (fun q => by rw [Bool.and_eq_true] at q; exact h1 (eq_of_beq q.1))]
  exact ⟨hz, .str _, H, I.tok _, ⟨_, rfl⟩, q⟩
def opSt (a : R) (lo hi : Option Int) (c : Int) : Option R := if c = 0 ∨ c = 1 then none else match a with
  | .d (.tuple xs) => if (stIx xs.length lo hi c).length ≤ LIM then some (.d (.tuple (picks xs (stIx xs.length lo hi c)))) else none
  | .d (.str z) => if (strSt z lo hi c).length ≤ LIM then some (.d (.str (strSt z lo hi c))) else none
  | a => (lv a).bind fun xs => if (lsIx xs.length lo hi c).length ≤ LIM then some (.own (picks xs (lsIx xs.length lo hi c))) else none
def eSt (f : Env → Option R) (lo hi st : Env → Option (Option Int)) : Env → Option R := fun env => (f env).bind fun a => (lo env).bind fun l => (hi env).bind fun h => (st env).bind fun c => c.bind fun c => opSt a l h c
theorem RpA.pick {K : PySem.W.Frag} {N : Addr → Prop} {H : Hp} {ds : List PyData} {vs : List V} (is : List Nat) (h : RpA K N H ds vs) : RpA K N H (PV.picks ds is) (PV.picks vs is) := RpA.picks is h
theorem se_st {a st : Expr} {lo hi : Option Expr} {f g : Env → Option R} {l u : Env → Option (Option Int)} {p2 pos : Pos} (ha : SE X a f) (hl : SO X lo l) (hu : SO X hi u) (hst : SE X st g) : SE X (.Subscript a (.Slice lo hi (some st) p2) pos) (eSt f l u (pAt g)) :=
  imE (pe_stepS (str_tup.or (str_lst.or str_str)) ha hl hu (so_some hst)) fun σ H Q h => by
    obtain ⟨F, H0, env, O, r, L, e, h⟩ := h
    obtain ⟨x, e1, e⟩ := Option.bind_eq_some_iff.mp e
    obtain ⟨y, e2, e⟩ := Option.bind_eq_some_iff.mp e
    obtain ⟨z, e3, e⟩ := Option.bind_eq_some_iff.mp e
    obtain ⟨w, e4, e⟩ := Option.bind_eq_some_iff.mp e
    obtain ⟨c, ew, ef⟩ := Option.bind_eq_some_iff.mp e
    clear e
    have e := ef
    subst ew
    refine one L e1 fun v H1 m1 r1 => ⟨F, H0, env, O, y, L.mono m1, e2, fun H2 m2 => ⟨F, H0, env, O, z, L.mono (sTr m1 m2), e3, fun H3 m3 => ⟨F, H0, env, O, some c, L.mono (sTr m1 (sTr m2 m3)), e4, fun H4 m4 => ⟨c, rfl, ?_⟩⟩⟩⟩
    have r1 := r1.mono (sTr m2 (sTr m3 m4))
    have m := sTr m1 (sTr m2 (sTr m3 m4))
    unfold opSt at e
    split at e
    · cases e
    rename_i hc
    have h0 : c ≠ 0 := fun z => hc (.inl z)
    have h1 : c ≠ 1 := fun z => hc (.inr z)
    split at e
    · split at e
      · rename_i xs hl
        cases e
        obtain ⟨p, vs, rfl, hp, ra⟩ := r1.tup
        refine .inl ⟨p, vs, rfl, hp, h0, h1, by rw [ra.length]; exact lim_line hl, fun l nl => ?_⟩
        rw [ra.length]
        exact h _ _ (sTr m (sNew nl)) (Rp.tup (.inl (.inl upd_same)) ((ra.pick _).mono (sNew nl)))
      · cases e
    · split at e
      · rename_i hl
        cases e
        exact .inr (.inr ⟨_, r1.str, h0, h1, lim_line hl, h _ H4 m (Rp.str _)⟩)
      · cases e
    · obtain ⟨xs, e5, e⟩ := Option.bind_eq_some_iff.mp e
      split at e
      · rename_i hl
        cases e
        obtain ⟨p, vs, rfl, hp, ra⟩ := r1.lst e5
        refine .inr (.inl ⟨p, vs, rfl, .inl (.inl hp), h0, by rw [ra.length]; exact lim_line hl, fun l nl => ?_⟩)
        rw [ra.length]
        exact h _ _ (sTr m (sNew nl)) ⟨l, _, rfl, sNone m nl, upd_same, (ra.pick _).fresh nl⟩
      · cases e
end
end PV

/-! PV10: tuple * int; reversed; list(range()); isinstance; chains -/
namespace PV
open PySem L2 PySem.W PyProof.Rows

/-! ### tuple * int: none, once -/
theorem tuple_mul0 (l : Addr) (items : Array Value) (n : Nat) (dd : Option Addr) (sl : Array (Option Value)) (x : Int) (u : Tok) (c0 : (decide (x < -(2 ^ 63)) || decide (x ≥ 2 ^ 63)) = false) (c1 : (items.isEmpty || x == 1) = false) (c2 : (decide (x ≤ 0) || items.isEmpty) = true)  :
    Meets (Builtin.«tuple.__mul__» ⟨[.ref l, .int x u], []⟩) (fun _ R s => s.heap.get? l = some { cls := .type "tuple", dict := dd, data := .seq items n, slots := sl } ∧
      R (.ok (.ret (Value.ref s.heap.objs.size))) { s with heap := s.heap.push { cls := Value.type "tuple", data := Data.seq #[] }, toks := s.toks }) :=
  .of_wp fun prog w A R s h => by
    obtain ⟨hp, g, d, tk, os⟩ := s
    obtain ⟨hl, h⟩ := h
    have f1 := AutoSeq1.idx_int
    wp_walk using wpAny_loadPart' hl
    repeat (first
      | (refine wpAny_ite_false (decide_eq_false (by rw [c0]; exact Bool.false_ne_true)) ?_; wp_walk using wpAny_loadPart' hl)
      | (refine wpAny_ite_false (decide_eq_false (by rw [c1]; exact Bool.false_ne_true)) ?_; wp_walk using wpAny_loadPart' hl)
      | (refine wpAny_ite_true (decide_eq_true c2) ?_; wp_walk using wpAny_loadPart' hl))
    exact ⟨_, rfl, h⟩
theorem tuple_mul1 (l : Addr) (items : Array Value) (n : Nat) (dd : Option Addr) (sl : Array (Option Value)) (x : Int) (u : Tok) (c0 : (decide (x < -(2 ^ 63)) || decide (x ≥ 2 ^ 63)) = false) (c1 : (items.isEmpty || x == 1) = true)  :
    Meets (Builtin.«tuple.__mul__» ⟨[.ref l, .int x u], []⟩) (fun _ R s => s.heap.get? l = some { cls := .type "tuple", dict := dd, data := .seq items n, slots := sl } ∧
      R (.ok (.ret (Value.ref l))) { s with heap := s.heap, toks := s.toks }) :=
  .of_wp fun prog w A R s h => by
    obtain ⟨hp, g, d, tk, os⟩ := s
    obtain ⟨hl, h⟩ := h
    have f1 := AutoSeq1.idx_int
    wp_walk using wpAny_loadPart' hl
    repeat (first
      | (refine wpAny_ite_false (decide_eq_false (by rw [c0]; exact Bool.false_ne_true)) ?_; wp_walk using wpAny_loadPart' hl)
      | (refine wpAny_ite_true (decide_eq_true c1) ?_; wp_walk using wpAny_loadPart' hl))
    exact ⟨_, rfl, h⟩
def rRep0 (K : PySem.W.Frag) : R2 := fun x y H Q => ∃ l k xs, x = .ref l ∧ y = .int k ∧ SqT K H l xs ∧ -(2 ^ 62) ≤ k ∧ k < 2 ^ 62 ∧ (((xs = [] ∨ k = 1) ∧ Q (.ref l) H) ∨ (xs ≠ [] ∧ k ≤ 0 ∧ ∀ p, H p = none → Q (.ref p) (upd H p (.tup []))))
section
variable {X : Cx}
theorem op_rep0 : OpR X (binaryOp .Mult) (rRep0 X.K) := by
  intro pins s σ H x y v u Q I rx ry h
  obtain ⟨l, k, xs, rfl, rfl, hT, h1, h2, q⟩ := h
  cases rx
  obtain ⟨t, rfl⟩ := ry
  obtain ⟨its, r, ⟨⟨cls, dd, data, sl⟩, ho, hc, n, hd⟩, hs⟩ := I.tuple hT
  simp only at hc hd
  subst hc hd
  have hle : its.length = xs.length := r.length.symm
  have c0 : (decide (k < -(2 ^ 63)) || decide (k ≥ 2 ^ 63)) = false := by
    rw [decide_eq_false (by omega), decide_eq_false (by omega)] <;> rfl
  rcases q with ⟨e, q⟩ | ⟨hne, hk, q⟩
  · have c1 : (its.toArray.isEmpty || k == 1) = true := by
      rcases e with e | e
      · rw [e] at hle
        rw [List.eq_nil_of_length_eq_zero hle]
        rfl
      · subst e
        simp
    refine wpAny_binaryOp_repeat_ref (T := "tuple") (U := "int") (by decide) ⟨_, ho, rfl⟩ (fun s' => typeIs_int s' k t) noFill_tuple_mul F.fills_int_mul F.slot_int_rmul repeat_tuple F.slot_int_index.lookup
      (call_meets F.slot_int_rmul (typeIs_int s k t) F.entry_int_rmul (F.args_int_rmul_2 _ _) (int_rmul_tuple k t l its.toArray n dd sl)
        ⟨ho, rfl, ⟨_, ho, rfl⟩, call_meets F.slot_tuple_mul ⟨_, ho, rfl⟩ F.entry_tuple_mul (F.args_tuple_mul_2 _ _) (tuple_mul1 l its.toArray n dd sl k t c0 c1) ⟨ho, ?_⟩⟩)
    exact ⟨.ref l, H, I, rfl, q⟩
  · have hn : its ≠ [] := fun e => hne (by
      rw [e] at hle
      exact List.eq_nil_of_length_eq_zero hle.symm)
    have hi : its.toArray.isEmpty = false := by
      cases its with
      | nil => exact absurd rfl hn
      | cons a b => rfl
    have c1 : (its.toArray.isEmpty || k == 1) = false := by
      rw [hi, Bool.false_or]
      exact beq_eq_false_iff_ne.mpr (by omega)
    have c2 : (decide (k ≤ 0) || its.toArray.isEmpty) = true := by
      rw [decide_eq_true hk] <;> rfl
    refine wpAny_binaryOp_repeat_ref (T := "tuple") (U := "int") (by decide) ⟨_, ho, rfl⟩ (fun s' => typeIs_int s' k t) noFill_tuple_mul F.fills_int_mul F.slot_int_rmul repeat_tuple F.slot_int_index.lookup
      (call_meets F.slot_int_rmul (typeIs_int s k t) F.entry_int_rmul (F.args_int_rmul_2 _ _) (int_rmul_tuple k t l its.toArray n dd sl)
        ⟨ho, rfl, ⟨_, ho, rfl⟩, call_meets F.slot_tuple_mul ⟨_, ho, rfl⟩ F.entry_tuple_mul (F.args_tuple_mul_2 _ _) (tuple_mul0 l its.toArray n dd sl k t c0 c1 c2) ⟨ho, ?_⟩⟩)
    refine ⟨.ref s.heap.objs.size, _, I.laid (t' := s.toks) (o := .tup []) (fun b ob q => Heap.get?_push_of_some _ q) (Nat.le_refl _) ?_, rfl, q _ (I.hok.fresh (Nat.le_refl _))⟩
    exact ⟨Nat.zero_le _, _, .nil, IsTup.new _ _⟩
/-- tuple * int -/
def opRepT2 : R → R → Option R
  | .d (.tuple xs), .d (.int k) => if k.natAbs ≤ 1000 ∧ xs.length ≤ 1000 then some (.d (.tuple (List.replicate k.toNat xs).flatten)) else none
  | _, _ => none
theorem os_repT2 : OpS X (binaryOp .Mult) opRepT2 := ⟨_, op_repT.or op_rep0, fun N O H H' x y a b r Q m dm r1 r2 e q => by
  unfold opRepT2 at e
  split at e
  · rename_i xs k
    split at e
    · rename_i hl
      cases e
      obtain ⟨p, vs, rfl, h1, a1⟩ := r1.tup
      by_cases h2 : xs = []
      · subst h2
        cases a1
        have e3 : (List.replicate k.toNat ([] : List PyData)).flatten = [] := by simp
        rw [e3] at q
        exact .inr ⟨p, k, [], rfl, r2.int, h1, by omega, by omega, .inl ⟨.inl rfl, q _ H' (sRefl H') (Rp.tup h1 .nil)⟩⟩
      · have hv : vs ≠ [] := fun z => h2 (by
          have := a1.length
          rw [z] at this
          exact List.eq_nil_of_length_eq_zero this.symm)
        rcases Int.lt_or_le k 2 with hk | hk
        · by_cases hk1 : k = 1
          · subst hk1
            have e3 : (List.replicate (1 : Int).toNat xs).flatten = xs := by simp
            rw [e3] at q
            exact .inr ⟨p, 1, vs, rfl, r2.int, h1, by omega, by omega, .inl ⟨.inr rfl, q _ H' (sRefl H') (Rp.tup h1 a1)⟩⟩
          · have hk0 : k.toNat = 0 := by omega
            rw [hk0] at q
            exact .inr ⟨p, k, vs, rfl, r2.int, h1, by omega, by omega, .inr ⟨hv, by omega, fun l nl => q _ _ (sNew nl) (Rp.tup (.inl (.inl upd_same)) .nil)⟩⟩
        · refine .inl ⟨p, k, vs, rfl, r2.int, h1, hv, hk, by omega, by rw [a1.length]; omega, fun l nl => ?_⟩
          exact q _ _ (sNew nl) (Rp.tup (.inl (.inl upd_same)) ((a1.rep _).mono (sNew nl)))
    · cases e
  · cases e⟩
def opMul2 (a b : R) : Option R := (iOp (· * ·) cMul a b).or ((opRepT2 a b).or (opRepL a b))
theorem os_mul2 : OpS X (binaryOp .Mult) opMul2 := (opsI op_mul fun i j h => cMul_ok h).or (os_repT2.or os_repL)

/-! ### reversed -/
theorem it_rev {K : PySem.W.Frag} {L N : Addr → Prop} {H1 : Hp} {J : It} {xs : List PyData} {vs : List V} {G : Hp → Prop} {Y : Nat → Hp → V → Hp → Prop} (lo : LOk L N H1) (r : RpA K N H1 xs vs) (w : Walk J vs.length G Y)
    (hG : ∀ H', (∀ a u, L a → H1 a = some u → H' a = some u) → G H') (hY : ∀ i H' x H'', i < vs.length → Y i H' x H'' → H'' = H' ∧ vs[vs.length - 1 - i]? = some x) : ItOk K L N H1 J xs.reverse := by
  have hl := r.length
  refine ⟨G, Y, (by rw [List.length_reverse, ← hl]; exact w), hG, fun i H' x H'' hi k y => ?_⟩
  rw [List.length_reverse, ← hl] at hi
  obtain ⟨rfl, hx⟩ := hY _ _ _ _ hi y
  refine ⟨sRefl _, fun N' hN => ?_⟩
  obtain ⟨d, hd, rd⟩ := r.get' hx
  refine ⟨d, ?_, Rp.step (fun b u hb c => k b u (lo b u hb c) hb) hN d x rd⟩
  rw [List.getElem?_reverse (by omega), ← hl]
  exact hd
theorem walk_rt {K : PySem.W.Frag} {a : Addr} {xs : List V} : Walk (RT.ItvT K a xs.length) xs.length (fun H => SqT K H a xs) (fun i H x H' => H' = H ∧ xs[xs.length - 1 - i]? = some x) :=
  ⟨fun i _ hi q => ⟨hi, xs, xs[xs.length - 1 - i]'(by omega), q, by simp [show xs.length - 1 - i < xs.length by omega]⟩, fun _ _ => Nat.le_refl _, fun _ _ _ _ _ q y => ⟨y.1, y.2 xs q⟩⟩
def iRev (s : Bool) (f : Env → Option R) : Env → Option (List PyData) := fun env => (f env).bind fun r => match r with
  | .bor xs => if s then none else some xs.reverse
  | r => (sv r).map List.reverse
theorem si_rev {tg e : Expr} {f : Env → Option R} {p pos : Pos} (s : Bool) (hg : Gl X "reversed") (hm : X.mg "reversed" = none) (he : SE X e f) (hs : starEach [e] X.env = (false, eval e X.env) :: starEach [] X.env := by rfl) : SI X tg (.Call (.Name "reversed" p) [e] [] pos) s (iRev s f) :=
  imI (RT.pi_revA hg hm he hs) fun σ H Q h => by
    obtain ⟨F, H0, env, O, items, L, e, h⟩ := h
    obtain ⟨r, e1, e⟩ := Option.bind_eq_some_iff.mp e
    refine one L e1 fun v H1 m rr => ?_
    have lo := lok_locked (N := nn O F) (H1 := H1) s
    have finL : ∀ (p : Addr) (vs : List V) (xs : List PyData), xs.reverse = items → SqL X.K H1 p vs → (∀ H', (∀ a u, locked s (nn O F) H1 a → H1 a = some u → H' a = some u) → SqL X.K H' p vs) → RpA X.K (nn O F) H1 xs vs → Q (Itv X.K p vs.length) H1 := fun p vs xs ex hp hk ra =>
      h _ H1 m (by rw [← ex]; exact it_rev lo ra walk_rev hk fun i H' x H'' hi y => y)
    split at e
    · rename_i xs
      cases s with
      | true => cases e
      | false =>
        obtain ⟨p, vs, rfl, hO, q, ra⟩ := rr
        exact ⟨p, vs, rfl, .inl ⟨SqL.of q, finL p vs _ (Option.some.inj e) (SqL.of q) (fun H' k => SqL.of (k p _ locked_false q)) ra⟩⟩
    · rename_i hb
      obtain ⟨xs, hx, ex⟩ := Option.map_eq_some_iff.mp e
      clear e
      cases r with
      | d x =>
        cases x with
        | list ys =>
          cases hx
          have rr : Rp X.K (nn O F) H1 (.list xs) v := rr
          cases rr with
          | lst h1 h2 => exact ⟨_, _, rfl, .inl ⟨h1.seq, finL _ _ _ ex h1.seq (fun H' k => SqL.of (k _ _ (lo _ _ h1.1 (.inl h1.2)) h1.1)) h2⟩⟩
        | tuple ys =>
          cases hx
          have rr : Rp X.K (nn O F) H1 (.tuple xs) v := rr
          cases rr with
          | tup h1 h2 => exact ⟨_, _, rfl, .inr ⟨h1, h _ H1 m (by rw [← ex]; exact it_rev lo h2 walk_rt (fun H' k => sqT_keep k h1 lo) fun i H' x H'' hi y => y)⟩⟩
        | dict kvs =>
          cases hx
          have rr : Rp X.K (nn O F) H1 (.dict kvs) v := rr
          cases rr with
          | scr h1 =>
            rename_i a ns
            refine ⟨a, ns.map .int, rfl, .inl ⟨h1.seq, finL _ _ _ ex h1.seq (fun H' k => sqL_keep k h1 lo) ?_⟩⟩
            rw [List.map_map]
            exact RpA.ints ns
        | _ => cases hx
      | own ys =>
        cases hx
        obtain ⟨p, vs, rfl, n, q, ra⟩ := rr
        have hn : ¬ nn O F p := fun z => by
          have := L.dom p z
          rw [n] at this
          cases this
        exact ⟨p, vs, rfl, .inl ⟨SqL.of q, finL p vs _ ex (SqL.of q) (fun H' k => SqL.of (k p _ (lo _ _ q (.inl hn)) q)) (ra.sub fun _ _ z => .inl z)⟩⟩
      | bor ys => exact absurd rfl (hb ys)

/-! ### list(range(..)), tuple(range(..)) -/
def rgOk (a b : Int) : Bool := big62 a && big62 b && Nat.ble (b - a).toNat 16777216
theorem rgOk_ok {a b : Int} (h : rgOk a b = true) : RgOk a b := by
  unfold rgOk at h
  simp only [Bool.and_eq_true, Nat.ble_eq] at h
  have h1 := big62_ok h.1.1
  have h2 := big62_ok h.1.2
  unfold RgOk
  omega
def fLRg : List R → Option R
  | [.d (.int j)] => if rgOk 0 j then some (.own (rngL 0 j.toNat)) else none
  | [.d (.int i), .d (.int j)] => if rgOk i j then some (.own (rngL i (j - i).toNat)) else none
  | _ => none
def fTRg : List R → Option R
  | [.d (.int j)] => if rgOk 0 j then some (.d (.tuple (rngL 0 j.toNat))) else none
  | [.d (.int i), .d (.int j)] => if rgOk i j then some (.d (.tuple (rngL i (j - i).toNat))) else none
  | _ => none
theorem rpA_rg {K : PySem.W.Frag} {N : Addr → Prop} {H : Hp} (i j : Int) : RpA K N H (rngL i (j - i).toNat) (rgV i j) := by
  unfold rngL rgV
  induction (List.range (j - i).toNat) with
  | nil => exact .nil
  | cons k ks ih => exact .cons (Rp.int _) ih
theorem se_lrg1 {a : Expr} {f : Env → Option R} {p pos p2 pos2 : Pos} (hc : X.calm = true) (hg : Gl X "list") (hm : X.mg "list" = none) (hg2 : Gl X "range") (hm2 : X.mg "range" = none) (ha : SE X a f)
    (na : starEach [.Call (.Name "range" p2) [a] [] pos2] X.env = (false, eval (.Call (.Name "range" p2) [a] [] pos2) X.env) :: starEach [] X.env := by rfl) (nb : starEach [a] X.env = (false, eval a X.env) :: starEach [] X.env := by rfl) : SE X (.Call (.Name "list" p) [.Call (.Name "range" p2) [a] [] pos2] [] pos) (bindA fLRg (aCons f aNil)) :=
  imE (pe_listRg hc hg hm (prg_1 hg2 hm2 ha nb) na) fun σ H Q h => by
    obtain ⟨F, H0, env, O, r, L, e, h⟩ := h
    obtain ⟨rs, e1, e⟩ := Option.bind_eq_some_iff.mp e
    obtain ⟨x, e2, e1⟩ := Option.bind_eq_some_iff.mp e1
    cases e1
    unfold fLRg at e
    split at e
    · rename_i j ej
      cases ej
      split at e
      · rename_i hj
        cases e
        refine one L e2 fun v H1 m r1 => ⟨j, r1.int, rgOk_ok hj, fun q nq => h _ _ (sTr m (sNew nq)) ⟨q, _, rfl, sNone m nq, upd_same, ?_⟩⟩
        have := rpA_rg (K := X.K) (N := fun a => nn O F a ∨ a = q) (H := upd H1 q (.lst (rgV 0 j))) 0 j
        rw [Int.sub_zero] at this
        exact this
      · cases e
    · rename_i ej
      cases ej
    · cases e
theorem se_lrg2 {a b : Expr} {f g : Env → Option R} {p pos p2 pos2 : Pos} (hc : X.calm = true) (hg : Gl X "list") (hm : X.mg "list" = none) (hg2 : Gl X "range") (hm2 : X.mg "range" = none) (ha : SE X a f) (hb : SE X b g)
    (na : starEach [.Call (.Name "range" p2) [a, b] [] pos2] X.env = (false, eval (.Call (.Name "range" p2) [a, b] [] pos2) X.env) :: starEach [] X.env := by rfl) (n1 : starEach [a, b] X.env = (false, eval a X.env) :: starEach [b] X.env := by rfl) (nb : starEach [b] X.env = (false, eval b X.env) :: starEach [] X.env := by rfl)
    (hp : (backTo pos2 (starEach [b] X.env)).any (·.1) = false := by rfl) : SE X (.Call (.Name "list" p) [.Call (.Name "range" p2) [a, b] [] pos2] [] pos) (bindA fLRg (aCons f (aCons g aNil))) :=
  imE (pe_listRg hc hg hm (prg_2 hg2 hm2 ha hb n1 nb hp) na) fun σ H Q h => by
    obtain ⟨F, H0, env, O, r, L, e, h⟩ := h
    obtain ⟨rs, e1, e⟩ := Option.bind_eq_some_iff.mp e
    obtain ⟨x, e2, e1⟩ := Option.bind_eq_some_iff.mp e1
    obtain ⟨ys, e3, e1⟩ := Option.map_eq_some_iff.mp e1
    obtain ⟨y, e4, e3⟩ := Option.bind_eq_some_iff.mp e3
    cases e3
    cases e1
    unfold fLRg at e
    split at e
    · rename_i j ej
      cases ej
    · rename_i i j ej
      cases ej
      split at e
      · rename_i hj
        cases e
        refine one L e2 fun v H1 m r1 => one (L.mono m) e4 fun w H2 m2 r2 => ⟨i, j, r1.int, r2.int, rgOk_ok hj, fun q nq => h _ _ (sTr m (sTr m2 (sNew nq))) ⟨q, _, rfl, sNone (sTr m m2) nq, upd_same, rpA_rg i j⟩⟩
      · cases e
    · cases e
theorem se_trg1 {a : Expr} {f : Env → Option R} {p pos p2 pos2 : Pos} (hc : X.calm = true) (hg : Gl X "tuple") (hm : X.mg "tuple" = none) (hg2 : Gl X "range") (hm2 : X.mg "range" = none) (ha : SE X a f)
    (na : starEach [.Call (.Name "range" p2) [a] [] pos2] X.env = (false, eval (.Call (.Name "range" p2) [a] [] pos2) X.env) :: starEach [] X.env := by rfl) (nb : starEach [a] X.env = (false, eval a X.env) :: starEach [] X.env := by rfl) : SE X (.Call (.Name "tuple" p) [.Call (.Name "range" p2) [a] [] pos2] [] pos) (bindA fTRg (aCons f aNil)) :=
  imE (pe_tupRg hc hg hm (prg_1 hg2 hm2 ha nb) na) fun σ H Q h => by
    obtain ⟨F, H0, env, O, r, L, e, h⟩ := h
    obtain ⟨rs, e1, e⟩ := Option.bind_eq_some_iff.mp e
    obtain ⟨x, e2, e1⟩ := Option.bind_eq_some_iff.mp e1
    cases e1
    unfold fTRg at e
    split at e
    · rename_i j ej
      cases ej
      split at e
      · rename_i hj
        cases e
        refine one L e2 fun v H1 m r1 => ⟨j, r1.int, rgOk_ok hj, fun q nq => h _ _ (sTr m (sNew nq)) (Rp.tup (.inl (.inl upd_same)) ?_)⟩
        have := rpA_rg (K := X.K) (N := nn O F) (H := upd H1 q (.tup (rgV 0 j))) 0 j
        rw [Int.sub_zero] at this
        exact this
      · cases e
    · rename_i ej
      cases ej
    · cases e
theorem se_trg2 {a b : Expr} {f g : Env → Option R} {p pos p2 pos2 : Pos} (hc : X.calm = true) (hg : Gl X "tuple") (hm : X.mg "tuple" = none) (hg2 : Gl X "range") (hm2 : X.mg "range" = none) (ha : SE X a f) (hb : SE X b g)
    (na : starEach [.Call (.Name "range" p2) [a, b] [] pos2] X.env = (false, eval (.Call (.Name "range" p2) [a, b] [] pos2) X.env) :: starEach [] X.env := by rfl) (n1 : starEach [a, b] X.env = (false, eval a X.env) :: starEach [b] X.env := by rfl) (nb : starEach [b] X.env = (false, eval b X.env) :: starEach [] X.env := by rfl)
    (hp : (backTo pos2 (starEach [b] X.env)).any (·.1) = false := by rfl) : SE X (.Call (.Name "tuple" p) [.Call (.Name "range" p2) [a, b] [] pos2] [] pos) (bindA fTRg (aCons f (aCons g aNil))) :=
  imE (pe_tupRg hc hg hm (prg_2 hg2 hm2 ha hb n1 nb hp) na) fun σ H Q h => by
    obtain ⟨F, H0, env, O, r, L, e, h⟩ := h
    obtain ⟨rs, e1, e⟩ := Option.bind_eq_some_iff.mp e
    obtain ⟨x, e2, e1⟩ := Option.bind_eq_some_iff.mp e1
    obtain ⟨ys, e3, e1⟩ := Option.map_eq_some_iff.mp e1
    obtain ⟨y, e4, e3⟩ := Option.bind_eq_some_iff.mp e3
    cases e3
    cases e1
    unfold fTRg at e
    split at e
    · rename_i j ej
      cases ej
    · rename_i i j ej
      cases ej
      split at e
      · rename_i hj
        cases e
        refine one L e2 fun v H1 m r1 => one (L.mono m) e4 fun w H2 m2 r2 => ⟨i, j, r1.int, r2.int, rgOk_ok hj, fun q nq => h _ _ (sTr m (sTr m2 (sNew nq))) (Rp.tup (.inl (.inl upd_same)) (rpA_rg i j))⟩
      · cases e
    · cases e

/-! ### isinstance -/
def tyOf : PyData → String
  | .none => "NoneType"
  | .bool _ => "bool"
  | .int _ => "int"
  | .str _ => "str"
  | .list _ => "list"
  | .tuple _ => "tuple"
  | .dict _ => "list"
/-- isinstance(d, T), T one of int, bool, str, tuple, list -/
def isT (T : String) (r : R) : Option R := (kitB (tyOf (dv r)) T).map fun b => .d (.bool b)
theorem tyX_tup {K : PySem.W.Frag} {H : Hp} {a : Addr} {vs : List V} (h : SqT K H a vs) : TyX K H (.ref a) (.type "tuple") := by
  rcases h with (h | ⟨o, h⟩) | ⟨o, its, n, h, c, _⟩
  · exact .base (.tup h)
  · exact .fTuple h
  · exact .kTuple h c
theorem tyX_lst {K : PySem.W.Frag} {H : Hp} {a : Addr} {vs : List V} (h : SqL K H a vs) : TyX K H (.ref a) (.type "list") := by
  rcases h with (h | ⟨o, h⟩) | ⟨o, its, n, h, c, _⟩
  · exact .base (.lst h)
  · exact .base (.frz h)
  · exact .kList h c
theorem tyX_of {K : PySem.W.Frag} {N : Addr → Prop} {H : Hp} {d : PyData} {v : V} (r : Rp K N H d v) : TyX K H v (.type (tyOf d)) := by
  cases r with
  | non => exact .base .non
  | bl b => exact .base (.bl b)
  | int i => exact .base (.int i)
  | str x => exact .base (.str x)
  | lst h1 h2 => exact tyX_lst h1.seq
  | scr h1 => exact tyX_lst h1.seq
  | tup h1 h2 => exact tyX_tup h1
theorem se_isi {T : Str} {T' : String} {a : Expr} {f : Env → Option R} {p p2 pos : Pos} (hg : Gl X "isinstance") (hm : X.mg "isinstance" = none) (hgT : Gl X T) (hmT : X.mg T = none) (hvT : bootBuiltins T = some (.type T')) (ha : SE X a f)
    (hnT : T ≠ "__name__" := by decide) (hdT : (T == ("__debug__" : Str)) = false := by decide)
    (he : starEach [a, .Name T p2] X.env = (false, eval a X.env) :: starEach [.Name T p2] X.env := by rfl) (he2 : starEach [.Name T p2] X.env = (false, eval (.Name T p2) X.env) :: starEach [] X.env := by rfl) (hpl : (backTo pos (starEach [.Name T p2] X.env)).any (·.1) = false := by rfl) :
    SE X (.Call (.Name "isinstance" p) [a, .Name T p2] [] pos) (bind1 (isT T') f) :=
  imE (pe_callB call_isi hg hm (by decide +kernel) (pa_cons ha (pa_cons (pe_bltn (v := .ty T') hgT hmT hvT rfl hnT hdT) pa_nil he2) he) (by decide) (by decide) he hpl) fun σ H Q h => by
    obtain ⟨F, H0, env, O, r, L, e, h⟩ := h
    obtain ⟨x, e1, e⟩ := Option.bind_eq_some_iff.mp e
    obtain ⟨b, eb, e⟩ := Option.map_eq_some_iff.mp e
    subst e
    exact one L e1 fun v H' m r1 => ⟨v, .ty T', .type (tyOf (dv x)), .type T', b, rfl, .ty T', tyX_of r1.rp, kit_ty eb, h _ H' m (Rp.bl b)⟩

/-! ### two comparisons in a chain -/
theorem se_chain {op op' : CmpOp} {f g : R → R → Option R} {a b c : Expr} {ta tb tc : Env → Option R} {pos : Pos} (ho : OpS X (compareOp op) f) (ho' : OpS X (compareOp op') g) (ha : SE X a ta) (hb : SE X b tb) (hc : SE X c tc)
    (hm : lastMarks [op, op'] [b, c] = false := by with_unfolding_all rfl) : SE X (.Compare a [op, op'] [b, c] pos) (eChain f g ta tb tc) := by
  obtain ⟨r1, h1, k1⟩ := ho
  obtain ⟨r2, h2, k2⟩ := ho'
  refine imE (pe_chain h1 h2 ha hb hc hm) fun σ H Q h => ?_
  obtain ⟨F, H0, env, O, r, L, e, h⟩ := h
  obtain ⟨x, e1, e⟩ := Option.bind_eq_some_iff.mp e
  obtain ⟨y, e2, e⟩ := Option.bind_eq_some_iff.mp e
  obtain ⟨z, e3, e⟩ := Option.bind_eq_some_iff.mp e
  refine two L e1 e2 fun v w H2 m rx ry => k1 _ O H H2 v w x y z _ m L.dom rx ry e3 fun u H3 m3 rz => ?_
  split at e
  · rename_i hz
    rw [isB_some hz] at rz
    obtain ⟨t, e4, e⟩ := Option.bind_eq_some_iff.mp e
    refine ⟨true, rz.bl, iteT (one (L.mono (sTr m m3)) e4 fun t H4 m4 rt => ?_)⟩
    exact k2 _ O H H4 w t y _ r _ (sTr m (sTr m3 m4)) L.dom (ry.mono (sTr m3 m4)) (rt.back (sTr m m3)) e fun u H5 m5 r5 => h u H5 (sTr m (sTr m3 (sTr m4 m5))) r5
  · rename_i hz
    cases e
    rw [isB_some hz] at rz
    exact ⟨false, rz.bl, iteF (h _ H3 (sTr m m3) (Rp.bl false))⟩
  · cases e
theorem st_chain {op op' : CmpOp} {f g : R → R → Option R} {a b c : Expr} {ta tb' tc : Env → Option R} {pos : Pos} (ho : OpS X (compareOp op) f) (ho' : OpS X (compareOp op') g) (ha : SE X a ta) (hb : SE X b tb') (hc : SE X c tc)
    (hm : lastMarks [op, op'] [b, c] = false := by with_unfolding_all rfl) : ST X (.Compare a [op, op'] [b, c] pos) (tb (eChain f g ta tb' tc)) := by
  obtain ⟨r1, h1, k1⟩ := ho
  obtain ⟨r2, h2, k2⟩ := ho'
  refine imT (pt_chain h1 h2 ha hb hc hm) fun σ H Q h => ?_
  obtain ⟨F, H0, env, O, bb, L, e, h⟩ := h
  obtain ⟨r, e, eb⟩ := Option.bind_eq_some_iff.mp e
  rw [isB_some eb] at e
  obtain ⟨x, e1, e⟩ := Option.bind_eq_some_iff.mp e
  obtain ⟨y, e2, e⟩ := Option.bind_eq_some_iff.mp e
  obtain ⟨z, e3, e⟩ := Option.bind_eq_some_iff.mp e
  refine two L e1 e2 fun v w H2 m rx ry => k1 _ O H H2 v w x y z _ m L.dom rx ry e3 fun u H3 m3 rz => ?_
  split at e
  · rename_i hz
    rw [isB_some hz] at rz
    obtain ⟨t, e4, e⟩ := Option.bind_eq_some_iff.mp e
    refine ⟨true, rz.bl, iteT (one (L.mono (sTr m m3)) e4 fun t H4 m4 rt => ?_)⟩
    exact k2 _ O H H4 w t y _ _ _ (sTr m (sTr m3 m4)) L.dom (ry.mono (sTr m3 m4)) (rt.back (sTr m m3)) e fun u H5 m5 r5 => ⟨bb, r5.bl, h H5 (sTr m (sTr m3 (sTr m4 m5)))⟩
  · rename_i hz
    cases e
    rw [isB_some hz] at rz
    exact ⟨false, rz.bl, iteF ⟨false, rfl, h H3 (sTr m m3)⟩⟩
  · cases e
end
end PV

/-! PV11: a law's defs together -/
namespace PV
open PySem L2 PySem.W PyProof.Rows

/-- a def that the top has written -/
def TF (K : PySem.W.Frag) (mg : Str → Option Value) (x : Str) (st : Stmt) (ps : List Str) : Prop :=
  ∃ f fd, L2.Fun K x x st f fd ∧ Binds K fd ps [] ∧ mg x = some (.ref f) ∧ ∀ us : List Value, us.length = ps.length → bindArgs fd ⟨us, []⟩ = pure (ps.zip us)
/-- a def whose value is F of its arguments -/
def Has (P : Program) (w : World) (K : PySem.W.Frag) (mg : Str → Option Value) (k : Nat) (x : Str) (ps : List Str) (np : Nat) (F : List PyData → Option R) : Prop :=
  ∃ f fd, mg x = some (.ref f) ∧ PySem.W.keepIn K (.ref f) = true ∧ Binds K fd ps [] ∧ (∀ us : List Value, us.length = ps.length → bindArgs fd ⟨us, []⟩ = pure (ps.zip us)) ∧ ∀ base, FnOk P w K mg base CX0 k f fd ps (spF K np F)
section
variable {P : Program} {w : World} {K : PySem.W.Frag} {mg : Str → Option Value}
theorem fnH {x : Str} {st : Stmt} {N ps : List Str} {k np : Nat} {body : Env → Option Fl} (t : TF K mg x st ps) (Sc : FnScope N ps (defScope st)) (hp : ps.length = np)
    (hb : ∀ (base : Heap) (f : Addr) (cdv : Value) (A : Around) (outer : List PySem.Env) (s : Shared) (H : Hp) (E : XK), Room k (A.deeper (PyProof.Rows.envOfC x (defScope st) s.heap.objs.size f cdv)) → SB (cxOf CX0 P w K mg base N x (defScope st) f cdv A outer s H E).nox (defBody st) body) : Has P w K mg (k + 1) x ps np (mkF np N.length body) := by
  obtain ⟨f, fd, F, B, G, h⟩ := t
  exact ⟨f, fd, G, F.kp, B, h, fun base => fn_ok F Sc hp (hb base f)⟩
theorem hasZero {x : Str} {st : Stmt} {ps : List Str} {k np : Nat} (t : TF K mg x st ps) : Has P w K mg k x ps np fun _ => none := by
  obtain ⟨f, fd, F, B, G, h⟩ := t
  exact ⟨f, fd, G, F.kp, B, h, fun base => fn_zero⟩
theorem tf_mk {h : Heap} {x : Str} {st : Stmt} {ps : List Str} {f : Addr} {oc : Value} {od an : Option Addr} {osl : Array (Option Value)} {kV doc pm cdv ct : Value} (X : K.In h) (G : h.Ns mainGlobals mg) (a : PySem.W.nsIn K mainGlobals x = some (some (.ref f)))
    (l : K.lookup f = some ⟨oc, od, .func (PySem.W.fnOf x x (defArgs st) (defBody st) (defScope st) .none kV doc pm an cdv ct), osl⟩) (c : PySem.W.codeIn K cdv x = true) (k : PySem.W.keepIn K (.ref f) = true)
    (hb : ∀ (kV doc pm : Value) (an : Option Addr) (cdv ct : Value) (us : List Value), us.length = ps.length → bindArgs (PySem.W.fnOf x x (defArgs st) (defBody st) (defScope st) .none kV doc pm an cdv ct) ⟨us, []⟩ = pure (ps.zip us)) : TF K mg x st ps := by
  have F := fun_mk (st := st) l c k
  exact ⟨f, _, F, F.binds hb, PySem.W.mg_of X G a, fun us => hb kV doc pm an cdv ct us⟩
theorem law_has {P : Program} {k : Nat} {F : List PyData → Option R} {fa : Addr} (hfa : mg "law" = some (.ref fa)) (h : Has P w K mg k "law" ["script"] 1 F) :
    ∃ fd : FuncData, (∀ (s : Shared) (u : Value), BindsTo s fd ⟨[u], []⟩ [("script", u)]) ∧ ∀ base : Heap, K.In base → base.Ns mainGlobals mg → FnOk P w K mg base CX0 k fa fd ["script"] (spF K 1 F) := by
  obtain ⟨f, fd, hm, _, _, hb, G⟩ := h
  have e := hm.symm.trans hfa
  cases e
  exact ⟨fd, fun s u => .of_eq (hb [u] rfl), fun base _ _ => G base⟩
end
section
variable {X : Cx}
theorem se_callH {k : Nat} {ps : List Str} {np : Nat} {Fn : List PyData → Option R} {x : Str} {p pos : Pos} {e : Expr} {es : List Expr} {fa : Env → Option (List R)}
    (h : Has X.prog X.w X.K X.mg k x ps np Fn) (hr : Room k X.A) (hg : Gl X x) (ha : SA X (e :: es) fa)
    (hdb : (x == ("__debug__" : Str)) = false := by decide) (he : starEach (e :: es) X.env = (false, eval e X.env) :: starEach es X.env := by rfl) (hpl : (backTo pos (starEach es X.env)).any (·.1) = false := by rfl) :
    SE X (.Call (.Name x p) (e :: es) [] pos) (eCall np Fn fa) := by
  obtain ⟨f, fd, hm, hk, hb, _, G⟩ := h
  exact se_call (G X.base) hr hg hm hk hb ha hdb he hpl
end
/-- the script as the law's one argument -/
theorem script_ok {K : PySem.W.Frag} {F : List PyData → Option R} (h : ∀ ns : List Int, ns.length ≤ 63 → F [.dict (ns.map scrI)] = some (.d (.bool true))) {H : Hp} {a : Addr} {ns : List Int} (hl : ns.length ≤ 63) (ho : Only H) (hS : SqL K H a (ns.map V.int)) : spF K 1 F [.ref a] H (fun v _ => v = .bl true) fun _ _ _ => False := by
  refine ⟨fun _ => False, [.dict (ns.map scrI)], _, rfl, .cons (.scr ?_) .nil, fun _ z => z.elim, h ns hl, fun v H' m r => ?_⟩
  · rcases hS with hS | hS
    · exact .inl ⟨hS, id⟩
    · exact .inr (.inr hS)
  · have r : Rp K (fun _ => False) H' (.bool true) v := r
    cases r
    rfl
end PV

/-! PV12: comprehensions with two for -/
namespace PV
open PySem L2 PySem.W

def lc2Go (tg : G) (tt : Env → Option Bool) (it1 : Env → Option (List PyData)) (own1 : List Nat) (tg1 : G) (tt1 : Env → Option Bool) (te : Env → Option R) (env : Env) : List PyData → Option (List PyData)
  | [] => some []
  | d :: ds => (tg d env).bind fun env1 => (tt env1).bind fun b => if b then (it1 env1).bind fun items1 => (lcGo tg1 tt1 te (wipeE env1 own1) items1).bind fun xs => (lc2Go tg tt it1 own1 tg1 tt1 te env ds).map (xs ++ ·) else lc2Go tg tt it1 own1 tg1 tt1 te env ds
def eLc2 (it : Env → Option (List PyData)) (own : List Nat) (tg : G) (tt : Env → Option Bool) (it1 : Env → Option (List PyData)) (own1 : List Nat) (tg1 : G) (tt1 : Env → Option Bool) (te : Env → Option R) : Env → Option R := fun env =>
  (it env).bind fun items => (lc2Go tg tt it1 own1 tg1 tt1 te (wipeE env own) items).bind fun out => if out.length ≤ LIM then some (.own out) else none
/-- the new list, as far as it is made: acc, at D -/
def AccAt (K : PySem.W.Frag) (N : Addr → Prop) (D : Addr) (acc : List PyData) (H : Hp) : Prop := ∃ vs, H D = some (.lst vs) ∧ RpA K (fun a => N a ∨ a = D) H acc vs
theorem lc2_imp {K : PySem.W.Frag} {it : Env → Option (List PyData)} {own own1 ms ms1 : List Nat} {tg tg1 : G} {tt tt1 : Env → Option Bool} {it1 : Env → Option (List PyData)} {te : Env → Option R} (hms : ∀ i ∈ ms, i ∈ own) (hms1 : ∀ i ∈ ms1, i ∈ own1) (σ : St) (H : Hp) (Q : VK) (h : tE K (eLc2 it own tg tt it1 own1 tg1 tt1 te) σ H Q) :
    tLc2 (tI K false it) (tG K ms tg) (tT K tt) (tI K true it1) (tG K ms1 tg1) (tT K tt1) (tE K te) own own1 σ H Q := by
  obtain ⟨F, H0, env, O, r, L, e, h⟩ := h
  obtain ⟨items, e1, e⟩ := Option.bind_eq_some_iff.mp e
  obtain ⟨out, e2, e⟩ := Option.bind_eq_some_iff.mp e
  split at e
  · rename_i hlim
    cases e
    refine ⟨F, H0, env, O, items, L, e1, fun J H1 m ok D hD => ?_⟩
    obtain ⟨Gp, Y, w, hG, hY⟩ := ok
    have L1 := L.mono m
    obtain ⟨O1, F1, Lw, i1, s1⟩ := Rl.wipe own L1
    -- at turn i: acc is made
    let Pv : Nat → Hp → Prop := fun i H => ∃ acc rest, lc2Go tg tt it1 own1 tg1 tt1 te (wipeE env own) (items.drop i) = some rest ∧ out = acc ++ rest ∧ Same H1 H ∧ AccAt K (nn O F) D acc H
    refine ⟨fun i m H => m = items.length - i ∧ i ≤ items.length ∧ Pv i H, ⟨items.length, rfl, Nat.zero_le _, [], out, e2, rfl, sNew hD, [], upd_same, .nil⟩, ?_⟩
    rintro i mm H2 ⟨rfl, hi, p⟩
    by_cases hlt : i < items.length
    · have hp := p
      obtain ⟨acc, rest, go, eo, m2, vs, hDv, ra⟩ := p
      refine .inr ⟨w.goes i H2 hlt (hG H2 fun a u _ hu => m2 a u hu), Pv (i + 1), fun H' p' => ⟨items.length - (i + 1), by omega, rfl, hlt, p'⟩, fun x H3 y => ?_⟩
      have y := w.yields i H2 x H3 hlt (hG H2 fun a u _ hu => m2 a u hu) y
      obtain ⟨m3, hd⟩ := hY i H2 x H3 hlt (fun a u _ hu => m2 a u hu) y
      have m13 := sTr m2 m3
      have L3 := Lw.ext (p := D) hD m13 (some_of (m3 D _ hDv))
      have i3 : ∀ a, nn O1 (fun a => F1 a ∨ a = D) a ↔ (nn O F a ∨ a = D) := fun a => by
        constructor
        · rintro (z | z | z)
          · exact .inl ((i1 a).mp (.inl z))
          · exact .inl ((i1 a).mp (.inr z))
          · exact .inr z
        · rintro (z | z)
          · rcases (i1 a).mpr z with z | z
            · exact .inl z
            · exact .inr (.inl z)
          · exact .inr (.inr z)
      obtain ⟨d, hdi, rd⟩ := hd (nn O1 fun a => F1 a ∨ a = D) fun a ha z => by
        rcases (i3 a).mp z with z | z
        · exact z
        · rw [z, hD] at ha; cases ha
      have hdrop : items.drop i = d :: items.drop (i + 1) := by
        obtain ⟨hl, e⟩ := List.getElem?_eq_some_iff.mp hdi
        rw [List.drop_eq_getElem_cons hl, e]
      rw [hdrop] at go
      obtain ⟨env1, g1, go⟩ := Option.bind_eq_some_iff.mp go
      obtain ⟨b, g2, go⟩ := Option.bind_eq_some_iff.mp go
      refine ⟨_, H0, _, O1, d, env1, L3, rd, g1, fun σ2 F2 O2 M2 i2 s2 ag => ?_⟩
      refine ⟨(ag.mono hms).wipe.trans wipe_twice, ?_⟩
      refine oneT M2 g2 fun H4 m4 => ?_
      cases b with
      | false =>
        exact iteF ⟨acc, rest, go, eo, sTr m13 m4, vs, m4 D _ (m3 D _ hDv), ra.mono (sTr m3 m4)⟩
      | true =>
        refine iteT ?_
        rw [if_pos rfl] at go
        obtain ⟨items1, g3, go⟩ := Option.bind_eq_some_iff.mp go
        obtain ⟨xs, g4, go⟩ := Option.bind_eq_some_iff.mp go
        obtain ⟨rest', g5, go⟩ := Option.map_eq_some_iff.mp go
        -- the second walk
        refine ⟨F2, H0, env1, O2, items1, M2.mono m4, g3, fun J1 H5 m5 ok1 => ?_⟩
        obtain ⟨Gp1, Y1, w1, hG1, hY1⟩ := ok1
        have NS : ∀ a, nn O2 F2 a ↔ (nn O F a ∨ a = D) := fun a => (i2 a).trans (i3 a)
        have L5 := (M2.mono m4).mono m5
        have m35 := sTr m4 m5
        have hD5 : H5 D = some (.lst vs) := m35 D _ (m3 D _ hDv)
        obtain ⟨O5, F5, Lw5, i5, s5⟩ := Rl.wipe own1 L5
        -- what stands at H5, but D's list, stands
        let Keeps : Hp → Prop := fun H => ∀ a u, a ≠ D → H5 a = some u → H a = some u
        have keepL : ∀ {H : Hp}, Keeps H → ∀ a u, locked true (nn O2 F2) H5 a → H5 a = some u → H a = some u := fun k a u hl hu => k a u (fun e => by
          subst e
          rcases hl rfl with z | z
          · exact z ((NS a).mpr (.inr rfl))
          · exact z _ hD5) hu
        let Pw : Nat → Hp → Prop := fun j H => ∃ ac rs, lcGo tg1 tt1 te (wipeE env1 own1) (items1.drop j) = some rs ∧ xs = ac ++ rs ∧ Keeps H ∧ AccAt K (nn O F) D (acc ++ ac) H
        -- a state in the second walk, for the slots
        have Lat : ∀ {H : Hp}, Keeps H → (∃ ws, H D = some (.lst ws)) → Rl K F5 H0 (wipeE env1 own1) (L2.wipe σ2 own1) H O5 := fun {H} k hw => by
          refine ⟨Lw5.sl.step (fun a u hu c => ?_) Sub.refl (fun a ha u hu => ?_), Lw5.nd, Lw5.dj, fun a ha => ?_, fun a u hu => ?_⟩
          · by_cases ha : a = D
            · subst ha
              rw [hD5] at hu
              cases hu
              rcases c with c | c
              · exact absurd ((i5 a).mpr ((NS a).mpr (.inr rfl))) c
              · exact absurd rfl (c vs)
            · exact k a u ha hu
          · refine k a u (fun e => ?_) hu
            subst e
            have := (Lw5.dj a ha).1
            rcases (i5 a).mpr ((NS a).mpr (.inr rfl)) with z | z
            · -- D is no slot's own list: it was new
              have q := (Lw5.dj a z).2
              have := L3.fd a (.inr rfl)
              have h3 : ¬ (a ∈ O1) := fun z1 => (L3.dj a z1).1 (.inr rfl)
              have hF2 : F2 a := s2 a (.inr rfl)
              exact absurd (s5 a hF2) (Lw5.dj a z).1
            · exact absurd z this
          · by_cases he : a = D
            · subst he
              obtain ⟨ws, e⟩ := hw
              rw [e]; rfl
            · have := Lw5.fd a ha
              obtain ⟨u, hu⟩ := Option.isSome_iff_exists.mp this
              rw [k a u he hu]; rfl
          · refine k a u (fun e => ?_) (Lw5.sm a u hu)
            subst e
            have : H1 a = some u := L1.sm a u hu
            rw [hD] at this
            cases this
        refine ⟨fun j k H => k = items1.length - j ∧ j ≤ items1.length ∧ Pw j H, ⟨items1.length, rfl, Nat.zero_le _, [], xs, g4, rfl, fun a u _ hu => hu, vs, hD5, by rw [List.append_nil]; exact ra.mono (sTr m3 m35)⟩, ?_⟩
        rintro j kk H6 ⟨rfl, hj, pw⟩
        by_cases hltj : j < items1.length
        · obtain ⟨ac, rs, go1, eo1, kp, ws, hDw, rw1⟩ := pw
          refine .inr ⟨w1.goes j H6 hltj (hG1 H6 (keepL kp)), Pw (j + 1), fun H' p' => ⟨items1.length - (j + 1), by omega, rfl, hltj, p'⟩, fun x1 H7 y1 => ?_⟩
          have y1 := w1.yields j H6 x1 H7 hltj (hG1 H6 (keepL kp)) y1
          obtain ⟨m7, hd1⟩ := hY1 j H6 x1 H7 hltj (keepL kp) y1
          have kp7 : Keeps H7 := fun a u ha hu => m7 a u (kp a u ha hu)
          have hD7 : H7 D = some (.lst ws) := m7 D _ hDw
          have L7 := Lat kp7 ⟨ws, hD7⟩
          obtain ⟨d1, hdi1, rd1⟩ := hd1 (nn O5 F5) fun a ha z => (i5 a).mp z
          have hdrop1 : items1.drop j = d1 :: items1.drop (j + 1) := by
            obtain ⟨hl, e⟩ := List.getElem?_eq_some_iff.mp hdi1
            rw [List.drop_eq_getElem_cons hl, e]
          rw [hdrop1] at go1
          obtain ⟨env8, q1, go1⟩ := Option.bind_eq_some_iff.mp go1
          obtain ⟨b1, q2, go1⟩ := Option.bind_eq_some_iff.mp go1
          refine ⟨F5, H0, _, O5, d1, env8, L7, rd1, q1, fun σ8 F8 O8 L8 i8 s8 ag8 => ?_⟩
          refine ⟨(ag8.mono hms1).wipe.trans wipe_twice, ?_⟩
          refine oneT L8 q2 fun H8 m8 => ?_
          cases b1 with
          | false => exact iteF ⟨ac, rs, go1, eo1, fun a u ha hu => m8 a u (kp7 a u ha hu), ws, m8 D _ hD7, rw1.mono (sTr m7 m8)⟩
          | true =>
            refine iteT ?_
            rw [if_pos rfl] at go1
            obtain ⟨z, q3, go1⟩ := Option.bind_eq_some_iff.mp go1
            obtain ⟨rz, q4, q3⟩ := Option.bind_eq_some_iff.mp q3
            obtain ⟨tl, q5, go1⟩ := Option.map_eq_some_iff.mp go1
            refine one (L8.mono m8) q4 fun v H9 m9 rv => ?_
            have m79 := sTr m8 m9
            have rz' := rv.toD q3 (L8.mono m8).dom
            have hD9 : H9 D = some (.lst ws) := m79 D _ hD7
            have N8 : ∀ a, nn O8 F8 a ↔ (nn O F a ∨ a = D) := fun a => (i8 a).trans ((i5 a).trans (NS a))
            refine ⟨ws, hD9, ?_, ?_⟩
            · have l1 := rw1.length
              rw [l1]
              have : (acc ++ ac).length < out.length := by
                rw [eo, ← go, eo1, ← go1]
                simp only [List.length_append, List.length_cons]
                omega
              exact lim_lt (by omega)
            · refine ⟨ac ++ [z], tl, q5, by rw [eo1, ← go1, List.append_assoc]; rfl, fun a u ha hu => ?_, ws ++ [v], upd_same, ?_⟩
              · rw [upd_ne ha]
                exact m79 a u (kp7 a u ha hu)
              · have wr : Keep (fun a => nn O F a ∨ a = D) H9 (upd H9 D (.lst (ws ++ [v]))) := fun a u hu c => by
                  by_cases ha : a = D
                  · subst ha
                    rw [hD9] at hu
                    cases hu
                    rcases c with c | c
                    · exact absurd (.inr rfl) c
                    · exact absurd rfl (c ws)
                  · rw [upd_ne ha]; exact hu
                rw [← List.append_assoc]
                exact RpA.step wr Sub.refl _ _ ((rw1.mono (sTr m7 m79)).append (RpA.one (rz'.sub fun a _ q => (N8 a).mpr q)))
        · have ej : j = items1.length := by omega
          subst ej
          obtain ⟨ac, rs, go1, eo1, kp, ws, hDw, rw1⟩ := pw
          rw [List.drop_of_length_le (Nat.le_refl _)] at go1
          cases go1
          rw [List.append_nil] at eo1
          subst eo1
          refine .inl ⟨w1.stops H6 (hG1 H6 (keepL kp)), acc ++ xs, rest', g5, by rw [eo, ← go, List.append_assoc], fun a u hu => ?_, ws, hDw, rw1⟩
          have hne : a ≠ D := ne_of_none hu hD
          exact kp a u hne (sTr m13 m35 a u hu)
    · have ei : i = items.length := by omega
      subst ei
      obtain ⟨acc, rest, go, eo, m2, vs, hDv, ra⟩ := p
      rw [List.drop_of_length_le (Nat.le_refl _)] at go
      cases go
      rw [List.append_nil] at eo
      subst eo
      exact .inl ⟨w.stops H2 (hG H2 fun a u _ hu => m2 a u hu), h _ H2 (sTr m m2) ⟨D, vs, rfl, sNone m hD, hDv, ra⟩⟩
  · cases e
section
variable {X : Cx}
theorem se_lc2 {elt tg iter tg1 iter1 : Expr} {ifs ifs1 : List Expr} {scope : Scope} {own : List (Str × Nat)} {vs1 ms ms1 : List Nat} {pos : Pos} {it it1 : Env → Option (List PyData)} {g g1 : G} {tt tt1 : Env → Option Bool} {te : Env → Option R} (hc : X.calm = true) (hN : X.N.Nodup) (hi : SI X tg iter false it) (ok : blkC X.N X.env.scope scope own = true)
    (hg : ∀ (s : Shared) (H : Hp) (C : Addr) (cl : List (Str × Addr)) (fp : List Addr), SG (X.blk s H scope (compEnvC scope cl C X.env) fp) tg ms g)
    (ht : ∀ (s : Shared) (H : Hp) (C : Addr) (cl : List (Str × Addr)) (fp : List Addr), PTs (X.blk s H scope (compEnvC scope cl C X.env) fp) ifs (tT X.K tt))
    (hi1 : ∀ (s : Shared) (H : Hp) (C : Addr) (cl : List (Str × Addr)) (fp : List Addr), SI (X.blk s H scope (compEnvC scope cl C X.env) fp) tg1 iter1 true it1)
    (hg1 : ∀ (s : Shared) (H : Hp) (C : Addr) (cl : List (Str × Addr)) (fp : List Addr), SG (X.blk s H scope (compEnvC scope cl C X.env) fp) tg1 ms1 g1)
    (ht1 : ∀ (s : Shared) (H : Hp) (C : Addr) (cl : List (Str × Addr)) (fp : List Addr), PTs (X.blk s H scope (compEnvC scope cl C X.env) fp) ifs1 (tT X.K tt1))
    (he : ∀ (s : Shared) (H : Hp) (C : Addr) (cl : List (Str × Addr)) (fp : List Addr), SE (X.blk s H scope (compEnvC scope cl C X.env) fp) elt te)
    (hv : ∀ i ∈ vs1, i ∈ own.map (·.2) := by decide) (hms : ∀ i ∈ ms, i ∈ own.map (·.2) := by decide) (hms1 : ∀ i ∈ ms1, i ∈ vs1 := by decide) (hs : ∀ x, foldedSetIterable iter X.env x = pure x := by intro _; rfl) (hs1 : ∀ env x, foldedSetIterable iter1 env x = pure x := by intro _ _; rfl) :
    SE X (.ListComp elt [⟨tg, iter, ifs, 0⟩, ⟨tg1, iter1, ifs1, 0⟩] scope pos) (eLc2 it (own.map (·.2)) g tt it1 vs1 g1 tt1 te) :=
  imE (pe_lc2 hc hN hi (blkOk_by ok) hv hg ht hi1 hg1 ht1 he hs hs1) fun σ H Q h => lc2_imp hms hms1 σ H Q h
theorem ss_setLc2 (i : Nat) {y : Str} {py : Pos} {elt tg iter tg1 iter1 : Expr} {ifs ifs1 : List Expr} {scope : Scope} {own : List (Str × Nat)} {vs1 ms ms1 : List Nat} {pos spos : Pos} {it it1 : Env → Option (List PyData)} {g g1 : G} {tt tt1 : Env → Option Bool} {te : Env → Option R} (hc : X.calm = true) (hN : X.N.Nodup) (hi : SI X tg iter false it) (ok : blkC X.N X.env.scope scope own = true)
    (hg : ∀ (s : Shared) (H : Hp) (C : Addr) (cl : List (Str × Addr)) (fp : List Addr), SG (X.blk s H scope (compEnvC scope cl C X.env) fp) tg ms g)
    (ht : ∀ (s : Shared) (H : Hp) (C : Addr) (cl : List (Str × Addr)) (fp : List Addr), PTs (X.blk s H scope (compEnvC scope cl C X.env) fp) ifs (tT X.K tt))
    (hi1 : ∀ (s : Shared) (H : Hp) (C : Addr) (cl : List (Str × Addr)) (fp : List Addr), SI (X.blk s H scope (compEnvC scope cl C X.env) fp) tg1 iter1 true it1)
    (hg1 : ∀ (s : Shared) (H : Hp) (C : Addr) (cl : List (Str × Addr)) (fp : List Addr), SG (X.blk s H scope (compEnvC scope cl C X.env) fp) tg1 ms1 g1)
    (ht1 : ∀ (s : Shared) (H : Hp) (C : Addr) (cl : List (Str × Addr)) (fp : List Addr), PTs (X.blk s H scope (compEnvC scope cl C X.env) fp) ifs1 (tT X.K tt1))
    (he : ∀ (s : Shared) (H : Hp) (C : Addr) (cl : List (Str × Addr)) (fp : List Addr), SE (X.blk s H scope (compEnvC scope cl C X.env) fp) elt te)
    (hv : ∀ i ∈ vs1, i ∈ own.map (·.2) := by decide) (hms : ∀ i ∈ ms, i ∈ own.map (·.2) := by decide) (hms1 : ∀ i ∈ ms1, i ∈ vs1 := by decide)
    (hy : X.N[i]? = some y := by rfl) (hyl : X.env.scope.names.lookup y = some .local := by rfl) (hsw : swapsWith (.ListComp elt [⟨tg, iter, ifs, 0⟩, ⟨tg1, iter1, ifs1, 0⟩] scope pos) (some (.Name y py)) spos.line X.env = pure true := by exact sw_true rfl rfl rfl (by decide +kernel)) (hs : ∀ x, foldedSetIterable iter X.env x = pure x := by intro _; rfl) (hs1 : ∀ env x, foldedSetIterable iter1 env x = pure x := by intro _ _; rfl) :
    SS X (.Assign [.Name y py] (.ListComp elt [⟨tg, iter, ifs, 0⟩, ⟨tg1, iter1, ifs1, 0⟩] scope pos) spos) (sSet i (eLc2 it (own.map (·.2)) g tt it1 vs1 g1 tt1 te)) :=
  imS (ps_setLc2 hc hN hy hyl hsw hi (blkOk_by ok) hv hg ht hi1 hg1 ht1 he hs hs1) fun D σ H h => asg_imp (fun σ H Q q => lc2_imp hms hms1 σ H Q q) D σ H h
end
end PV

/-! PV13: is True/False; list.count, list.index; sorted; min/max with default; least and greatest of three; a module's numbers and texts -/
namespace PV
open PySem L2 PySem.W PyProof.Rows

section
variable {X : Cx}
/-! ### is, is not: None, True, False -/
def opIsB : R → R → Option R
  | .d (.bool a), .d (.bool b) => some (.d (.bool (decide (a = b))))
  | _, _ => none
def opNotB : R → R → Option R
  | .d (.bool a), .d (.bool b) => some (.d (.bool (!decide (a = b))))
  | _, _ => none
theorem os_isB : OpS X (compareOp .Is) opIsB := ⟨_, op_isBl, fun N O H H' x y a b r Q m dm r1 r2 e q => by
  unfold opIsB at e
  split at e
  · cases e
    exact ⟨_, _, r1.bl, r2.bl, q _ H' (sRefl H') (Rp.bl _)⟩
  · cases e⟩
theorem os_notB : OpS X (compareOp .IsNot) opNotB := ⟨_, op_notBl, fun N O H H' x y a b r Q m dm r1 r2 e q => by
  unfold opNotB at e
  split at e
  · cases e
    exact ⟨_, _, r1.bl, r2.bl, q _ H' (sRefl H') (Rp.bl _)⟩
  · cases e⟩

/-! ### methods of a list -/
def MtS (X : Cx) (id : String) (op : List PyData → List R → Option R) : Prop :=
  ∃ rr : V → List V → Hp → VK → Prop, MtR X id rr ∧ ∀ (N : Addr → Prop) (O : List Addr) (H H' : Hp) (p : Addr) (ws : List V) (xs : List PyData) (vs : List V) (rs : List R) (r : R) (Q : VK), Same H H' → (∀ p, N p → (H p).isSome = true) → SqL X.K H' p ws → RpA X.K N H' xs ws → RRL X.K N O H H' vs rs → op xs rs = some r →
    (∀ v H2, Same H' H2 → RR X.K N O H H2 v r → Q v H2) → rr (.ref p) vs H' Q
/-- a list's items, as a method finds them -/
def lvS : R → Option (List PyData)
  | .d (.dict kvs) => some (kvs.map (·.1))
  | r => lv r
theorem RR.lvS {K : PySem.W.Frag} {N : Addr → Prop} {O : List Addr} {H H' : Hp} {v : V} {r : R} {xs : List PyData} (h : RR K N O H H' v r) (e : PV.lvS r = some xs) : ∃ p vs, v = .ref p ∧ SqL K H' p vs ∧ RpA K N H' xs vs := by
  unfold PV.lvS at e
  split at e
  · rename_i kvs
    cases e
    have h : Rp K N H' (.dict kvs) v := h
    cases h with
    | scr h1 =>
      rename_i a ns
      refine ⟨_, _, rfl, h1.seq, ?_⟩
      rw [List.map_map]
      exact RpA.ints ns
  · obtain ⟨p, vs, rfl, hp, ra⟩ := h.lst e
    exact ⟨p, vs, rfl, .inl (.inl hp), ra⟩
def bindM (op : List PyData → List R → Option R) (fo : Env → Option R) (fa : Env → Option (List R)) : Env → Option R := fun env => (fo env).bind fun a => (lvS a).bind fun xs => (fa env).bind fun rs => op xs rs
theorem se_meth {o e : Expr} {es : List Expr} {fo : Env → Option R} {fa : Env → Option (List R)} {name : Str} {id : String} {apos cpos : Pos} {op : List PyData → List R → Option R} (hm : MtS X id op) (slot : Slot "list" name id) (hty : typeOf (.builtin id) = pure (.type "method_descriptor")) (ho : SE X o fo) (ha : SA X (e :: es) fa)
    (hbase : attributeBase o name X.env (eval o X.env) = eval o X.env := by rfl)
    (hfew : ((backTo cpos (starEach (e :: es) X.env)).all (fun x => !x.1) && (backToKw cpos (keywordEach [] X.env)).all (fun x => x.1.isSome)
      && decide ((e :: es).length + ([] : List Keyword).length + (if ([] : List Keyword).isEmpty then 0 else 1) < 30)) = true := by rfl)
    (hline : (apos.endLine == cpos.line) = true := by rfl) (hs : starEach (e :: es) X.env = (false, eval e X.env) :: starEach es X.env := by rfl) (hplain : (backTo cpos (starEach es X.env)).any (·.1) = false := by rfl) :
    SE X (.Call (.Attribute o name apos) (e :: es) [] cpos) (bindM op fo fa) := by
  obtain ⟨rr, h1, h2⟩ := hm
  refine imE (pe_bm PySem.F.plainAttrs_list slot hty h1 ho ha hbase hfew hline hs hplain) fun σ H Q h => ?_
  obtain ⟨F, H0, env, O, r, L, e, h⟩ := h
  obtain ⟨a, e1, e⟩ := Option.bind_eq_some_iff.mp e
  obtain ⟨xs, e2, e⟩ := Option.bind_eq_some_iff.mp e
  obtain ⟨rs, e3, e⟩ := Option.bind_eq_some_iff.mp e
  refine one L e1 fun v H1 m1 ra => ?_
  obtain ⟨p, ws, rfl, hp, rp⟩ := ra.lvS e2
  refine ⟨.inl ⟨rfl, ws, hp⟩, F, H0, env, O, rs, L.mono m1, e3, fun vs H2 m2 rl => ?_⟩
  have dm : ∀ a, nn O F a → (H1 a).isSome = true := (L.mono m1).dom
  refine h2 (nn O F) O H1 H2 p ws xs vs rs r Q m2 dm (m2.seq hp) (rp.mono m2) (RRA.all (sRefl H1) (fun _ z => z) rl) e fun v H3 m3 r3 => h v H3 (sTr m1 (sTr m2 m3)) (r3.back m1)
def mCount (xs : List PyData) : List R → Option R
  | [r] => if okDs xs && okD (dv r) then some (.d (.int ((xs.countP fun y => PyData.eqv y (dv r) : Nat) : Int))) else none
  | _ => none
theorem ms_count {k : Nat} (hr : Room k X.A) : MtS X "list.count" mCount := by
  refine ⟨fun x vs H Q => ∃ p ws xs v d, x = .ref p ∧ vs = [v] ∧ SqL X.K H p ws ∧ (∃ N, RpA X.K N H xs ws) ∧ Rp X.K noN H d v ∧ okDs xs = true ∧ okD d = true ∧ Q (.int ((xs.countP fun y => PyData.eqv y d : Nat) : Int)) H, fun pins s σ H x xs v us Q I rx rxs h => ?_, fun N O H H' p ws xs vs rs r Q m dm hp ra rl e q => ?_⟩
  · obtain ⟨p, ws, ds, y, d, rfl, rfl, hp, ⟨N, ra⟩, rd, c1, c2, q⟩ := h
    cases (show v = Value.ref p from rx)
    obtain ⟨u, rfl, ru⟩ := vals1 rxs
    obtain ⟨its, rv, pl, hz⟩ := I.list hp
    obtain ⟨as, rs⟩ := RpA.rds I ds ws its (okDs_1 c1) ra rv
    obtain ⟨bs, r1⟩ := Rp.rds I d y u (okD_1 c2) rd ru
    have hu := hr.units
    have := okDs_2 c1
    exact PySem.SeqAt.count_list_data pl.isList (by simpa using rs) r1 (okDs_1 c1) (okD_1 c2) (by omega) ⟨.int _, H, I.tok _, ⟨_, rfl⟩, q⟩
  · unfold mCount at e
    split at e
    · split at e
      · rename_i hc
        cases e
        rw [Bool.and_eq_true] at hc
        obtain ⟨v, rfl, r1⟩ := rl.c1
        exact ⟨p, ws, xs, v, _, rfl, rfl, hp, ⟨N, ra⟩, r1.rp, hc.1, hc.2, q _ H' (sRefl H') (Rp.int _)⟩
      · cases e
    · cases e
def mIndex (xs : List PyData) : List R → Option R
  | [r] => if okDs xs && okD (dv r) && Nat.ble xs.length LIM then (PySem.SeqAt.dataPlace xs (dv r)).map fun j => .d (.int (j : Nat)) else none
  | _ => none
theorem ms_index {k : Nat} (hr : Room k X.A) : MtS X "list.index" mIndex := by
  refine ⟨fun x vs H Q => ∃ p ws xs v d j, x = .ref p ∧ vs = [v] ∧ SqL X.K H p ws ∧ (∃ N, RpA X.K N H xs ws) ∧ Rp X.K noN H d v ∧ okDs xs = true ∧ okD d = true ∧ xs.length ≤ LIM ∧ PySem.SeqAt.dataPlace xs d = some j ∧ Q (.int (j : Nat)) H, fun pins s σ H x xs v us Q I rx rxs h => ?_, fun N O H H' p ws xs vs rs r Q m dm hp ra rl e q => ?_⟩
  · obtain ⟨p, ws, ds, y, d, j, rfl, rfl, hp, ⟨N, ra⟩, rd, c1, c2, hlim, hj, q⟩ := h
    cases (show v = Value.ref p from rx)
    obtain ⟨u, rfl, ru⟩ := vals1 rxs
    obtain ⟨its, rv, pl, hz⟩ := I.list hp
    obtain ⟨as, rs⟩ := RpA.rds I ds ws its (okDs_1 c1) ra rv
    obtain ⟨bs, r1⟩ := Rp.rds I d y u (okD_1 c2) rd ru
    have hu := hr.units
    have := okDs_2 c1
    obtain ⟨hj1, hit, hno⟩ := PySem.SeqAt.hit_at (vs := its.toArray) (by simpa using rs) (okDs_1 c1) hj
    obtain ⟨⟨cls, dd, data, sl⟩, ho, hc, n, hd⟩ := id pl.isList
    simp only at hc hd
    subst hc hd
    have hlen : its.length = ds.length := by rw [← rv.length, ra.length]
    refine call_meets F.slot_list_index ⟨_, ho, rfl⟩ F.entry_list_index (F.args_list_index_2 _ _)
      (PySem.SeqAt.list_index2_found p its.toArray n dd sl u (fun j => if h : j < its.toArray.size then PyData.eqv (PySem.SeqAt.readOf s.heap its.toArray[j]) d else false) j hj1 (Nat.zero_le _) ?_ ?_ ?_) ⟨ho, fun i hi => ?_, ?_⟩
    · have h2 : ds.length ≤ 1000000 := hlim
      have h3 : j < its.length := by simpa using hj1
      omega
    · rw [dif_pos hj1]
      exact hit
    · intro m hm _ hlt
      rw [dif_pos hm]
      exact hno m hm hlt
    · rw [dif_pos hi]
      exact PySem.SeqAt.items_plain (A := X.A) (vs := its.toArray) (by simpa using rs) r1 (okDs_1 c1) (okD_1 c2) (by omega) _ (Array.getElem_mem hi)
    · exact ⟨.int _, H, I.tok _, ⟨_, rfl⟩, q⟩
  · unfold mIndex at e
    split at e
    · split at e
      · rename_i hc
        obtain ⟨j, hj, e⟩ := Option.map_eq_some_iff.mp e
        subst e
        rw [Bool.and_eq_true, Bool.and_eq_true, Nat.ble_eq] at hc
        obtain ⟨v, rfl, r1⟩ := rl.c1
        exact ⟨p, ws, xs, v, _, j, rfl, rfl, hp, ⟨N, ra⟩, r1.rp, hc.1.1, hc.1.2, hc.2, hj, q _ H' (sRefl H') (Rp.int _)⟩
      · cases e
    · cases e

/-! ### sorted -/
def alikeAllB (xs : List PyData) : Bool := xs.all fun x => xs.all fun y => alike x y
def sortableB (xs : List PyData) : Bool := (xs.all fun x => match x with | .tuple (_ :: _) => true | _ => false) || (xs.all fun x => match x with | .none => false | .tuple _ => false | _ => true)
theorem alikeAllB_ok {xs : List PyData} (h : alikeAllB xs = true) : AllAlike xs := fun x hx y hy => by
  unfold alikeAllB at h
  rw [List.all_eq_true] at h
  exact List.all_eq_true.mp (h x hx) y hy
theorem sortableB_ok {xs : List PyData} (h : sortableB xs = true) : Sortable xs := by
  unfold sortableB at h
  rw [Bool.or_eq_true, List.all_eq_true, List.all_eq_true] at h
  rcases h with h | h
  · refine .inl fun d hd => ?_
    have := h d hd
    split at this
    · exact ⟨_, _, rfl⟩
    · cases this
  · refine .inr fun d hd => ?_
    have := h d hd
    split at this
    · cases this
    · cases this
    · rename_i h1 h2
      exact ⟨h1, h2⟩
def cSort (xs : List PyData) : Bool := okDs xs && alikeAllB xs && sortableB xs && Nat.ble xs.length LIM
/-- sorted by keys, in the order of data; stable -/
def sortK {β : Type} (rev : Bool) (k : β → PyData) (bs : List β) : List β := bs.mergeSort (dataLe rev k)
def fSorted (a : R) : Option R := (lvS a).bind fun xs => if cSort xs then some (.own (sortK false id xs)) else none
theorem depth_of_mem {xs : List PyData} {d : PyData} : d ∈ xs → d.depth ≤ PyData.depthAll xs := by
  induction xs with
  | nil => intro h; cases h
  | cons x xs ih =>
    intro h
    rw [PyData.depthAll]
    rcases List.mem_cons.mp h with e | h
    · subst e; exact Nat.le_max_left _ _
    · exact Nat.le_trans (ih h) (Nat.le_max_right _ _)
/-- data and values side by side -/
theorem each_of {K : PySem.W.Frag} {N : Addr → Prop} {H : Hp} : ∀ {ds : List PyData} {vs : List V} {us : List Value}, RpA K N H ds vs → Vals vs us → EachIs (fun u (b : PyData × V) => RelV b.2 u) us (ds.zip vs) ∧ (ds.zip vs).map Prod.fst = ds ∧ (ds.zip vs).map Prod.snd = vs ∧ ∀ b ∈ ds.zip vs, Rp K N H b.1 b.2
  | [], _, _, h, r => by
    cases h; cases r
    exact ⟨.nil, rfl, rfl, fun _ h => by cases h⟩
  | d :: ds, _, _, h, r => by
    cases h with
    | cons h1 h2 =>
      cases r with
      | cons r1 r2 =>
        obtain ⟨q1, q2, q3, q4⟩ := each_of h2 r2
        refine ⟨.cons r1 q1, by rw [List.zip_cons_cons, List.map_cons, q2], by rw [List.zip_cons_cons, List.map_cons, q3], fun b hb => ?_⟩
        rw [List.zip_cons_cons] at hb
        rcases List.mem_cons.mp hb with e | hb
        · subst e; exact h1
        · exact q4 b hb
theorem vals_each : ∀ {us : List Value} {bs : List (PyData × V)}, EachIs (fun u (b : PyData × V) => RelV b.2 u) us bs → Vals (bs.map Prod.snd) us
  | _, _, .nil => .nil
  | _, _, .cons a t => .cons a (vals_each t)
theorem rpA_pairs {K : PySem.W.Frag} {N : Addr → Prop} {H : Hp} : ∀ {bs : List (PyData × V)}, (∀ b ∈ bs, Rp K N H b.1 b.2) → RpA K N H (bs.map Prod.fst) (bs.map Prod.snd)
  | [], _ => .nil
  | b :: bs, h => .cons (h b List.mem_cons_self) (rpA_pairs fun c hc => h c (List.mem_cons_of_mem _ hc))
theorem each_reads {pins : List (Addr × Obj)} {σ : L2.St} {H : Hp} {s : Shared} {N : Addr → Prop} (I : Inv X pins σ H s) : ∀ {us : List Value} {bs : List (PyData × V)}, EachIs (fun u (b : PyData × V) => RelV b.2 u) us bs → (∀ b ∈ bs, Rp X.K N H b.1 b.2 ∧ b.1.plain = true) → EachIs (fun u (b : PyData × V) => ∃ as, Reads s.heap u b.1 as) us bs
  | _, _, .nil, _ => .nil
  | _, _, .cons a t, h => .cons (Rp.rds I _ _ _ (h _ List.mem_cons_self).2 (h _ List.mem_cons_self).1 a) (each_reads I t fun c hc => h c (List.mem_cons_of_mem _ hc))
theorem plain_of_mem {xs : List PyData} (h : PyData.plainAll xs = true) : ∀ d ∈ xs, d.plain = true := by
  induction xs with
  | nil => intro d h; cases h
  | cons x xs ih =>
    intro d hd
    simp only [PyData.plainAll, Bool.and_eq_true] at h
    rcases List.mem_cons.mp hd with e | hd
    · subst e; exact h.1
    · exact ih h.2 d hd
theorem sortK_map {β : Type} (rev : Bool) (k : β → PyData) (bs : List β) : (sortK rev k bs).map k = sortK rev id (bs.map k) := by
  unfold sortK
  exact List.map_mergeSort fun a _ b _ => rfl
theorem call_sortedD {k : Nat} (hr : Room k X.A) : CallR X (.builtin "sorted") (fun vs H Q => ∃ (N : Addr → Prop) (p : Addr) (ws : List V) (xs : List PyData), vs = [.ref p] ∧ SqL X.K H p ws ∧ RpA X.K N H xs ws ∧ cSort xs = true ∧ ∀ q us, H q = none → RpA X.K N H (sortK false id xs) us → Q (.ref q) (upd H q (.lst us))) := by
  intro pins s σ H vs us Q I r h
  obtain ⟨N, p, ws, xs, rfl, hp, ra, hc, q⟩ := h
  obtain ⟨u, rfl, r1⟩ := vals1 r
  cases (show u = Value.ref p from r1)
  unfold cSort at hc
  simp only [Bool.and_eq_true, Nat.ble_eq] at hc
  obtain ⟨⟨⟨c1, c2⟩, c3⟩, c4⟩ := hc
  obtain ⟨its, rv, pl, hz⟩ := I.list hp
  obtain ⟨e1, e2, e3, e4⟩ := each_of ra rv
  have hpl := plain_of_mem (okDs_1 c1)
  have hmem : ∀ b ∈ xs.zip ws, b.1 ∈ xs := fun b hb => by rw [← e2]; exact List.mem_map_of_mem hb
  have er := each_reads I e1 fun b hb => ⟨e4 b hb, hpl _ (hmem b hb)⟩
  have hu := hr.units
  have h59 := okDs_2 c1
  have hlen : (xs.zip ws).length = ws.length := by rw [List.length_zip, ra.length, Nat.min_self]
  refine PySem.W.sorted_data (enc := Prod.fst) pl.isList e1 er (by rw [e2]; exact alikeAllB_ok c2) (by rw [e2]; exact sortableB_ok c3) (by rw [hlen]; exact hz) (fun b hb => ?_) fun out ho eo => ?_
  · have := depth_of_mem (hmem b hb)
    omega
  · obtain ⟨ep, he'⟩ := sortedAll_at s.heap its out.toArray
    have hs : sortK false Prod.fst (xs.zip ws) = (xs.zip ws).mergeSort (dataLe false Prod.fst) := rfl
    rw [← hs] at eo
    have pm : (sortK false Prod.fst (xs.zip ws)).Perm (xs.zip ws) := List.mergeSort_perm _ _
    have rs : RpA X.K N H (sortK false id xs) ((sortK false Prod.fst (xs.zip ws)).map Prod.snd) := by
      have := rpA_pairs (K := X.K) (N := N) (H := H) (bs := sortK false Prod.fst (xs.zip ws)) fun b hb => e4 b (pm.mem_iff.mp hb)
      rw [sortK_map, e2] at this
      exact this
    have hl2 : ((sortK false Prod.fst (xs.zip ws)).map Prod.snd).length ≤ sizeLine := by rw [List.length_map, pm.length_eq, hlen]; exact hz
    exact ⟨.ref _, upd H (s.heap.objs.size + 1) (.lst _), I.laid (t' := s.toks) (fun _ _ => sortedAll_old) (Nat.le_succ _) ⟨hl2, _, ep, vals_each eo, he'⟩, rfl, q _ _ (I.hok.fresh (Nat.le_succ _)) rs⟩
theorem cs_sorted {k : Nat} (hr : Room k X.A) : CallS X (.builtin "sorted") (op1 fSorted) := ⟨_, call_sortedD hr, fun N O H H' vs rs r Q m dm rl e q => by
  unfold op1 at e
  split at e
  · obtain ⟨v, rfl, r1⟩ := rl.c1
    obtain ⟨xs, e1, e⟩ := Option.bind_eq_some_iff.mp e
    split at e
    · rename_i hc
      cases e
      obtain ⟨p, ws, rfl, hp, ra⟩ := r1.lvS e1
      exact ⟨N, p, ws, xs, rfl, hp, ra, hc, fun l us nl rs => q _ _ (sNew nl) ⟨l, us, rfl, sNone m nl, upd_same, rs.fresh nl⟩⟩
    · cases e
  · cases e⟩

/-! ### a module's numbers and texts -/
theorem se_gint {x : Str} {i : Int} {pos : Pos} (h : ∃ u, X.mg x = some u ∧ RelV (.int i) u) (hg : Gl X x) (hd : (x == ("__debug__" : Str)) = false := by decide) : SE X (.Name x pos) (eC (.int i)) := by
  obtain ⟨u, hm, r⟩ := h
  exact se_glob hg hm r (fun _ _ => Rp.int i) hd
theorem se_gstr {x : Str} {i : Str} {pos : Pos} (h : ∃ u, X.mg x = some u ∧ RelV (.str i) u) (hg : Gl X x) (hd : (x == ("__debug__" : Str)) = false := by decide) : SE X (.Name x pos) (eC (.str i)) := by
  obtain ⟨u, hm, r⟩ := h
  exact se_glob hg hm r (fun _ _ => Rp.str i) hd
end
end PV

/-! PVL: what every law begins with: the row, likeness; rules of reckoning -/
namespace PV
open PySem L2
def B__law_mixed : PV.Env → Option Fl := sSeq (sSet 2 (eC (.int 0))) (sSeq (sIf (tb (bind2 opGt2 (bindA (op1 fLen) (aCons (eVar 0) (aNil))) (eC (.int 0)))) (sSet 2 (bind2 opIx (eVar 0) (bind2 opMod (eVar 1) (bindA (op1 fLen) (aCons (eVar 0) (aNil)))))) (sNext)) (sSeq (sSet 3 (bind2 opMod (bindA (op1 fInt) (aCons (bind2 opAdd (bind2 opAdd (bind2 opMul2 (eVar 2) (eC (.int 48271))) (bind2 opMul2 (eVar 1) (eC (.int 69621)))) (eC (.int 8191))) (aNil))) (eC (.int 2147483647)))) (sSeq (sSet 4 (bind2 opMod (bindA (op1 fInt) (aCons (bind2 opAdd (bind2 opAdd (bind2 opMul2 (eVar 3) (eVar 3)) (bind2 opFdiv (eVar 3) (eC (.int 7)))) (bind2 opMul2 (eVar 1) (eC (.int 16807)))) (aNil))) (eC (.int 2147483629)))) (sSeq (sSet 5 (bind2 opMod (bindA (op1 fInt) (aCons (bind2 opAdd (bind2 opAdd (bind2 opMul2 (eVar 4) (eVar 4)) (bind2 opFdiv (eVar 4) (eC (.int 11)))) (eC (.int 40692))) (aNil))) (eC (.int 2147483563)))) (sRet (bind2 opMod (bind2 opFdiv (eVar 5) (eC (.int 5))) (eC (.int 1000003))))))))
def F__law_mixed : List PyData → Option R := mkF 2 6 B__law_mixed
def P__law_row_1 : PV.Env → Option Fl := sIf (tb (bind2 opGt2 (eVar 2) (eC (.int 0)))) (sSeq (sApp 3 (bind2 opMod (bindA (op1 fInt) (aCons (eVar 2) (aNil))) (eC (.int 1000)))) (sSet 2 (bind2 opFdiv (eVar 2) (eC (.int 1000))))) (sApp 3 (eCall 2 F__law_mixed (aCons (eVar 0) (aCons (eVar 4) (aNil)))))
def B__law_row : PV.Env → Option Fl := sSeq (sSet 2 (eC (.int 0))) (sSeq (sIf (bAnd (tb (bind2 opGt2 (bindA (op1 fLen) (aCons (eVar 0) (aNil))) (eC (.int 0)))) (tb (bind2 opGe2 (bind2 opIx (eVar 0) (eC (.int 0))) (bind2 opPow (eC (.int 10)) (eC (.int 18)))))) (sSet 2 (bind2 opIx (eVar 0) (eC (.int 0)))) (sNext)) (sSeq (sSet 3 (eLst (aNil))) (sSeq (sFor (iRg1 (aCons (eVar 1) (aNil))) (gNm 4) (P__law_row_1)) (sRet (eVar 3)))))
def F__law_row : List PyData → Option R := mkF 2 5 B__law_row
def B__law_is_int : PV.Env → Option Fl := sRet (eAnd (bind1 (isT "int") (eVar 0)) (eNot (bind1 (isT "bool") (eVar 0))))
def F__law_is_int : List PyData → Option R := mkF 1 1 B__law_is_int
def B__law_like (R_ : List PyData → Option R) : PV.Env → Option Fl := sSeq (sIf (tb (bind2 opIsN (eVar 1) (eC .none))) (sRet (bind2 opIsN (eVar 0) (eC .none))) (sNext)) (sSeq (sIf (tT' (bind1 (isT "bool") (eVar 1))) (sRet (eAnd (bind1 (isT "bool") (eVar 0)) (bind2 opEq2 (eVar 0) (eVar 1)))) (sNext)) (sSeq (sIf (tT' (bind1 (isT "tuple") (eVar 1))) (sSeq (sIf (bOr (bNot (tT' (bind1 (isT "tuple") (eVar 0)))) (tb (bind2 opNe2 (bindA (op1 fLen) (aCons (eVar 0) (aNil))) (bindA (op1 fLen) (aCons (eVar 1) (aNil)))))) (sRet (eC (.bool false))) (sNext)) (sRet (bindA (op1 fAll) (aCons (eLc (iRg1 (aCons (bindA (op1 fLen) (aCons (eVar 1) (aNil))) (aNil))) [2] (gNm 2) (tYesB) (eCall 2 R_ (aCons (bind2 opIx (eVar 0) (eVar 2)) (aCons (bind2 opIx (eVar 1) (eVar 2)) (aNil))))) (aNil))))) (sNext)) (sSeq (sIf (tT' (bind1 (isT "str") (eVar 1))) (sRet (eAnd (bind1 (isT "str") (eVar 0)) (bind2 opEq2 (eVar 0) (eVar 1)))) (sNext)) (sRet (eAnd (eCall 1 F__law_is_int (aCons (eVar 0) (aNil))) (bind2 opEq2 (eVar 0) (eVar 1)))))))
def F__law_like : Nat → List PyData → Option R
  | 0 => fun _ => none
  | n + 1 => mkF 2 3 (B__law_like (F__law_like n))

/-! ### operators at whole numbers -/
theorem add_i (i j : Int) : opAdd (.d (.int i)) (.d (.int j)) = some (.d (.int (i + j))) := rfl
theorem sub_i (i j : Int) : opSub (.d (.int i)) (.d (.int j)) = some (.d (.int (i - j))) := rfl
theorem mul_i {i j : Int} (h : cMul i j = true) : opMul2 (.d (.int i)) (.d (.int j)) = some (.d (.int (i * j))) := by
  unfold opMul2 iOp
  simp only
  rw [if_pos h]
  rfl
theorem small_of {i : Int} (h1 : -(2 ^ 64) < i) (h2 : i < 2 ^ 64) : small64 i = true := by
  unfold small64
  rw [Nat.blt_eq]
  omega
theorem mul_r {i j : Int} (h1 : -(2 ^ 64) < j) (h2 : j < 2 ^ 64) : opMul2 (.d (.int i)) (.d (.int j)) = some (.d (.int (i * j))) := mul_i (by unfold cMul; rw [small_of h1 h2, Bool.or_true])
theorem mul_l {i j : Int} (h1 : -(2 ^ 64) < i) (h2 : i < 2 ^ 64) : opMul2 (.d (.int i)) (.d (.int j)) = some (.d (.int (i * j))) := mul_i (by unfold cMul; rw [small_of h1 h2, Bool.true_or])
theorem mod_i {i j : Int} (h : 0 < j) : opMod (.d (.int i)) (.d (.int j)) = some (.d (.int (i % j))) := by
  unfold opMod iOp
  simp only
  rw [if_pos (decide_eq_true h)]
theorem fdiv_i {i j : Int} (h : 0 < j) (h2 : j < 1073741824) : opFdiv (.d (.int i)) (.d (.int j)) = some (.d (.int (i / j))) := by
  unfold opFdiv iOp
  simp only
  rw [if_pos (show cDiv i j = true by unfold cDiv; simp only [Bool.and_eq_true, Nat.blt_eq]; omega)]
theorem gt_i (i j : Int) : opGt2 (.d (.int i)) (.d (.int j)) = some (.d (.bool (decide (j < i)))) := rfl
theorem lt_i (i j : Int) : opLt2 (.d (.int i)) (.d (.int j)) = some (.d (.bool (decide (i < j)))) := rfl
theorem ge_i (i j : Int) : opGe2 (.d (.int i)) (.d (.int j)) = some (.d (.bool (decide (j ≤ i)))) := rfl
theorem le_i (i j : Int) : opLe2 (.d (.int i)) (.d (.int j)) = some (.d (.bool (decide (i ≤ j)))) := rfl
theorem eqv_int (i j : Int) : PyData.eqv (.int i) (.int j) = decide (i = j) := by
  simp only [PyData.eqv]
  exact PySem.W.beq_decide i j
theorem eq_i (i j : Int) : opEq2 (.d (.int i)) (.d (.int j)) = some (.d (.bool (decide (i = j)))) := by
  show some (R.d (.bool (PyData.eqv (.int i) (.int j)))) = _
  rw [eqv_int]
theorem ne_i (i j : Int) : opNe2 (.d (.int i)) (.d (.int j)) = some (.d (.bool (!decide (i = j)))) := by
  show some (R.d (.bool (!PyData.eqv (.int i) (.int j)))) = _
  rw [eqv_int]
theorem len_dict (ns : List Int) : fLen (.d (.dict (ns.map scrI))) = some (.d (.int (ns.length : Nat))) := by
  show some (R.d (.int (((ns.map scrI).map (·.1)).length : Nat))) = _
  rw [List.length_map, List.length_map]
theorem len_own (xs : List PyData) : fLen (.own xs) = some (.d (.int (xs.length : Nat))) := rfl
theorem len_bor (xs : List PyData) : fLen (.bor xs) = some (.d (.int (xs.length : Nat))) := rfl
theorem len_tup (xs : List PyData) : fLen (.d (.tuple xs)) = some (.d (.int (xs.length : Nat))) := rfl
theorem len_lst (xs : List PyData) : fLen (.d (.list xs)) = some (.d (.int (xs.length : Nat))) := rfl
theorem atI_of {α : Type} {xs : List α} {i : Int} {x : α} (h0 : 0 ≤ i) (h : xs[i.toNat]? = some x) : atI xs i = some x := by
  have e : i = ((i.toNat : Nat) : Int) := by omega
  rw [e]
  exact atI_nat h
theorem ix_tup {xs : List PyData} {i : Int} {x : PyData} (h0 : 0 ≤ i) (h : xs[i.toNat]? = some x) : opIx (.d (.tuple xs)) (.d (.int i)) = some (.d x) := by
  show ((some xs).bind fun xs => (atI xs i).map R.d) = _
  rw [Option.bind_some, atI_of h0 h]
  rfl
theorem ix_lst {xs : List PyData} {i : Int} {x : PyData} (h0 : 0 ≤ i) (h : xs[i.toNat]? = some x) : opIx (.d (.list xs)) (.d (.int i)) = some (.d x) := by
  show ((some xs).bind fun xs => (atI xs i).map R.d) = _
  rw [Option.bind_some, atI_of h0 h]
  rfl
theorem ix_bor {xs : List PyData} {i : Int} {x : PyData} (h0 : 0 ≤ i) (h : xs[i.toNat]? = some x) : opIx (.bor xs) (.d (.int i)) = some (.d x) := by
  show ((some xs).bind fun xs => (atI xs i).map R.d) = _
  rw [Option.bind_some, atI_of h0 h]
  rfl
theorem ix_own {xs : List PyData} {i : Int} {x : PyData} (h0 : 0 ≤ i) (h : xs[i.toNat]? = some x) : opIx (.own xs) (.d (.int i)) = some (.d x) := by
  show ((some xs).bind fun xs => (atI xs i).map R.d) = _
  rw [Option.bind_some, atI_of h0 h]
  rfl
theorem ix_dict {ns : List Int} {i : Int} {x : Int} (h0 : 0 ≤ i) (h : ns[i.toNat]? = some x) : opIx (.d (.dict (ns.map scrI))) (.d (.int i)) = some (.d (.int x)) := by
  show ((some ((ns.map scrI).map (·.1))).bind fun xs => (atI xs i).map R.d) = _
  rw [Option.bind_some, atI_of (x := .int x) h0 (by rw [List.map_map, List.getElem?_map, h]; rfl)]
  rfl

theorem big62_by {i : Int} (h1 : -1000000000 ≤ i) (h2 : i ≤ 1000000000) : big62 i = true := by
  unfold big62
  rw [Nat.blt_eq]
  omega
theorem rg1_i {n : Nat} (h : n ≤ 1000000) : rgF1 [.d (.int (n : Nat))] = some (rngL 0 n) := by
  have h2 : big62 (n : Nat) = true := big62_by (by omega) (by omega)
  unfold rgF1
  simp only
  rw [if_pos h2, Int.toNat_natCast]
theorem rg1_c {i : Int} (h0 : 0 ≤ i) (h : i ≤ 1000000) : rgF1 [.d (.int i)] = some (rngL 0 i.toNat) := by
  have h2 : big62 i = true := big62_by (by omega) (by omega)
  unfold rgF1
  simp only
  rw [if_pos h2]
theorem rg2_i {i j : Int} (h0 : -1000000 ≤ i) (h1 : i ≤ 1000000) (h2 : -1000000 ≤ j) (h3 : j ≤ 1000000) : rgF2 [.d (.int i), .d (.int j)] = some (rngL i (j - i).toNat) := by
  have a : big62 i = true := big62_by (by omega) (by omega)
  have b : big62 j = true := big62_by (by omega) (by omega)
  unfold rgF2
  simp only
  rw [if_pos (by rw [a, b]; rfl)]

/-! ### loops -/
theorem forL_inv {tg : G} {body : Env → Option Fl} (I : Nat → Env → Prop) : ∀ (items : List PyData) (k : Nat) (env : Env), I k env →
    (∀ i d env, items[i]? = some d → I (k + i) env → ∃ env1 fl, tg d env = some env1 ∧ body env1 = some fl ∧ ∃ env2, (fl = .nx env2 ∨ fl = .ct env2) ∧ I (k + i + 1) env2) →
    ∃ env', forL tg body items env = some (.nx env') ∧ I (k + items.length) env'
  | [], k, env, h0, _ => ⟨env, rfl, h0⟩
  | d :: ds, k, env, h0, hs => by
    obtain ⟨env1, fl, e1, e2, env2, e3, h1⟩ := hs 0 d env rfl h0
    obtain ⟨env', e, h2⟩ := forL_inv I ds (k + 1) env2 h1 fun i d env hi hI => by
      have := hs (i + 1) d env (by simpa using hi) (by rw [show k + (i + 1) = k + 1 + i by omega]; exact hI)
      rw [show k + (i + 1) + 1 = k + 1 + i + 1 by omega] at this
      exact this
    refine ⟨env', ?_, by rw [List.length_cons, show k + (ds.length + 1) = k + 1 + ds.length by omega]; exact h2⟩
    unfold forL
    rw [e1, Option.bind_some, e2, Option.bind_some]
    rcases e3 with rfl | rfl <;> exact e
/-- .. over numbers from 0 -/
theorem for_rg {tg : G} {body : Env → Option Fl} (I : Nat → Env → Prop) (n : Nat) {env : Env} (h0 : I 0 env)
    (hs : ∀ i env, i < n → I i env → ∃ env1 fl, tg (.int (i : Nat)) env = some env1 ∧ body env1 = some fl ∧ ∃ env2, (fl = .nx env2 ∨ fl = .ct env2) ∧ I (i + 1) env2) :
    ∃ env', forL tg body (rngL 0 n) env = some (.nx env') ∧ I n env' := by
  have hl : (rngL 0 n).length = n := by unfold rngL; rw [List.length_map, List.length_range]
  obtain ⟨env', e, h⟩ := forL_inv I (rngL 0 n) 0 env h0 fun i d env hi hI => by
    have hn : i < n := by
      have := (List.getElem?_eq_some_iff.mp hi).1
      omega
    have ed : d = .int (i : Nat) := by
      unfold rngL at hi
      rw [List.getElem?_map, List.getElem?_range hn] at hi
      have h := Option.some.inj hi
      rw [← h]
      show PyData.int (0 + (i : Nat)) = .int (i : Nat)
      rw [Int.zero_add]
    subst ed
    rw [Nat.zero_add] at hI ⊢
    exact hs i env hn hI
  rw [hl, Nat.zero_add] at h
  exact ⟨env', e, h⟩
theorem mod_lt {a b : Int} (h : 0 < b) : 0 ≤ a % b ∧ a % b < b := ⟨Int.emod_nonneg _ (by omega), Int.emod_lt_of_pos _ h⟩
def Q3 : PV.Env → Option Fl := sSeq (sSet 5 (bind2 opMod (bindA (op1 fInt) (aCons (bind2 opAdd (bind2 opAdd (bind2 opMul2 (eVar 4) (eVar 4)) (bind2 opFdiv (eVar 4) (eC (.int 11)))) (eC (.int 40692))) (aNil))) (eC (.int 2147483563)))) (sRet (bind2 opMod (bind2 opFdiv (eVar 5) (eC (.int 5))) (eC (.int 1000003))))
def Q2 : PV.Env → Option Fl := sSeq (sSet 4 (bind2 opMod (bindA (op1 fInt) (aCons (bind2 opAdd (bind2 opAdd (bind2 opMul2 (eVar 3) (eVar 3)) (bind2 opFdiv (eVar 3) (eC (.int 7)))) (bind2 opMul2 (eVar 1) (eC (.int 16807)))) (aNil))) (eC (.int 2147483629)))) Q3
def Q1 : PV.Env → Option Fl := sSeq (sSet 3 (bind2 opMod (bindA (op1 fInt) (aCons (bind2 opAdd (bind2 opAdd (bind2 opMul2 (eVar 2) (eC (.int 48271))) (bind2 opMul2 (eVar 1) (eC (.int 69621)))) (eC (.int 8191))) (aNil))) (eC (.int 2147483647)))) Q2
def Q0 : PV.Env → Option Fl := sIf (tb (bind2 opGt2 (bindA (op1 fLen) (aCons (eVar 0) (aNil))) (eC (.int 0)))) (sSet 2 (bind2 opIx (eVar 0) (bind2 opMod (eVar 1) (bindA (op1 fLen) (aCons (eVar 0) (aNil)))))) (sNext)
theorem q3_ok {s a c d : Option S} {b : Int} (h1 : 0 ≤ b) (h2 : b < 2147483647) : ∃ x : Int, 0 ≤ x ∧ x < 1000003 ∧ Q3 [s, a, c, d, some (.d (.int b)), none] = some (.rt (.d (.int x))) := by
  obtain ⟨x1, x2⟩ := mod_lt (a := (b * b + b / 11 + 40692) % 2147483563 / 5) (b := 1000003) (by omega)
  refine ⟨_, x1, x2, ?_⟩
  have m5 := mul_l (i := b) (j := b) (by omega) (by omega)
  have d3 : ∀ {i : Int}, opMod (.d (.int i)) (.d (.int 2147483563)) = some (.d (.int (i % 2147483563))) := mod_i (by omega)
  have d4 : ∀ {i : Int}, opMod (.d (.int i)) (.d (.int 1000003)) = some (.d (.int (i % 1000003))) := mod_i (by omega)
  have f2 := fdiv_i (i := b) (j := 11) (by omega) (by omega)
  have f3 : ∀ {i : Int}, opFdiv (.d (.int i)) (.d (.int 5)) = some (.d (.int (i / 5))) := fdiv_i (by omega) (by omega)
  unfold Q3
  simp only [mkF, sSeq, sSet, sIf, sRet, sRetN, sNext, sBrk, sCont, sDrop, sFrz, freeze, sPar, putAll, putR, outR, sAsg, sApp, sExt, sPop, sSetIx, sAug, sFor, ownAt, eVar, eC, bind1, bind2, bindA, aCons, aNil, op1, tb, tT', tru, isB, bAnd, bOr, bNot, eAnd, eOr, eNot, eIf, eTup, eLst, toD, toDs, eSl, pNo, pAt, eCall, isBor, noLR, fInt, fList, fTuple, unNeg, gNm, gTp, gAll, iRg1, iRg2, iSeq, itsOf, sv, lv, dv, tYesB, List.map_cons, List.map_nil, List.append_eq, List.cons_append, List.nil_append, List.replicate_succ, List.replicate_zero, Option.bind_some, Option.bind_none, Option.map_some, Option.map_none, Option.some_or, Option.none_or, List.getElem?_cons_zero, List.getElem?_cons_succ, List.set_cons_zero, List.set_cons_succ, List.length_cons, List.length_nil, List.any_cons, List.any_nil, if_true, if_false, ite_true, ite_false, Bool.false_eq_true, reduceIte, Nat.reduceAdd, Nat.reduceSub, Nat.reduceLT, Nat.reduceLeDiff, Bool.or_false, Bool.false_or, Bool.or_self, Bool.not_true, Bool.not_false, add_i, m5, d3, d4, f2, f3]
theorem q2_ok {s c : Option S} {a k : Int} (h1 : 0 ≤ a) (h2 : a < 2147483647) : ∃ x : Int, 0 ≤ x ∧ x < 1000003 ∧ Q2 [s, some (.d (.int k)), c, some (.d (.int a)), none, none] = some (.rt (.d (.int x))) := by
  have m3 := mul_l (i := a) (j := a) (by omega) (by omega)
  have m4 := mul_r (i := k) (j := 16807) (by omega) (by omega)
  have d2 : ∀ {i : Int}, opMod (.d (.int i)) (.d (.int 2147483629)) = some (.d (.int (i % 2147483629))) := mod_i (by omega)
  have f1 := fdiv_i (i := a) (j := 7) (by omega) (by omega)
  obtain ⟨b1, b2⟩ := mod_lt (a := a * a + a / 7 + k * 16807) (b := 2147483629) (by omega)
  obtain ⟨x, x1, x2, e⟩ := q3_ok (s := s) (a := some (.d (.int k))) (c := c) (d := some (.d (.int a))) b1 (by omega)
  refine ⟨x, x1, x2, ?_⟩
  unfold Q2
  simp only [mkF, sSeq, sSet, sIf, sRet, sRetN, sNext, sBrk, sCont, sDrop, sFrz, freeze, sPar, putAll, putR, outR, sAsg, sApp, sExt, sPop, sSetIx, sAug, sFor, ownAt, eVar, eC, bind1, bind2, bindA, aCons, aNil, op1, tb, tT', tru, isB, bAnd, bOr, bNot, eAnd, eOr, eNot, eIf, eTup, eLst, toD, toDs, eSl, pNo, pAt, eCall, isBor, noLR, fInt, fList, fTuple, unNeg, gNm, gTp, gAll, iRg1, iRg2, iSeq, itsOf, sv, lv, dv, tYesB, List.map_cons, List.map_nil, List.append_eq, List.cons_append, List.nil_append, List.replicate_succ, List.replicate_zero, Option.bind_some, Option.bind_none, Option.map_some, Option.map_none, Option.some_or, Option.none_or, List.getElem?_cons_zero, List.getElem?_cons_succ, List.set_cons_zero, List.set_cons_succ, List.length_cons, List.length_nil, List.any_cons, List.any_nil, if_true, if_false, ite_true, ite_false, Bool.false_eq_true, reduceIte, Nat.reduceAdd, Nat.reduceSub, Nat.reduceLT, Nat.reduceLeDiff, Bool.or_false, Bool.false_or, Bool.or_self, Bool.not_true, Bool.not_false, add_i, m3, m4, d2, f1, e]
theorem q1_ok {s : Option S} {c k : Int} : ∃ x : Int, 0 ≤ x ∧ x < 1000003 ∧ Q1 [s, some (.d (.int k)), some (.d (.int c)), none, none, none] = some (.rt (.d (.int x))) := by
  have m1 := mul_r (i := c) (j := 48271) (by omega) (by omega)
  have m2 := mul_r (i := k) (j := 69621) (by omega) (by omega)
  have d1 : ∀ {i : Int}, opMod (.d (.int i)) (.d (.int 2147483647)) = some (.d (.int (i % 2147483647))) := mod_i (by omega)
  obtain ⟨b1, b2⟩ := mod_lt (a := c * 48271 + k * 69621 + 8191) (b := 2147483647) (by omega)
  obtain ⟨x, x1, x2, e⟩ := q2_ok (s := s) (c := some (.d (.int c))) (k := k) b1 b2
  refine ⟨x, x1, x2, ?_⟩
  unfold Q1
  simp only [mkF, sSeq, sSet, sIf, sRet, sRetN, sNext, sBrk, sCont, sDrop, sFrz, freeze, sPar, putAll, putR, outR, sAsg, sApp, sExt, sPop, sSetIx, sAug, sFor, ownAt, eVar, eC, bind1, bind2, bindA, aCons, aNil, op1, tb, tT', tru, isB, bAnd, bOr, bNot, eAnd, eOr, eNot, eIf, eTup, eLst, toD, toDs, eSl, pNo, pAt, eCall, isBor, noLR, fInt, fList, fTuple, unNeg, gNm, gTp, gAll, iRg1, iRg2, iSeq, itsOf, sv, lv, dv, tYesB, List.map_cons, List.map_nil, List.append_eq, List.cons_append, List.nil_append, List.replicate_succ, List.replicate_zero, Option.bind_some, Option.bind_none, Option.map_some, Option.map_none, Option.some_or, Option.none_or, List.getElem?_cons_zero, List.getElem?_cons_succ, List.set_cons_zero, List.set_cons_succ, List.length_cons, List.length_nil, List.any_cons, List.any_nil, if_true, if_false, ite_true, ite_false, Bool.false_eq_true, reduceIte, Nat.reduceAdd, Nat.reduceSub, Nat.reduceLT, Nat.reduceLeDiff, Bool.or_false, Bool.false_or, Bool.or_self, Bool.not_true, Bool.not_false, add_i, m1, m2, d1, e]
theorem q0_ok (ns : List Int) (k : Nat) : ∃ c : Int, Q0 [some (.d (.dict (ns.map scrI))), some (.d (.int (k : Nat))), some (.d (.int 0)), none, none, none] = some (.nx [some (.d (.dict (ns.map scrI))), some (.d (.int (k : Nat))), some (.d (.int c)), none, none, none]) := by
  by_cases hn : ns.length = 0
  · have g : decide ((0 : Int) < (ns.length : Nat)) = false := decide_eq_false (by omega)
    refine ⟨0, ?_⟩
    unfold Q0
    simp only [mkF, sSeq, sSet, sIf, sRet, sRetN, sNext, sBrk, sCont, sDrop, sFrz, freeze, sPar, putAll, putR, outR, sAsg, sApp, sExt, sPop, sSetIx, sAug, sFor, ownAt, eVar, eC, bind1, bind2, bindA, aCons, aNil, op1, tb, tT', tru, isB, bAnd, bOr, bNot, eAnd, eOr, eNot, eIf, eTup, eLst, toD, toDs, eSl, pNo, pAt, eCall, isBor, noLR, fInt, fList, fTuple, unNeg, gNm, gTp, gAll, iRg1, iRg2, iSeq, itsOf, sv, lv, dv, tYesB, List.map_cons, List.map_nil, List.append_eq, List.cons_append, List.nil_append, List.replicate_succ, List.replicate_zero, Option.bind_some, Option.bind_none, Option.map_some, Option.map_none, Option.some_or, Option.none_or, List.getElem?_cons_zero, List.getElem?_cons_succ, List.set_cons_zero, List.set_cons_succ, List.length_cons, List.length_nil, List.any_cons, List.any_nil, if_true, if_false, ite_true, ite_false, Bool.false_eq_true, reduceIte, Nat.reduceAdd, Nat.reduceSub, Nat.reduceLT, Nat.reduceLeDiff, Bool.or_false, Bool.false_or, Bool.or_self, Bool.not_true, Bool.not_false, len_dict, gt_i, g]
  · have hm : ((k : Int) % (ns.length : Nat)).toNat < ns.length := by
      obtain ⟨h1, h2⟩ := mod_lt (a := (k : Int)) (b := (ns.length : Nat)) (by omega)
      omega
    have g : decide ((0 : Int) < (ns.length : Nat)) = true := decide_eq_true (by omega)
    have d1 := mod_i (i := (k : Int)) (j := (ns.length : Nat)) (by omega)
    have i1 := ix_dict (ns := ns) (i := (k : Int) % (ns.length : Nat)) (mod_lt (by omega)).1 (List.getElem?_eq_getElem hm)
    refine ⟨ns[((k : Int) % (ns.length : Nat)).toNat], ?_⟩
    unfold Q0
    simp only [mkF, sSeq, sSet, sIf, sRet, sRetN, sNext, sBrk, sCont, sDrop, sFrz, freeze, sPar, putAll, putR, outR, sAsg, sApp, sExt, sPop, sSetIx, sAug, sFor, ownAt, eVar, eC, bind1, bind2, bindA, aCons, aNil, op1, tb, tT', tru, isB, bAnd, bOr, bNot, eAnd, eOr, eNot, eIf, eTup, eLst, toD, toDs, eSl, pNo, pAt, eCall, isBor, noLR, fInt, fList, fTuple, unNeg, gNm, gTp, gAll, iRg1, iRg2, iSeq, itsOf, sv, lv, dv, tYesB, List.map_cons, List.map_nil, List.append_eq, List.cons_append, List.nil_append, List.replicate_succ, List.replicate_zero, Option.bind_some, Option.bind_none, Option.map_some, Option.map_none, Option.some_or, Option.none_or, List.getElem?_cons_zero, List.getElem?_cons_succ, List.set_cons_zero, List.set_cons_succ, List.length_cons, List.length_nil, List.any_cons, List.any_nil, if_true, if_false, ite_true, ite_false, Bool.false_eq_true, reduceIte, Nat.reduceAdd, Nat.reduceSub, Nat.reduceLT, Nat.reduceLeDiff, Bool.or_false, Bool.false_or, Bool.or_self, Bool.not_true, Bool.not_false, len_dict, gt_i, g, d1, i1]
theorem mixed_ok (ns : List Int) (k : Nat) : ∃ x : Int, 0 ≤ x ∧ x < 1000003 ∧ F__law_mixed [.dict (ns.map scrI), .int (k : Nat)] = some (.d (.int x)) := by
  obtain ⟨c, e0⟩ := q0_ok ns k
  obtain ⟨x, x1, x2, e1⟩ := q1_ok (s := some (.d (.dict (ns.map scrI)))) (c := c) (k := (k : Nat))
  refine ⟨x, x1, x2, ?_⟩
  have e : B__law_mixed = sSeq (sSet 2 (eC (.int 0))) (sSeq Q0 Q1) := rfl
  unfold F__law_mixed
  rw [e]
  simp only [mkF, sSeq, sSet, sIf, sRet, sRetN, sNext, sBrk, sCont, sDrop, sFrz, freeze, sPar, putAll, putR, outR, sAsg, sApp, sExt, sPop, sSetIx, sAug, sFor, ownAt, eVar, eC, bind1, bind2, bindA, aCons, aNil, op1, tb, tT', tru, isB, bAnd, bOr, bNot, eAnd, eOr, eNot, eIf, eTup, eLst, toD, toDs, eSl, pNo, pAt, eCall, isBor, noLR, fInt, fList, fTuple, unNeg, gNm, gTp, gAll, iRg1, iRg2, iSeq, itsOf, sv, lv, dv, tYesB, List.map_cons, List.map_nil, List.append_eq, List.cons_append, List.nil_append, List.replicate_succ, List.replicate_zero, Option.bind_some, Option.bind_none, Option.map_some, Option.map_none, Option.some_or, Option.none_or, List.getElem?_cons_zero, List.getElem?_cons_succ, List.set_cons_zero, List.set_cons_succ, List.length_cons, List.length_nil, List.any_cons, List.any_nil, if_true, if_false, ite_true, ite_false, Bool.false_eq_true, reduceIte, Nat.reduceAdd, Nat.reduceSub, Nat.reduceLT, Nat.reduceLeDiff, Bool.or_false, Bool.false_or, Bool.or_self, Bool.not_true, Bool.not_false, e0, e1]
end PV

namespace PV
open PySem L2
theorem lim_small {n : Nat} (h : n ≤ 1000) : n < LIM := Nat.lt_of_le_of_lt h (show 1000 < 1000000 by omega)
theorem lim_small' {n : Nat} (h : n ≤ 1000) : n ≤ LIM := Nat.le_of_lt (lim_small h)
/-- the row that a law reads from -/
theorem row_ok (ns : List Int) (many : Nat) (hm : many ≤ 1000) : ∃ row : List Int, row.length = many ∧ (∀ x ∈ row, 0 ≤ x ∧ x < 1000003) ∧ F__law_row [.dict (ns.map scrI), .int (many : Nat)] = some (.own (row.map .int)) := by
  have p18 : opPow (.d (.int 10)) (.d (.int 18)) = some (.d (.int 1000000000000000000)) := by
    show (if cPow 10 18 = true then some (R.d (.int (10 ^ (18 : Int).toNat))) else none) = _
    rw [if_pos (show cPow 10 18 = true by rfl)]
    rfl
  -- the loop
  have loop : ∀ big : Int, ∃ env', forL (gNm 4) P__law_row_1 (rngL 0 many) [some (.d (.dict (ns.map scrI))), some (.d (.int (many : Nat))), some (.d (.int big)), some (.own []), none] = some (.nx env') ∧
      ∃ row : List Int, row.length = many ∧ (∀ x ∈ row, 0 ≤ x ∧ x < 1000003) ∧ ∃ b j, env' = [some (.d (.dict (ns.map scrI))), some (.d (.int (many : Nat))), b, some (.own (row.map .int)), j] := by
    intro big
    obtain ⟨env', e, h⟩ := for_rg (tg := gNm 4) (body := P__law_row_1) (fun i env => i ≤ many ∧ ∃ row : List Int, row.length = i ∧ (∀ x ∈ row, 0 ≤ x ∧ x < 1000003) ∧ ∃ (b : Int) (j : Option S), env = [some (.d (.dict (ns.map scrI))), some (.d (.int (many : Nat))), some (.d (.int b)), some (.own (row.map .int)), j]) many (env := [some (.d (.dict (ns.map scrI))), some (.d (.int (many : Nat))), some (.d (.int big)), some (.own []), none])
      ⟨by omega, [], rfl, fun _ h => absurd h (by simp), big, none, rfl⟩ (by
        rintro i env hi ⟨hle, row, hr, hx, b, j, rfl⟩
        have hl : (row.map PyData.int).length < LIM := lim_small (by rw [List.length_map]; omega)
        by_cases hb : 0 < b
        · have g : decide (0 < b) = true := decide_eq_true hb
          have d1 := mod_i (i := b) (j := 1000) (by omega)
          have f1 := fdiv_i (i := b) (j := 1000) (by omega) (by omega)
          have e : P__law_row_1 [some (.d (.dict (ns.map scrI))), some (.d (.int (many : Nat))), some (.d (.int b)), some (.own (row.map .int)), some (.d (.int (i : Nat)))] = some (.nx [some (.d (.dict (ns.map scrI))), some (.d (.int (many : Nat))), some (.d (.int (b / 1000))), some (.own ((row ++ [b % 1000]).map .int)), some (.d (.int (i : Nat)))]) := by
            unfold P__law_row_1
            simp only [mkF, sSeq, sSet, sIf, sRet, sRetN, sNext, sBrk, sCont, sDrop, sFrz, freeze, sPar, putAll, putR, outR, sAsg, sApp, sExt, sPop, sSetIx, sAug, sFor, ownAt, eVar, eC, bind1, bind2, bindA, aCons, aNil, op1, tb, tT', tru, isB, bAnd, bOr, bNot, eAnd, eOr, eNot, eIf, eTup, eLst, toD, toDs, eSl, pNo, pAt, eCall, isBor, noLR, fInt, fList, fTuple, unNeg, gNm, gTp, gAll, iRg1, iRg2, iSeq, itsOf, sv, lv, dv, tYesB, List.map_cons, List.map_nil, List.append_eq, List.cons_append, List.nil_append, List.replicate_succ, List.replicate_zero, Option.bind_some, Option.bind_none, Option.map_some, Option.map_none, Option.some_or, Option.none_or, List.getElem?_cons_zero, List.getElem?_cons_succ, List.set_cons_zero, List.set_cons_succ, List.length_cons, List.length_nil, List.any_cons, List.any_nil, if_true, if_false, ite_true, ite_false, Bool.false_eq_true, reduceIte, Nat.reduceAdd, Nat.reduceSub, Nat.reduceLT, Nat.reduceLeDiff, Bool.or_false, Bool.false_or, Bool.or_self, Bool.not_true, Bool.not_false, gt_i, g, d1, f1, hl, List.map_append]
          refine ⟨_, _, rfl, e, _, .inl rfl, by omega, row ++ [b % 1000], by simp [hr], fun x hx' => ?_, b / 1000, _, rfl⟩
          rcases List.mem_append.mp hx' with h | h
          · exact hx x h
          · rw [List.mem_singleton.mp h]
            have := mod_lt (a := b) (b := 1000) (by omega)
            omega
        · have g : decide (0 < b) = false := decide_eq_false hb
          obtain ⟨x, x1, x2, ex⟩ := mixed_ok ns i
          have e : P__law_row_1 [some (.d (.dict (ns.map scrI))), some (.d (.int (many : Nat))), some (.d (.int b)), some (.own (row.map .int)), some (.d (.int (i : Nat)))] = some (.nx [some (.d (.dict (ns.map scrI))), some (.d (.int (many : Nat))), some (.d (.int b)), some (.own ((row ++ [x]).map .int)), some (.d (.int (i : Nat)))]) := by
            unfold P__law_row_1
            simp only [mkF, sSeq, sSet, sIf, sRet, sRetN, sNext, sBrk, sCont, sDrop, sFrz, freeze, sPar, putAll, putR, outR, sAsg, sApp, sExt, sPop, sSetIx, sAug, sFor, ownAt, eVar, eC, bind1, bind2, bindA, aCons, aNil, op1, tb, tT', tru, isB, bAnd, bOr, bNot, eAnd, eOr, eNot, eIf, eTup, eLst, toD, toDs, eSl, pNo, pAt, eCall, isBor, noLR, fInt, fList, fTuple, unNeg, gNm, gTp, gAll, iRg1, iRg2, iSeq, itsOf, sv, lv, dv, tYesB, List.map_cons, List.map_nil, List.append_eq, List.cons_append, List.nil_append, List.replicate_succ, List.replicate_zero, Option.bind_some, Option.bind_none, Option.map_some, Option.map_none, Option.some_or, Option.none_or, List.getElem?_cons_zero, List.getElem?_cons_succ, List.set_cons_zero, List.set_cons_succ, List.length_cons, List.length_nil, List.any_cons, List.any_nil, if_true, if_false, ite_true, ite_false, Bool.false_eq_true, reduceIte, Nat.reduceAdd, Nat.reduceSub, Nat.reduceLT, Nat.reduceLeDiff, Bool.or_false, Bool.false_or, Bool.or_self, Bool.not_true, Bool.not_false, gt_i, g, ex, hl, List.map_append]
          refine ⟨_, _, rfl, e, _, .inl rfl, by omega, row ++ [x], by simp [hr], fun y hy => ?_, b, _, rfl⟩
          rcases List.mem_append.mp hy with h | h
          · exact hx y h
          · rw [List.mem_singleton.mp h]
            exact ⟨x1, x2⟩)
    obtain ⟨_, row, h1, h2, b, j, h3⟩ := h
    exact ⟨env', e, row, h1, h2, _, _, h3⟩
  have hbig := rg1_i (n := many) (by omega)
  have fin : ∀ big : Int, ∃ row : List Int, row.length = many ∧ (∀ x ∈ row, 0 ≤ x ∧ x < 1000003) ∧ sSeq (sSet 3 (eLst (aNil))) (sSeq (sFor (iRg1 (aCons (eVar 1) (aNil))) (gNm 4) (P__law_row_1)) (sRet (eVar 3))) [some (.d (.dict (ns.map scrI))), some (.d (.int (many : Nat))), some (.d (.int big)), none, none] = some (.rt (.own (row.map .int))) := by
    intro big
    obtain ⟨env', e, row, h1, h2, b, j, rfl⟩ := loop big
    refine ⟨row, h1, h2, ?_⟩
    have hz : (0 : Nat) ≤ LIM := Nat.zero_le _
    simp only [mkF, sSeq, sSet, sIf, sRet, sRetN, sNext, sBrk, sCont, sDrop, sFrz, freeze, sPar, putAll, putR, outR, sAsg, sApp, sExt, sPop, sSetIx, sAug, sFor, ownAt, eVar, eC, bind1, bind2, bindA, aCons, aNil, op1, tb, tT', tru, isB, bAnd, bOr, bNot, eAnd, eOr, eNot, eIf, eTup, eLst, toD, toDs, eSl, pNo, pAt, eCall, isBor, noLR, fInt, fList, fTuple, unNeg, gNm, gTp, gAll, iRg1, iRg2, iSeq, itsOf, sv, lv, dv, tYesB, List.map_cons, List.map_nil, List.append_eq, List.cons_append, List.nil_append, List.replicate_succ, List.replicate_zero, Option.bind_some, Option.bind_none, Option.map_some, Option.map_none, Option.some_or, Option.none_or, List.getElem?_cons_zero, List.getElem?_cons_succ, List.set_cons_zero, List.set_cons_succ, List.length_cons, List.length_nil, List.any_cons, List.any_nil, if_true, if_false, ite_true, ite_false, Bool.false_eq_true, reduceIte, Nat.reduceAdd, Nat.reduceSub, Nat.reduceLT, Nat.reduceLeDiff, Bool.or_false, Bool.false_or, Bool.or_self, Bool.not_true, Bool.not_false, hbig, e, hz]
  unfold F__law_row B__law_row
  by_cases hn : ns.length = 0
  · obtain ⟨row, h1, h2, e⟩ := fin 0
    refine ⟨row, h1, h2, ?_⟩
    have g : decide ((0 : Int) < (ns.length : Nat)) = false := decide_eq_false (by omega)
    generalize hF : sSeq (sSet 3 _) _ = F at e ⊢
    simp only [mkF, sSeq, sSet, sIf, sRet, sRetN, sNext, sBrk, sCont, sDrop, sFrz, freeze, sPar, putAll, putR, outR, sAsg, sApp, sExt, sPop, sSetIx, sAug, sFor, ownAt, eVar, eC, bind1, bind2, bindA, aCons, aNil, op1, tb, tT', tru, isB, bAnd, bOr, bNot, eAnd, eOr, eNot, eIf, eTup, eLst, toD, toDs, eSl, pNo, pAt, eCall, isBor, noLR, fInt, fList, fTuple, unNeg, gNm, gTp, gAll, iRg1, iRg2, iSeq, itsOf, sv, lv, dv, tYesB, List.map_cons, List.map_nil, List.append_eq, List.cons_append, List.nil_append, List.replicate_succ, List.replicate_zero, Option.bind_some, Option.bind_none, Option.map_some, Option.map_none, Option.some_or, Option.none_or, List.getElem?_cons_zero, List.getElem?_cons_succ, List.set_cons_zero, List.set_cons_succ, List.length_cons, List.length_nil, List.any_cons, List.any_nil, if_true, if_false, ite_true, ite_false, Bool.false_eq_true, reduceIte, Nat.reduceAdd, Nat.reduceSub, Nat.reduceLT, Nat.reduceLeDiff, Bool.or_false, Bool.false_or, Bool.or_self, Bool.not_true, Bool.not_false, len_dict, gt_i, g, e]
  · have g : decide ((0 : Int) < (ns.length : Nat)) = true := decide_eq_true (by omega)
    obtain ⟨x, hx⟩ : ∃ x, ns[(0 : Int).toNat]? = some x := ⟨ns[0]'(by omega), List.getElem?_eq_getElem (by omega)⟩
    have i1 := ix_dict (ns := ns) (i := 0) (by omega) hx
    by_cases hc : (1000000000000000000 : Int) ≤ x
    · obtain ⟨row, h1, h2, e⟩ := fin x
      refine ⟨row, h1, h2, ?_⟩
      generalize hF : sSeq (sSet 3 _) _ = F at e ⊢
      simp only [mkF, sSeq, sSet, sIf, sRet, sRetN, sNext, sBrk, sCont, sDrop, sFrz, freeze, sPar, putAll, putR, outR, sAsg, sApp, sExt, sPop, sSetIx, sAug, sFor, ownAt, eVar, eC, bind1, bind2, bindA, aCons, aNil, op1, tb, tT', tru, isB, bAnd, bOr, bNot, eAnd, eOr, eNot, eIf, eTup, eLst, toD, toDs, eSl, pNo, pAt, eCall, isBor, noLR, fInt, fList, fTuple, unNeg, gNm, gTp, gAll, iRg1, iRg2, iSeq, itsOf, sv, lv, dv, tYesB, List.map_cons, List.map_nil, List.append_eq, List.cons_append, List.nil_append, List.replicate_succ, List.replicate_zero, Option.bind_some, Option.bind_none, Option.map_some, Option.map_none, Option.some_or, Option.none_or, List.getElem?_cons_zero, List.getElem?_cons_succ, List.set_cons_zero, List.set_cons_succ, List.length_cons, List.length_nil, List.any_cons, List.any_nil, if_true, if_false, ite_true, ite_false, Bool.false_eq_true, reduceIte, Nat.reduceAdd, Nat.reduceSub, Nat.reduceLT, Nat.reduceLeDiff, Bool.or_false, Bool.false_or, Bool.or_self, Bool.not_true, Bool.not_false, len_dict, gt_i, ge_i, g, i1, p18, decide_eq_true hc, e]
    · obtain ⟨row, h1, h2, e⟩ := fin 0
      refine ⟨row, h1, h2, ?_⟩
      generalize hF : sSeq (sSet 3 _) _ = F at e ⊢
      simp only [mkF, sSeq, sSet, sIf, sRet, sRetN, sNext, sBrk, sCont, sDrop, sFrz, freeze, sPar, putAll, putR, outR, sAsg, sApp, sExt, sPop, sSetIx, sAug, sFor, ownAt, eVar, eC, bind1, bind2, bindA, aCons, aNil, op1, tb, tT', tru, isB, bAnd, bOr, bNot, eAnd, eOr, eNot, eIf, eTup, eLst, toD, toDs, eSl, pNo, pAt, eCall, isBor, noLR, fInt, fList, fTuple, unNeg, gNm, gTp, gAll, iRg1, iRg2, iSeq, itsOf, sv, lv, dv, tYesB, List.map_cons, List.map_nil, List.append_eq, List.cons_append, List.nil_append, List.replicate_succ, List.replicate_zero, Option.bind_some, Option.bind_none, Option.map_some, Option.map_none, Option.some_or, Option.none_or, List.getElem?_cons_zero, List.getElem?_cons_succ, List.set_cons_zero, List.set_cons_succ, List.length_cons, List.length_nil, List.any_cons, List.any_nil, if_true, if_false, ite_true, ite_false, Bool.false_eq_true, reduceIte, Nat.reduceAdd, Nat.reduceSub, Nat.reduceLT, Nat.reduceLeDiff, Bool.or_false, Bool.false_or, Bool.or_self, Bool.not_true, Bool.not_false, len_dict, gt_i, ge_i, g, i1, p18, decide_eq_false hc, e]

/-! ### comprehensions, loops over typed items -/
theorem lc_enc {α : Type} {tg : G} {tt : Env → Option Bool} {te : Env → Option R} {env : Env} (e : α → PyData) (p : α → Bool) (g : α → PyData) : ∀ (xs : List α), (∀ x ∈ xs, ∃ env1, tg (e x) env = some env1 ∧ tt env1 = some (p x) ∧ (p x = true → (te env1).bind toD = some (g x))) →
    lcGo tg tt te env (xs.map e) = some ((xs.filter p).map g)
  | [], _ => rfl
  | x :: xs, h => by
    obtain ⟨env1, h1, h2, h3⟩ := h x List.mem_cons_self
    have ih := lc_enc e p g xs fun y hy => h y (List.mem_cons_of_mem _ hy)
    rw [List.map_cons]
    unfold lcGo
    rw [h1, Option.bind_some, h2, Option.bind_some]
    cases hp : p x with
    | true =>
      rw [if_pos rfl, h3 hp, Option.bind_some, ih, List.filter_cons_of_pos hp]
      rfl
    | false =>
      rw [if_neg Bool.false_ne_true, ih, List.filter_cons_of_neg (by rw [hp]; exact Bool.false_ne_true)]
theorem lc_all {α : Type} {tg : G} {te : Env → Option R} {env : Env} (e : α → PyData) (g : α → PyData) (xs : List α) (h : ∀ x ∈ xs, ∃ env1, tg (e x) env = some env1 ∧ (te env1).bind toD = some (g x)) :
    lcGo tg tYesB te env (xs.map e) = some (xs.map g) := by
  have := lc_enc (tt := tYesB) (tg := tg) (te := te) (env := env) e (fun _ => true) g xs fun x hx => by
    obtain ⟨env1, h1, h2⟩ := h x hx
    exact ⟨env1, h1, rfl, fun _ => h2⟩
  rw [List.filter_eq_self.mpr (fun _ _ => rfl)] at this
  exact this
theorem rngL_nat (n : Nat) : rngL 0 n = (List.range n).map fun i => .int (i : Nat) := by
  unfold rngL
  refine List.map_congr_left fun i _ => ?_
  rw [Int.zero_add]
theorem for_enc {α : Type} {tg : G} {body : Env → Option Fl} (e : α → PyData) (I : Nat → Env → Prop) (xs : List α) {env : Env} (h0 : I 0 env)
    (hs : ∀ i x env, xs[i]? = some x → I i env → ∃ env1 fl, tg (e x) env = some env1 ∧ body env1 = some fl ∧ ∃ env2, (fl = .nx env2 ∨ fl = .ct env2) ∧ I (i + 1) env2) :
    ∃ env', forL tg body (xs.map e) env = some (.nx env') ∧ I xs.length env' := by
  obtain ⟨env', e1, h⟩ := forL_inv I (xs.map e) 0 env h0 fun i d env hi hI => by
    rw [List.getElem?_map] at hi
    obtain ⟨x, hx, rfl⟩ := Option.map_eq_some_iff.mp hi
    rw [Nat.zero_add] at hI ⊢
    exact hs i x env hx hI
  rw [Nat.zero_add, List.length_map] at h
  exact ⟨env', e1, h⟩
theorem while_inv {c : Env → Option Bool} {body : Env → Option Fl} (I : Nat → Env → Prop) (hs : ∀ k env, I k env → c env = some false ∨ (c env = some true ∧ ∃ env2 k', body env = some (.nx env2) ∧ k' < k ∧ I k' env2)) :
    ∀ (n k : Nat) (env : Env), k < n → I k env → ∃ env' k', whileL c body n env = some (.nx env') ∧ I k' env' ∧ c env' = some false
  | 0, _, _, h, _ => absurd h (Nat.not_lt_zero _)
  | n + 1, k, env, h, hI => by
    unfold whileL
    rcases hs k env hI with e | ⟨e, env2, k', e2, hk, hI2⟩
    · rw [e, Option.bind_some, if_neg Bool.false_ne_true]
      exact ⟨env, k, rfl, hI, e⟩
    · rw [e, Option.bind_some, if_pos rfl, e2, Option.bind_some]
      exact while_inv I hs n k' env2 (by omega) hI2

/-! ### likeness -/
theorem isT_d (d : PyData) (T : String) : isT T (.d d) = (kitB (tyOf d) T).map fun b => .d (.bool b) := rfl
theorem kt1 : kitB "NoneType" "bool" = some false := by decide +kernel
theorem kt2 : kitB "NoneType" "tuple" = some false := by decide +kernel
theorem kt3 : kitB "NoneType" "str" = some false := by decide +kernel
theorem kt4 : kitB "NoneType" "int" = some false := by decide +kernel
theorem kb1 : kitB "bool" "bool" = some true := by decide +kernel
theorem kb2 : kitB "bool" "tuple" = some false := by decide +kernel
theorem kb3 : kitB "bool" "str" = some false := by decide +kernel
theorem kb4 : kitB "bool" "int" = some true := by decide +kernel
theorem ki1 : kitB "int" "bool" = some false := by decide +kernel
theorem ki2 : kitB "int" "tuple" = some false := by decide +kernel
theorem ki3 : kitB "int" "str" = some false := by decide +kernel
theorem ki4 : kitB "int" "int" = some true := by decide +kernel
theorem ku1 : kitB "tuple" "bool" = some false := by decide +kernel
theorem ku2 : kitB "tuple" "tuple" = some true := by decide +kernel
theorem ku3 : kitB "tuple" "str" = some false := by decide +kernel
theorem ku4 : kitB "tuple" "int" = some false := by decide +kernel
theorem ks1 : kitB "str" "bool" = some false := by decide +kernel
theorem ks2 : kitB "str" "tuple" = some false := by decide +kernel
theorem ks3 : kitB "str" "str" = some true := by decide +kernel
theorem ks4 : kitB "str" "int" = some false := by decide +kernel
theorem isN_n : opIsN (.d .none) (.d .none) = some (.d (.bool true)) := rfl
theorem isN_b (b : Bool) : opIsN (.d (.bool b)) (.d .none) = some (.d (.bool false)) := rfl
theorem isN_i (i : Int) : opIsN (.d (.int i)) (.d .none) = some (.d (.bool false)) := rfl
theorem isN_s (z : Str) : opIsN (.d (.str z)) (.d .none) = some (.d (.bool false)) := rfl
theorem isN_t (xs : List PyData) : opIsN (.d (.tuple xs)) (.d .none) = some (.d (.bool false)) := rfl
theorem eq_refl (d : PyData) (h : okD d = true) : opEq2 (.d d) (.d d) = some (.d (.bool true)) := by
  unfold opEq2 opD2
  show (if (okD d && okD d) = true then some (R.d (.bool (PyData.eqv d d))) else none) = _
  rw [if_pos (by rw [h]; rfl), PySem.SeqAt.eqv_refl_plain d (okD_1 h)]
theorem isint_i (i : Int) : F__law_is_int [.int i] = some (.d (.bool true)) := by
  unfold F__law_is_int B__law_is_int
  simp only [mkF, sSeq, sSet, sIf, sRet, sRetN, sNext, sBrk, sCont, sDrop, sFrz, freeze, sPar, putAll, putR, outR, sAsg, sApp, sExt, sPop, sSetIx, sAug, sFor, ownAt, eVar, eC, bind1, bind2, bindA, aCons, aNil, op1, tb, tT', tru, isB, bAnd, bOr, bNot, eAnd, eOr, eNot, eIf, eTup, eLst, toD, toDs, eSl, pNo, pAt, eCall, isBor, noLR, fInt, fList, fTuple, unNeg, gNm, gTp, gAll, iRg1, iRg2, iSeq, itsOf, sv, lv, dv, tYesB, List.map_cons, List.map_nil, List.append_eq, List.cons_append, List.nil_append, List.replicate_succ, List.replicate_zero, Option.bind_some, Option.bind_none, Option.map_some, Option.map_none, Option.some_or, Option.none_or, List.getElem?_cons_zero, List.getElem?_cons_succ, List.set_cons_zero, List.set_cons_succ, List.length_cons, List.length_nil, List.any_cons, List.any_nil, if_true, if_false, ite_true, ite_false, Bool.false_eq_true, reduceIte, Nat.reduceAdd, Nat.reduceSub, Nat.reduceLT, Nat.reduceLeDiff, Bool.or_false, Bool.false_or, Bool.or_self, Bool.not_true, Bool.not_false, isT_d, tyOf, ki1, ki4]
/-- what likeness can be asked of -/
def lk : Nat → PyData → Bool
  | 0, _ => false
  | _ + 1, .none => true
  | _ + 1, .bool _ => true
  | _ + 1, .int _ => true
  | _ + 1, .str _ => true
  | n + 1, .tuple xs => xs.all (lk n) && Nat.ble xs.length 1000
  | _ + 1, _ => false
theorem fAll_true (n : Nat) : fAll (.own (List.replicate n (.bool true))) = some (.d (.bool true)) := by
  have h : bsOf (List.replicate n (.bool true)) = some (List.replicate n true) := by
    have := bsOf_map (List.replicate n true)
    rw [List.map_replicate] at this
    exact this
  show ((some (List.replicate n (PyData.bool true))).bind fun xs => (bsOf xs).map fun ns => R.d (.bool (ns.all id))) = _
  rw [Option.bind_some, h]
  show some (R.d (.bool ((List.replicate n true).all id))) = _
  congr 3
  rw [List.all_eq_true]
  intro x hx
  rw [List.eq_of_mem_replicate hx]
  rfl
theorem like_refl : ∀ (n : Nat) (d : PyData), lk n d = true → F__law_like n [d, d] = some (.d (.bool true))
  | 0, _, h => by cases h
  | n + 1, .none, _ => by
    unfold F__law_like B__law_like
    simp only [mkF, sSeq, sSet, sIf, sRet, sRetN, sNext, sBrk, sCont, sDrop, sFrz, freeze, sPar, putAll, putR, outR, sAsg, sApp, sExt, sPop, sSetIx, sAug, sFor, ownAt, eVar, eC, bind1, bind2, bindA, aCons, aNil, op1, tb, tT', tru, isB, bAnd, bOr, bNot, eAnd, eOr, eNot, eIf, eTup, eLst, toD, toDs, eSl, pNo, pAt, eCall, isBor, noLR, fInt, fList, fTuple, unNeg, gNm, gTp, gAll, iRg1, iRg2, iSeq, itsOf, sv, lv, dv, tYesB, List.map_cons, List.map_nil, List.append_eq, List.cons_append, List.nil_append, List.replicate_succ, List.replicate_zero, Option.bind_some, Option.bind_none, Option.map_some, Option.map_none, Option.some_or, Option.none_or, List.getElem?_cons_zero, List.getElem?_cons_succ, List.set_cons_zero, List.set_cons_succ, List.length_cons, List.length_nil, List.any_cons, List.any_nil, if_true, if_false, ite_true, ite_false, Bool.false_eq_true, reduceIte, Nat.reduceAdd, Nat.reduceSub, Nat.reduceLT, Nat.reduceLeDiff, Bool.or_false, Bool.false_or, Bool.or_self, Bool.not_true, Bool.not_false, isN_n]
  | n + 1, .bool b, _ => by
    unfold F__law_like B__law_like
    simp only [mkF, sSeq, sSet, sIf, sRet, sRetN, sNext, sBrk, sCont, sDrop, sFrz, freeze, sPar, putAll, putR, outR, sAsg, sApp, sExt, sPop, sSetIx, sAug, sFor, ownAt, eVar, eC, bind1, bind2, bindA, aCons, aNil, op1, tb, tT', tru, isB, bAnd, bOr, bNot, eAnd, eOr, eNot, eIf, eTup, eLst, toD, toDs, eSl, pNo, pAt, eCall, isBor, noLR, fInt, fList, fTuple, unNeg, gNm, gTp, gAll, iRg1, iRg2, iSeq, itsOf, sv, lv, dv, tYesB, List.map_cons, List.map_nil, List.append_eq, List.cons_append, List.nil_append, List.replicate_succ, List.replicate_zero, Option.bind_some, Option.bind_none, Option.map_some, Option.map_none, Option.some_or, Option.none_or, List.getElem?_cons_zero, List.getElem?_cons_succ, List.set_cons_zero, List.set_cons_succ, List.length_cons, List.length_nil, List.any_cons, List.any_nil, if_true, if_false, ite_true, ite_false, Bool.false_eq_true, reduceIte, Nat.reduceAdd, Nat.reduceSub, Nat.reduceLT, Nat.reduceLeDiff, Bool.or_false, Bool.false_or, Bool.or_self, Bool.not_true, Bool.not_false, isN_b, isT_d, tyOf, kb1, eq_refl (.bool b) rfl]
  | n + 1, .int b, _ => by
    unfold F__law_like B__law_like
    simp only [mkF, sSeq, sSet, sIf, sRet, sRetN, sNext, sBrk, sCont, sDrop, sFrz, freeze, sPar, putAll, putR, outR, sAsg, sApp, sExt, sPop, sSetIx, sAug, sFor, ownAt, eVar, eC, bind1, bind2, bindA, aCons, aNil, op1, tb, tT', tru, isB, bAnd, bOr, bNot, eAnd, eOr, eNot, eIf, eTup, eLst, toD, toDs, eSl, pNo, pAt, eCall, isBor, noLR, fInt, fList, fTuple, unNeg, gNm, gTp, gAll, iRg1, iRg2, iSeq, itsOf, sv, lv, dv, tYesB, List.map_cons, List.map_nil, List.append_eq, List.cons_append, List.nil_append, List.replicate_succ, List.replicate_zero, Option.bind_some, Option.bind_none, Option.map_some, Option.map_none, Option.some_or, Option.none_or, List.getElem?_cons_zero, List.getElem?_cons_succ, List.set_cons_zero, List.set_cons_succ, List.length_cons, List.length_nil, List.any_cons, List.any_nil, if_true, if_false, ite_true, ite_false, Bool.false_eq_true, reduceIte, Nat.reduceAdd, Nat.reduceSub, Nat.reduceLT, Nat.reduceLeDiff, Bool.or_false, Bool.false_or, Bool.or_self, Bool.not_true, Bool.not_false, isN_i, isT_d, tyOf, ki1, ki2, ki3, eq_refl (.int b) rfl, isint_i]
  | n + 1, .str b, _ => by
    unfold F__law_like B__law_like
    simp only [mkF, sSeq, sSet, sIf, sRet, sRetN, sNext, sBrk, sCont, sDrop, sFrz, freeze, sPar, putAll, putR, outR, sAsg, sApp, sExt, sPop, sSetIx, sAug, sFor, ownAt, eVar, eC, bind1, bind2, bindA, aCons, aNil, op1, tb, tT', tru, isB, bAnd, bOr, bNot, eAnd, eOr, eNot, eIf, eTup, eLst, toD, toDs, eSl, pNo, pAt, eCall, isBor, noLR, fInt, fList, fTuple, unNeg, gNm, gTp, gAll, iRg1, iRg2, iSeq, itsOf, sv, lv, dv, tYesB, List.map_cons, List.map_nil, List.append_eq, List.cons_append, List.nil_append, List.replicate_succ, List.replicate_zero, Option.bind_some, Option.bind_none, Option.map_some, Option.map_none, Option.some_or, Option.none_or, List.getElem?_cons_zero, List.getElem?_cons_succ, List.set_cons_zero, List.set_cons_succ, List.length_cons, List.length_nil, List.any_cons, List.any_nil, if_true, if_false, ite_true, ite_false, Bool.false_eq_true, reduceIte, Nat.reduceAdd, Nat.reduceSub, Nat.reduceLT, Nat.reduceLeDiff, Bool.or_false, Bool.false_or, Bool.or_self, Bool.not_true, Bool.not_false, isN_s, isT_d, tyOf, ks1, ks2, ks3, eq_refl (.str b) rfl]
  | n + 1, .tuple xs, h => by
    have h' : (xs.all (lk n) && Nat.ble xs.length 1000) = true := h
    simp only [Bool.and_eq_true, List.all_eq_true, Nat.ble_eq] at h'
    obtain ⟨h1, h2⟩ := h'
    have rg := rg1_i (n := xs.length) (by omega)
    have lc : lcGo (gNm 2) tYesB (eCall 2 (F__law_like n) (aCons (bind2 opIx (eVar 0) (eVar 2)) (aCons (bind2 opIx (eVar 1) (eVar 2)) (aNil)))) [some (.d (.tuple xs)), some (.d (.tuple xs)), none] (rngL 0 xs.length) = some (List.replicate xs.length (.bool true)) := by
      rw [rngL_nat, lc_all (g := fun _ => .bool true)]
      · rw [List.map_const', List.length_range]
      · intro i hi
        have hi := List.mem_range.mp hi
        refine ⟨_, rfl, ?_⟩
        have hx : xs[(i : Int).toNat]? = some xs[i] := by rw [Int.toNat_natCast]; exact List.getElem?_eq_getElem hi
        have i1 := ix_tup (xs := xs) (i := (i : Nat)) (by omega) hx
        simp only [mkF, sSeq, sSet, sIf, sRet, sRetN, sNext, sBrk, sCont, sDrop, sFrz, freeze, sPar, putAll, putR, outR, sAsg, sApp, sExt, sPop, sSetIx, sAug, sFor, ownAt, eVar, eC, bind1, bind2, bindA, aCons, aNil, op1, tb, tT', tru, isB, bAnd, bOr, bNot, eAnd, eOr, eNot, eIf, eTup, eLst, toD, toDs, eSl, pNo, pAt, eCall, isBor, noLR, fInt, fList, fTuple, unNeg, gNm, gTp, gAll, iRg1, iRg2, iSeq, itsOf, sv, lv, dv, tYesB, List.map_cons, List.map_nil, List.append_eq, List.cons_append, List.nil_append, List.replicate_succ, List.replicate_zero, Option.bind_some, Option.bind_none, Option.map_some, Option.map_none, Option.some_or, Option.none_or, List.getElem?_cons_zero, List.getElem?_cons_succ, List.set_cons_zero, List.set_cons_succ, List.length_cons, List.length_nil, List.any_cons, List.any_nil, if_true, if_false, ite_true, ite_false, Bool.false_eq_true, reduceIte, Nat.reduceAdd, Nat.reduceSub, Nat.reduceLT, Nat.reduceLeDiff, Bool.or_false, Bool.false_or, Bool.or_self, Bool.not_true, Bool.not_false, i1, like_refl n xs[i] (h1 _ (List.getElem_mem hi))]
    have hl : (List.replicate xs.length (PyData.bool true)).length = xs.length := List.length_replicate
    have hlim : (rngL 0 xs.length).length < LIM := lim_small (by unfold rngL; rw [List.length_map, List.length_range]; exact h2)
    have hne : opNe2 (.d (.int (xs.length : Nat))) (.d (.int (xs.length : Nat))) = some (.d (.bool false)) := by rw [ne_i]; simp
    unfold F__law_like B__law_like
    simp only [mkF, sSeq, sSet, sIf, sRet, sRetN, sNext, sBrk, sCont, sDrop, sFrz, freeze, sPar, putAll, putR, outR, sAsg, sApp, sExt, sPop, sSetIx, sAug, sFor, ownAt, eVar, eC, bind1, bind2, bindA, aCons, aNil, op1, tb, tT', tru, isB, bAnd, bOr, bNot, eAnd, eOr, eNot, eIf, eTup, eLst, toD, toDs, eSl, pNo, pAt, eCall, isBor, noLR, fInt, fList, fTuple, unNeg, gNm, gTp, gAll, iRg1, iRg2, iSeq, itsOf, sv, lv, dv, tYesB, List.map_cons, List.map_nil, List.append_eq, List.cons_append, List.nil_append, List.replicate_succ, List.replicate_zero, Option.bind_some, Option.bind_none, Option.map_some, Option.map_none, Option.some_or, Option.none_or, List.getElem?_cons_zero, List.getElem?_cons_succ, List.set_cons_zero, List.set_cons_succ, List.length_cons, List.length_nil, List.any_cons, List.any_nil, if_true, if_false, ite_true, ite_false, Bool.false_eq_true, reduceIte, Nat.reduceAdd, Nat.reduceSub, Nat.reduceLT, Nat.reduceLeDiff, Bool.or_false, Bool.false_or, Bool.or_self, Bool.not_true, Bool.not_false, isN_t, isT_d, tyOf, ku1, ku2, len_tup, hne, eLc, wipeE, rg, hlim, lc, fAll_true]
  | _ + 1, .list _, h => by cases h
  | _ + 1, .dict _, h => by cases h
end PV

/-! PVM: typed data: tuples of whole numbers; the least; slices -/
namespace PV
open PySem L2 PySem.W

theorem seq_nx {f g : Env → Option Fl} {e e2 : Env} (h : f e = some (.nx e2)) : sSeq f g e = g e2 := by
  unfold sSeq
  rw [h]
  rfl
theorem seq_rt {f g : Env → Option Fl} {e : Env} {r : R} (h : f e = some (.rt r)) : sSeq f g e = some (.rt r) := by
  unfold sSeq
  rw [h]
  rfl
def isTrueR : Option R → Bool
  | some (.d (.bool true)) => true
  | _ => false
theorem isTrueR_eq {r : Option R} (h : isTrueR r = true) : r = some (.d (.bool true)) := by
  unfold isTrueR at h
  split at h
  · rfl
  · cases h
/-- a tuple of whole numbers -/
def tuI (ns : List Int) : PyData := .tuple (ns.map .int)
section
variable {α : Type} [DecidableEq α]
theorem okD_of [Datum α] (a : α) (h : Datum.depth α ≤ 60 := by decide) : okD (Datum.toD a) = true := by
  unfold okD
  rw [Datum.plain a, Bool.true_and]
  exact decide_eq_true (Nat.le_trans (Datum.depth_le a) h)
theorem okDs_of [Datum α] (xs : List α) (h : Datum.depth α ≤ 59 := by decide) : okDs (xs.map Datum.toD) = true := by
  unfold okDs
  rw [plainAll_map, Bool.true_and]
  exact decide_eq_true (Nat.le_trans (depthAll_map xs) h)
theorem eq_of [Datum α] {r q : R} (a b : α) (e1 : dv r = Datum.toD a) (e2 : dv q = Datum.toD b) (h : Datum.depth α ≤ 60 := by decide) : opEq2 r q = some (.d (.bool (decide (a = b)))) := by
  unfold opEq2 opD2
  rw [e1, e2]
  show (if (okD (Datum.toD a) && okD (Datum.toD b)) = true then some (R.d (.bool (PyData.eqv (Datum.toD a) (Datum.toD b)))) else none) = _
  rw [okD_of a h, okD_of b h, Bool.and_self, if_pos rfl, Datum.eqv]
theorem ne_of [Datum α] {r q : R} (a b : α) (e1 : dv r = Datum.toD a) (e2 : dv q = Datum.toD b) (h : Datum.depth α ≤ 60 := by decide) : opNe2 r q = some (.d (.bool (!decide (a = b)))) := by
  unfold opNe2 opD2
  rw [e1, e2]
  show (if (okD (Datum.toD a) && okD (Datum.toD b)) = true then some (R.d (.bool (!PyData.eqv (Datum.toD a) (Datum.toD b)))) else none) = _
  rw [okD_of a h, okD_of b h, Bool.and_self, if_pos rfl, Datum.eqv]
theorem alikeB_of [DatumOrd α] : ∀ xs : List α, alikeB (xs.map Datum.toD) = true
  | [] => rfl
  | x :: xs => by
    rw [List.map_cons]
    unfold alikeB
    have h1 : isNon (Datum.toD x) = false := by
      have := DatumOrd.notNone x
      revert this
      cases Datum.toD x <;> intro h <;> first | rfl | exact absurd rfl h
    have h2 : ((xs.map Datum.toD).all fun y => alike (Datum.toD x) y && alike y (Datum.toD x)) = true := by
      rw [List.all_eq_true]
      intro y hy
      obtain ⟨z, _, rfl⟩ := List.mem_map.mp hy
      rw [DatumOrd.alike, DatumOrd.alike]
      rfl
    rw [h1, h2, DatumOrd.alike, alikeB_of xs]
    rfl
theorem min_of [DatumOrd α] {r : R} (x : α) (xs : List α) (e : sv r = some ((x :: xs).map Datum.toD)) (h : Datum.depth α ≤ 59 := by decide) : fMin r = some (.d (Datum.toD (minOf x xs))) := by
  unfold fMin
  rw [e, Option.bind_some, List.map_cons]
  show (if cMin (Datum.toD x :: xs.map Datum.toD) = true then some (R.d (minD (Datum.toD x) (xs.map Datum.toD))) else none) = _
  have hc : cMin (Datum.toD x :: xs.map Datum.toD) = true := by
    unfold cMin
    rw [← List.map_cons, okDs_of _ h, alikeB_of]
    rfl
  rw [if_pos hc, minD_map]
theorem max_of [DatumOrd α] {r : R} (x : α) (xs : List α) (e : sv r = some ((x :: xs).map Datum.toD)) (h : Datum.depth α ≤ 59 := by decide) : fMax r = some (.d (Datum.toD (maxOf x xs))) := by
  unfold fMax
  rw [e, Option.bind_some, List.map_cons]
  show (if cMin (Datum.toD x :: xs.map Datum.toD) = true then some (R.d (maxD (Datum.toD x) (xs.map Datum.toD))) else none) = _
  have hc : cMin (Datum.toD x :: xs.map Datum.toD) = true := by
    unfold cMin
    rw [← List.map_cons, okDs_of _ h, alikeB_of]
    rfl
  rw [if_pos hc, maxD_map]
theorem any_eqv [Datum α] (x : α) (xs : List α) : ((xs.map Datum.toD).any fun y => PyData.eqv y (Datum.toD x)) = decide (x ∈ xs) := by
  rw [List.any_map]
  induction xs with
  | nil => simp
  | cons y ys ih =>
    rw [List.any_cons, ih]
    show (PyData.eqv (Datum.toD y) (Datum.toD x) || decide (x ∈ ys)) = _
    rw [Datum.eqv, ← Bool.decide_or]
    exact decide_eq_decide.mpr ⟨fun h => by rcases h with h | h <;> simp [h], fun h => by
      rcases List.mem_cons.mp h with h | h
      · exact .inl h.symm
      · exact .inr h⟩
theorem in_of [Datum α] {r q : R} (x : α) (xs : List α) (e1 : dv r = Datum.toD x) (e2 : dv q = .list (xs.map Datum.toD) ∨ dv q = .tuple (xs.map Datum.toD)) (h : Datum.depth α ≤ 59 := by decide) : opIn r q = some (.d (.bool (decide (x ∈ xs)))) := by
  have hc : (okD (Datum.toD x) && okDs (xs.map Datum.toD)) = true := by rw [okD_of x (Nat.le_succ_of_le h), okDs_of xs h]; rfl
  unfold opIn opD2
  rcases e2 with e2 | e2
  · rw [e1, e2]
    show (if (okD (Datum.toD x) && okDs (xs.map Datum.toD)) = true then some (R.d (.bool ((xs.map Datum.toD).any fun y => PyData.eqv y (Datum.toD x)))) else none) = _
    rw [if_pos hc, any_eqv]
  · rw [e1, e2]
    show (if (okD (Datum.toD x) && okDs (xs.map Datum.toD)) = true then some (R.d (.bool ((xs.map Datum.toD).any fun y => PyData.eqv y (Datum.toD x)))) else none) = _
    rw [if_pos hc, any_eqv]
theorem notIn_of [Datum α] {r q : R} (x : α) (xs : List α) (e1 : dv r = Datum.toD x) (e2 : dv q = .list (xs.map Datum.toD) ∨ dv q = .tuple (xs.map Datum.toD)) (h : Datum.depth α ≤ 59 := by decide) : opNotIn r q = some (.d (.bool (!decide (x ∈ xs)))) := by
  have hc : (okD (Datum.toD x) && okDs (xs.map Datum.toD)) = true := by rw [okD_of x (Nat.le_succ_of_le h), okDs_of xs h]; rfl
  unfold opNotIn opD2
  rcases e2 with e2 | e2
  · rw [e1, e2]
    show (if (okD (Datum.toD x) && okDs (xs.map Datum.toD)) = true then some (R.d (.bool (!((xs.map Datum.toD).any fun y => PyData.eqv y (Datum.toD x))))) else none) = _
    rw [if_pos hc, any_eqv]
  · rw [e1, e2]
    show (if (okD (Datum.toD x) && okDs (xs.map Datum.toD)) = true then some (R.d (.bool (!((xs.map Datum.toD).any fun y => PyData.eqv y (Datum.toD x))))) else none) = _
    rw [if_pos hc, any_eqv]
end
/-! ### whole numbers -/
theorem eq_tuI (a b : List Int) : opEq2 (.d (tuI a)) (.d (tuI b)) = some (.d (.bool (decide (a = b)))) := by
  rw [eq_of (α := Tup Int) ⟨a⟩ ⟨b⟩ rfl rfl]
  congr 3
  exact decide_eq_decide.mpr ⟨fun h => congrArg Tup.items h, fun h => by rw [h]⟩
theorem ne_tuI (a b : List Int) : opNe2 (.d (tuI a)) (.d (tuI b)) = some (.d (.bool (!decide (a = b)))) := by
  rw [ne_of (α := Tup Int) ⟨a⟩ ⟨b⟩ rfl rfl]
  congr 4
  exact decide_eq_decide.mpr ⟨fun h => congrArg Tup.items h, fun h => by rw [h]⟩
theorem lk_tuI {n : Nat} {ns : List Int} (h : ns.length ≤ 1000) : lk (n + 2) (tuI ns) = true := by
  show ((ns.map PyData.int).all (lk (n + 1)) && Nat.ble (ns.map PyData.int).length 1000) = true
  rw [List.length_map, Bool.and_eq_true, List.all_eq_true, Nat.ble_eq]
  refine ⟨fun x hx => ?_, h⟩
  obtain ⟨i, _, rfl⟩ := List.mem_map.mp hx
  rfl
def minL : List Int → Int
  | [] => 0
  | x :: xs => minOf x xs
theorem minOf_ok : ∀ (x : Int) (xs : List Int), minOf x xs ∈ x :: xs ∧ ∀ y ∈ x :: xs, minOf x xs ≤ y
  | x, [] => ⟨List.mem_cons_self, fun y hy => by rcases List.mem_cons.mp hy with e | h; · exact Int.le_of_eq e.symm
                                                 · cases h⟩
  | x, z :: zs => by
    have e : minOf x (z :: zs) = minOf (if DatumOrd.lt z x = true then z else x) zs := rfl
    have e2 : (DatumOrd.lt z x = true) = (z < x) := by
      show (decide (z < x) = true) = _
      exact propext decide_eq_true_iff
    rw [e]
    simp only [e2]
    by_cases h : z < x
    · rw [if_pos h]
      obtain ⟨h1, h2⟩ := minOf_ok z zs
      refine ⟨List.mem_cons_of_mem _ h1, fun y hy => ?_⟩
      rcases List.mem_cons.mp hy with rfl | hy
      · exact Int.le_trans (h2 z List.mem_cons_self) (Int.le_of_lt h)
      · exact h2 y hy
    · rw [if_neg h]
      obtain ⟨h1, h2⟩ := minOf_ok x zs
      refine ⟨?_, fun y hy => ?_⟩
      · rcases List.mem_cons.mp h1 with h1 | h1
        · rw [h1]; exact List.mem_cons_self
        · exact List.mem_cons_of_mem _ (List.mem_cons_of_mem _ h1)
      · rcases List.mem_cons.mp hy with rfl | hy
        · exact h2 _ List.mem_cons_self
        · rcases List.mem_cons.mp hy with rfl | hy
          · exact Int.le_trans (h2 x List.mem_cons_self) (Int.not_lt.mp h)
          · exact h2 y (List.mem_cons_of_mem _ hy)
theorem minL_ok {l : List Int} (h : l ≠ []) : minL l ∈ l ∧ ∀ y ∈ l, minL l ≤ y := by
  cases l with
  | nil => exact absurd rfl h
  | cons x xs => exact minOf_ok x xs
theorem minL_eq {l : List Int} {m : Int} (h1 : m ∈ l) (h2 : ∀ y ∈ l, m ≤ y) : minL l = m := by
  have hl : l ≠ [] := fun e => by rw [e] at h1; cases h1
  obtain ⟨a, b⟩ := minL_ok hl
  exact Int.le_antisymm (b m h1) (h2 _ a)
theorem fMin_I {r : R} {ns : List Int} (h : ns ≠ []) (e : sv r = some (ns.map .int)) : fMin r = some (.d (.int (minL ns))) := by
  cases ns with
  | nil => exact absurd rfl h
  | cons x xs => exact min_of (α := Int) x xs e
/-! ### slices -/
theorem sl_tup' {xs : List PyData} {i j : Int} (h0 : 0 ≤ i) (h1 : i ≤ j) (h2 : j ≤ xs.length) : opSl (.d (.tuple xs)) (some i) (some j) = some (.d (.tuple ((xs.drop i.toNat).take (j - i).toNat))) := by
  show some (R.d (.tuple (cutD xs (some i) (some j)))) = _
  unfold cutD
  have e1 : HT.sIx xs.length 0 (some i) = i.toNat := by
    show (if i < 0 then (i + (xs.length : Int)).toNat else min i.toNat xs.length) = _
    rw [if_neg (by omega)]
    omega
  have e2 : HT.sIx xs.length xs.length (some j) = j.toNat := by
    show (if j < 0 then (j + (xs.length : Int)).toNat else min j.toNat xs.length) = _
    rw [if_neg (by omega)]
    omega
  rw [e1, e2, show j.toNat - i.toNat = (j - i).toNat by omega]
theorem cut_to {xs : List PyData} {j : Int} (h0 : 0 ≤ j) : cutD xs none (some j) = xs.take j.toNat := by
  unfold cutD
  have e2 : HT.sIx xs.length xs.length (some j) = min j.toNat xs.length := by
    show (if j < 0 then (j + (xs.length : Int)).toNat else min j.toNat xs.length) = _
    rw [if_neg (by omega)]
  have e1 : HT.sIx xs.length 0 none = 0 := rfl
  rw [e1, e2, List.drop_zero, Nat.sub_zero, ← List.take_take, List.take_length]
theorem cut_from {xs : List PyData} {i : Int} (h0 : 0 ≤ i) : cutD xs (some i) none = xs.drop i.toNat := by
  unfold cutD
  have e1 : HT.sIx xs.length 0 (some i) = min i.toNat xs.length := by
    show (if i < 0 then (i + (xs.length : Int)).toNat else min i.toNat xs.length) = _
    rw [if_neg (by omega)]
  have e2 : HT.sIx xs.length xs.length none = xs.length := rfl
  rw [e1, e2]
  by_cases h : i.toNat ≤ xs.length
  · rw [Nat.min_eq_left h, List.take_of_length_le (by rw [List.length_drop]; exact Nat.le_refl _)]
  · rw [Nat.min_eq_right (by omega), List.drop_of_length_le (Nat.le_refl _), List.drop_of_length_le (by omega), List.take_nil]
theorem rev_ix (n : Nat) : stIx n none none (-1) = (List.range n).map fun k => n - 1 - k := by
  unfold stIx
  have e : Builtin.Slice.sliceAdjust none none (-1) n = ((n : Int) - 1, -1) := rfl
  have e2 : Builtin.Slice.slicePlaces ((n : Int) - 1) (-1) (-1) = n := by
    unfold Builtin.Slice.slicePlaces
    rw [if_neg (by decide)]
    by_cases h : (n : Int) - 1 > -1
    · rw [if_pos h]
      have : (-(-1) : Int) = 1 := rfl
      rw [this, Int.ediv_one]
      omega
    · rw [if_neg h]
      omega
  rw [e, e2]
  refine List.map_congr_left fun k hk => ?_
  have := List.mem_range.mp hk
  show ((n : Int) - 1 + (k : Int) * -1).toNat = _
  omega
theorem two_ix (n : Nat) : stIx n none none 2 = (List.range ((n + 1) / 2)).map fun k => 2 * k := by
  unfold stIx
  have e : Builtin.Slice.sliceAdjust none none 2 n = (0, (n : Int)) := rfl
  have e2 : Builtin.Slice.slicePlaces 0 (n : Int) 2 = (n + 1) / 2 := by
    unfold Builtin.Slice.slicePlaces
    rw [if_pos (by decide)]
    by_cases h : (0 : Int) < n
    · rw [if_pos h]
      omega
    · rw [if_neg h]
      omega
  rw [e, e2]
  refine List.map_congr_left fun k hk => ?_
  show ((0 : Int) + (k : Int) * 2).toNat = _
  omega
theorem picks_map {α β : Type} (f : α → β) (xs : List α) (is : List Nat) : picks (xs.map f) is = (picks xs is).map f := by
  unfold picks
  rw [List.map_filterMap]
  congr 1
  funext i
  rw [List.getElem?_map]
theorem picks_at {α : Type} (xs : List α) (d : α) (g : Nat → Nat) (n : Nat) (h : ∀ i < n, g i < xs.length) : picks xs ((List.range n).map g) = (List.range n).map fun i => xs.getD (g i) d := by
  unfold picks
  rw [List.filterMap_map]
  have : ∀ l : List Nat, (∀ i ∈ l, i < n) → l.filterMap ((fun i => xs[i]?) ∘ g) = l.map fun i => xs.getD (g i) d := by
    intro l
    induction l with
    | nil => intro _; rfl
    | cons i l ih =>
      intro hl
      have hi := h i (hl i List.mem_cons_self)
      have e : ((fun i => xs[i]?) ∘ g) i = some (xs.getD (g i) d) := by
        show xs[g i]? = _
        rw [List.getD_eq_getElem?_getD, List.getElem?_eq_getElem hi]
        rfl
      rw [List.filterMap_cons_some e, List.map_cons, ih fun j hj => hl j (List.mem_cons_of_mem _ hj)]
  exact this _ fun i hi => List.mem_range.mp hi
theorem picks_rev {α : Type} (xs : List α) : picks xs (stIx xs.length none none (-1)) = xs.reverse := by
  rw [rev_ix]
  cases xs with
  | nil => rfl
  | cons x r =>
    rw [picks_at (x :: r) x _ _ fun i hi => by omega]
    apply List.ext_getElem
    · simp
    · intro i h1 h2
      rw [List.getElem_map, List.getElem_range, List.getElem_reverse, List.getD_eq_getElem?_getD, List.getElem?_eq_getElem (by simp at h1 ⊢; omega)]
      rfl
theorem rev_tuI (ns : List Int) (h : ns.length ≤ 1000) : opSt (.d (tuI ns)) none none (-1) = some (.d (tuI ns.reverse)) := by
  have hl : (stIx (ns.map PyData.int).length none none (-1)).length ≤ LIM := lim_small' (by rw [rev_ix, List.length_map, List.length_range, List.length_map]; exact h)
  show (if (-1 : Int) = 0 ∨ (-1 : Int) = 1 then none else if (stIx (ns.map PyData.int).length none none (-1)).length ≤ LIM then some (R.d (.tuple (picks (ns.map PyData.int) (stIx (ns.map PyData.int).length none none (-1))))) else none) = _
  rw [if_neg (by decide), if_pos hl, picks_rev, ← List.map_reverse]
  rfl
theorem two_tuI (ns : List Int) (h : ns.length ≤ 1000) : opSt (.d (tuI ns)) none none 2 = some (.d (tuI ((List.range ((ns.length + 1) / 2)).map fun i => ns.getD (2 * i) 0))) := by
  have hl : (stIx (ns.map PyData.int).length none none 2).length ≤ LIM := lim_small' (by rw [two_ix, List.length_map, List.length_range, List.length_map]; omega)
  show (if (2 : Int) = 0 ∨ (2 : Int) = 1 then none else if (stIx (ns.map PyData.int).length none none 2).length ≤ LIM then some (R.d (.tuple (picks (ns.map PyData.int) (stIx (ns.map PyData.int).length none none 2)))) else none) = _
  rw [if_neg (by decide), if_pos hl, picks_map, List.length_map, two_ix, picks_at ns 0 _ _ fun i hi => by omega]
  rfl
/-- a list that holds 0, .., n - 1 has n items at least -/
theorem pigeon : ∀ (n : Nat) (l : List Int), (∀ i < n, (i : Int) ∈ l) → n ≤ l.length
  | 0, _, _ => Nat.zero_le _
  | n + 1, l, h => by
    have hn := h n (Nat.lt_succ_self n)
    have h1 := pigeon n (l.erase (n : Int)) fun i hi => (List.mem_erase_of_ne (by omega)).mpr (h i (Nat.lt_succ_of_lt hi))
    rw [List.length_erase_of_mem hn] at h1
    have := List.length_pos_of_mem hn
    omega
theorem for_enum {tg : G} {body : Env → Option Fl} (I : Nat → Env → Prop) (xs : List PyData) {env : Env} (h0 : I 0 env)
    (hs : ∀ i x env, xs[i]? = some x → I i env → ∃ env1 fl, tg (.tuple [.int (i : Nat), x]) env = some env1 ∧ body env1 = some fl ∧ ∃ env2, (fl = .nx env2 ∨ fl = .ct env2) ∧ I (i + 1) env2) :
    ∃ env', forL tg body (enumL 0 xs) env = some (.nx env') ∧ I xs.length env' := by
  obtain ⟨env', e1, h⟩ := forL_inv I (enumL 0 xs) 0 env h0 fun i d env hi hI => by
    have hl := (List.getElem?_eq_some_iff.mp hi).1
    rw [enumL_length] at hl
    have e := enumL_get (k := 0) (List.getElem?_eq_getElem hl)
    rw [e] at hi
    cases hi
    rw [Nat.zero_add] at hI ⊢
    exact hs i _ env (List.getElem?_eq_getElem hl) hI
  rw [Nat.zero_add, enumL_length] at h
  exact ⟨env', e1, h⟩
theorem atI_last {α : Type} (xs : List α) (x : α) : atI (xs ++ [x]) (-1) = some x := L2.atI_last _ _
theorem ix_last (xs : List PyData) (x : PyData) : opIx (.bor (xs ++ [x])) (.d (.int (-1))) = some (.d x) := by
  show ((some (xs ++ [x])).bind fun xs => (atI xs (-1)).map R.d) = _
  rw [Option.bind_some, atI_last]
  rfl
theorem ix_lastT (xs : List PyData) (x : PyData) : opIx (.d (.tuple (xs ++ [x]))) (.d (.int (-1))) = some (.d x) := by
  show ((some (xs ++ [x])).bind fun xs => (atI xs (-1)).map R.d) = _
  rw [Option.bind_some, atI_last]
  rfl
theorem ix_head (xs : List PyData) (x : PyData) : opIx (.bor (x :: xs)) (.d (.int 0)) = some (.d x) := ix_bor (Int.le_refl _) rfl
theorem own_lc {it : Env → Option (List PyData)} {own : List Nat} {tg : G} {tt : Env → Option Bool} {te : Env → Option R} {env : Env} {items out : List PyData} (h1 : it env = some items) (h2 : items.length < LIM) (h3 : lcGo tg tt te (wipeE env own) items = some out) : eLc it own tg tt te env = some (.own out) := by
  unfold eLc
  rw [h1, Option.bind_some, if_pos h2, h3]
  rfl
theorem tup_lc {it : Env → Option (List PyData)} {own : List Nat} {tg : G} {tt : Env → Option Bool} {te : Env → Option R} {env : Env} {items out : List PyData} (h1 : it env = some items) (h2 : items.length < LIM) (h3 : lcGo tg tt te (wipeE env own) items = some out) : bindA (op1 fTuple) (aCons (eLc it own tg tt te) aNil) env = some (.d (.tuple out)) := by
  unfold bindA aCons
  rw [own_lc h1 h2 h3]
  rfl
theorem call_lc {g : R → Option R} {it : Env → Option (List PyData)} {own : List Nat} {tg : G} {tt : Env → Option Bool} {te : Env → Option R} {env : Env} {items out : List PyData} (h1 : it env = some items) (h2 : items.length < LIM) (h3 : lcGo tg tt te (wipeE env own) items = some out) : bindA (op1 g) (aCons (eLc it own tg tt te) aNil) env = g (.own out) := by
  unfold bindA aCons
  rw [own_lc h1 h2 h3]
  rfl
theorem cat_t {xs ys : List PyData} (h : xs.length + ys.length ≤ LIM) : opAdd (.d (.tuple xs)) (.d (.tuple ys)) = some (.d (.tuple (xs ++ ys))) := by
  have e : opCatT (.d (.tuple xs)) (.d (.tuple ys)) = some (.d (.tuple (xs ++ ys))) := by
    show (if xs.length + ys.length ≤ LIM then _ else _) = _
    rw [if_pos h]
  show (Option.or (none : Option R) ((opCatT (.d (.tuple xs)) (.d (.tuple ys))).or _)) = _
  rw [e]
  rfl
theorem rep_t {xs : List PyData} {k : Int} (h : k.natAbs ≤ 1000) (h2 : xs.length ≤ 1000) : opMul2 (.d (.tuple xs)) (.d (.int k)) = some (.d (.tuple (List.replicate k.toNat xs).flatten)) := by
  have e : opRepT2 (.d (.tuple xs)) (.d (.int k)) = some (.d (.tuple (List.replicate k.toNat xs).flatten)) := by
    show (if k.natAbs ≤ 1000 ∧ xs.length ≤ 1000 then _ else _) = _
    rw [if_pos ⟨h, h2⟩]
  show (Option.or (none : Option R) ((opRepT2 (.d (.tuple xs)) (.d (.int k))).or _)) = _
  rw [e]
  rfl
theorem sl_to {xs : List PyData} {j : Int} (h0 : 0 ≤ j) : opSl (.d (.tuple xs)) none (some j) = some (.d (.tuple (xs.take j.toNat))) := by
  show some (R.d (.tuple (cutD xs none (some j)))) = _
  rw [cut_to h0]
theorem sl_from {xs : List PyData} {i : Int} (h0 : 0 ≤ i) : opSl (.d (.tuple xs)) (some i) none = some (.d (.tuple (xs.drop i.toNat))) := by
  show some (R.d (.tuple (cutD xs (some i) none))) = _
  rw [cut_from h0]
theorem fAny_of {bs : List Bool} : fAny (.own (bs.map .bool)) = some (.d (.bool (bs.any id))) := by
  show ((some (bs.map PyData.bool)).bind fun xs => (bsOf xs).map fun ns => R.d (.bool (ns.any id))) = _
  rw [Option.bind_some, bsOf_map]
  rfl
theorem fAll_of {bs : List Bool} : fAll (.own (bs.map .bool)) = some (.d (.bool (bs.all id))) := by
  show ((some (bs.map PyData.bool)).bind fun xs => (bsOf xs).map fun ns => R.d (.bool (ns.all id))) = _
  rw [Option.bind_some, bsOf_map]
  rfl
/-- pairs in order: first by the first, then by the second -/
def leP (p q : Int × Int) : Prop := p.1 < q.1 ∨ (p.1 = q.1 ∧ p.2 ≤ q.2)
theorem leP_anti {p q : Int × Int} (h1 : leP p q) (h2 : leP q p) : p = q := by
  unfold leP at h1 h2
  apply Prod.ext <;> omega
theorem minP_ok : ∀ (x : Int × Int) (xs : List (Int × Int)), minOf x xs ∈ x :: xs ∧ ∀ y ∈ x :: xs, leP (minOf x xs) y
  | x, [] => ⟨List.mem_cons_self, fun y hy => by
    rcases List.mem_cons.mp hy with e | h
    · subst e; exact .inr ⟨rfl, Int.le_refl _⟩
    · cases h⟩
  | x, z :: zs => by
    have e : minOf x (z :: zs) = minOf (if DatumOrd.lt z x = true then z else x) zs := rfl
    have e2 : (DatumOrd.lt z x = true) ↔ (z.1 < x.1 ∨ (z.1 = x.1 ∧ z.2 < x.2)) := by
      show ((if z.1 = x.1 then decide (z.2 < x.2) else decide (z.1 < x.1)) = true) ↔ _
      by_cases h : z.1 = x.1
      · rw [if_pos h, decide_eq_true_iff]
        constructor
        · intro h2; exact .inr ⟨h, h2⟩
        · rintro (h2 | h2)
          · omega
          · exact h2.2
      · rw [if_neg h, decide_eq_true_iff]
        constructor
        · intro h2; exact .inl h2
        · rintro (h2 | h2)
          · exact h2
          · exact absurd h2.1 h
    rw [e]
    by_cases h : DatumOrd.lt z x = true
    · rw [if_pos h]
      obtain ⟨h1, h2⟩ := minP_ok z zs
      refine ⟨List.mem_cons_of_mem _ h1, fun y hy => ?_⟩
      rcases List.mem_cons.mp hy with rfl | hy
      · have h3 := h2 z List.mem_cons_self
        have h4 := e2.mp h
        unfold leP at h3 ⊢
        omega
      · exact h2 y hy
    · rw [if_neg h]
      obtain ⟨h1, h2⟩ := minP_ok x zs
      refine ⟨?_, fun y hy => ?_⟩
      · rcases List.mem_cons.mp h1 with h1 | h1
        · rw [h1]; exact List.mem_cons_self
        · exact List.mem_cons_of_mem _ (List.mem_cons_of_mem _ h1)
      · rcases List.mem_cons.mp hy with rfl | hy
        · exact h2 _ List.mem_cons_self
        · rcases List.mem_cons.mp hy with rfl | hy
          · have h3 := h2 x List.mem_cons_self
            have h4 : ¬ (y.1 < x.1 ∨ (y.1 = x.1 ∧ y.2 < x.2)) := fun q => h (e2.mpr q)
            unfold leP at h3 ⊢
            omega
          · exact h2 y (List.mem_cons_of_mem _ hy)
theorem sl_bto {xs : List PyData} {j : Int} (h0 : 0 ≤ j) : opSl (.bor xs) none (some j) = some (.own (xs.take j.toNat)) := by
  show some (R.own (cutD xs none (some j))) = _
  rw [cut_to h0]
theorem sl_bfrom {xs : List PyData} {i : Int} (h0 : 0 ≤ i) : opSl (.bor xs) (some i) none = some (.own (xs.drop i.toNat)) := by
  show some (R.own (cutD xs (some i) none)) = _
  rw [cut_from h0]
theorem cat_o {xs ys : List PyData} (h : xs.length + ys.length ≤ LIM) : opAdd (.own xs) (.own ys) = some (.own (xs ++ ys)) := by
  have e : opCatL (.own xs) (.own ys) = some (.own (xs ++ ys)) := by
    show (if xs.length + ys.length ≤ LIM then _ else _) = _
    rw [if_pos h]
  show (Option.or (none : Option R) (Option.or (none : Option R) ((opCatL (.own xs) (.own ys)).or _))) = _
  rw [e]
  rfl
theorem lrg_i {n : Nat} (h : n ≤ 1000000) : fLRg [.d (.int (n : Nat))] = some (.own (rngL 0 n)) := by
  have e : rgOk 0 (n : Nat) = true := by
    unfold rgOk
    rw [big62_by (by omega) (by omega), big62_by (by omega) (by omega)]
    simp only [Bool.true_and, Nat.ble_eq]
    omega
  show (if rgOk 0 (n : Nat) = true then some (R.own (rngL 0 ((n : Nat) : Int).toNat)) else none) = _
  rw [if_pos e, Int.toNat_natCast]
end PV

/-! PVM2: comprehensions, typed; sums; slices of lists -/
namespace PV
open PySem L2 PySem.W
theorem len_tuI (a : List Int) : fLen (.d (tuI a)) = some (.d (.int (a.length : Nat))) := by
  show some (R.d (.int ((a.map PyData.int).length : Nat))) = _
  rw [List.length_map]
theorem len_ownI (a : List Int) : fLen (.own (a.map .int)) = some (.d (.int (a.length : Nat))) := by
  show some (R.d (.int ((a.map PyData.int).length : Nat))) = _
  rw [List.length_map]
theorem len_borI (a : List Int) : fLen (.bor (a.map .int)) = some (.d (.int (a.length : Nat))) := len_ownI a
theorem len_lstI (a : List Int) : fLen (.d (.list (a.map .int))) = some (.d (.int (a.length : Nat))) := len_ownI a
theorem like_ok {d : PyData} (h : lk 8 d = true) : F__law_like 8 [d, d] = some (.d (.bool true)) := like_refl 8 d h
theorem lk_tup {n : Nat} {xs : List PyData} (h : ∀ x ∈ xs, lk n x = true) (hl : xs.length ≤ 1000) : lk (n + 1) (.tuple xs) = true := by
  show (xs.all (lk n) && Nat.ble xs.length 1000) = true
  rw [Bool.and_eq_true, List.all_eq_true, Nat.ble_eq]
  exact ⟨h, hl⟩
/-- .. over numbers from 0 -/
theorem own_rg {it : Env → Option (List PyData)} {own : List Nat} {tg : G} {te : Env → Option R} {env : Env} {n : Nat} (hn : n ≤ 1000) (g : Nat → PyData) (h1 : it env = some (rngL 0 n)) (h : ∀ k < n, ∃ env1, tg (.int (k : Nat)) (wipeE env own) = some env1 ∧ (te env1).bind toD = some (g k)) :
    eLc it own tg tYesB te env = some (.own ((List.range n).map g)) := by
  have hl : (rngL 0 n).length < LIM := lim_small (by rw [rngL_nat, List.length_map, List.length_range]; exact hn)
  refine own_lc h1 hl ?_
  rw [rngL_nat]
  exact lc_all _ g _ fun k hk => h k (List.mem_range.mp hk)
theorem own_rgf {it : Env → Option (List PyData)} {own : List Nat} {tg : G} {tt : Env → Option Bool} {te : Env → Option R} {env : Env} {n : Nat} (hn : n ≤ 1000) (p : Nat → Bool) (g : Nat → PyData) (h1 : it env = some (rngL 0 n)) (h : ∀ k < n, ∃ env1, tg (.int (k : Nat)) (wipeE env own) = some env1 ∧ tt env1 = some (p k) ∧ (p k = true → (te env1).bind toD = some (g k))) :
    eLc it own tg tt te env = some (.own (((List.range n).filter p).map g)) := by
  have hl : (rngL 0 n).length < LIM := lim_small (by rw [rngL_nat, List.length_map, List.length_range]; exact hn)
  refine own_lc h1 hl ?_
  rw [rngL_nat]
  exact lc_enc _ p g _ fun k hk => h k (List.mem_range.mp hk)
/-- .. over what is typed -/
theorem own_xs {α : Type} (e : α → PyData) {it : Env → Option (List PyData)} {own : List Nat} {tg : G} {te : Env → Option R} {env : Env} {xs : List α} (hn : xs.length ≤ 1000) (g : α → PyData) (h1 : it env = some (xs.map e)) (h : ∀ x ∈ xs, ∃ env1, tg (e x) (wipeE env own) = some env1 ∧ (te env1).bind toD = some (g x)) :
    eLc it own tg tYesB te env = some (.own (xs.map g)) := by
  have hl : (xs.map e).length < LIM := lim_small (by rw [List.length_map]; exact hn)
  exact own_lc h1 hl (lc_all _ g _ h)
theorem own_xsf {α : Type} (e : α → PyData) {it : Env → Option (List PyData)} {own : List Nat} {tg : G} {tt : Env → Option Bool} {te : Env → Option R} {env : Env} {xs : List α} (hn : xs.length ≤ 1000) (p : α → Bool) (g : α → PyData) (h1 : it env = some (xs.map e)) (h : ∀ x ∈ xs, ∃ env1, tg (e x) (wipeE env own) = some env1 ∧ tt env1 = some (p x) ∧ (p x = true → (te env1).bind toD = some (g x))) :
    eLc it own tg tt te env = some (.own ((xs.filter p).map g)) := by
  have hl : (xs.map e).length < LIM := lim_small (by rw [List.length_map]; exact hn)
  exact own_lc h1 hl (lc_enc _ p g _ h)
theorem fSum_I (ns : List Int) : fSum (.own (ns.map .int)) = some (.d (.int ns.sum)) := by
  show ((some (ns.map PyData.int)).bind fun xs => (intsOf xs).map fun ns => R.d (.int ns.sum)) = _
  rw [Option.bind_some, intsOf_map]
  rfl
theorem cutD_mid {xs : List PyData} {i j : Int} (h0 : 0 ≤ i) (h1 : i ≤ j) (h2 : j ≤ xs.length) : cutD xs (some i) (some j) = (xs.drop i.toNat).take (j - i).toNat := by
  have e := sl_tup' (xs := xs) h0 h1 h2
  have e2 : opSl (.d (.tuple xs)) (some i) (some j) = some (R.d (.tuple (cutD xs (some i) (some j)))) := rfl
  rw [e2] at e
  have e := Option.some.inj e
  injection e with e
  injection e with e
theorem sl_lst {xs : List PyData} {i j : Int} (h0 : 0 ≤ i) (h1 : i ≤ j) (h2 : j ≤ xs.length) : opSl (.d (.list xs)) (some i) (some j) = some (.own ((xs.drop i.toNat).take (j - i).toNat)) := by
  show some (R.own (cutD xs (some i) (some j))) = _
  rw [cutD_mid h0 h1 h2]
theorem sl_bor {xs : List PyData} {i j : Int} (h0 : 0 ≤ i) (h1 : i ≤ j) (h2 : j ≤ xs.length) : opSl (.bor xs) (some i) (some j) = some (.own ((xs.drop i.toNat).take (j - i).toNat)) := by
  show some (R.own (cutD xs (some i) (some j))) = _
  rw [cutD_mid h0 h1 h2]
/-- a def of one statement list -/
theorem F_of {np n : Nat} {body : Env → Option Fl} {ds : List PyData} {env : Env} {r : R} (hl : ds.length = np) (he : ds.map (fun d => some (S.d d)) ++ List.replicate (n - np) none = env) (h : body env = some (.rt r)) (hr : (match r with | .bor _ => false | _ => true) = true) : mkF np n body ds = some r := by
  unfold mkF
  rw [if_pos hl, he, h]
  cases r with
  | d x => rfl
  | own x => rfl
  | bor x => cases hr
theorem mulI (c : Int) (x : Int) (h : -1000000 ≤ c ∧ c ≤ 1000000) : opMul2 (.d (.int c)) (.d (.int x)) = some (.d (.int (c * x))) := mul_l (by omega) (by omega)
theorem forL_nx {tg : G} {body : Env → Option Fl} {d : PyData} {ds : List PyData} {env env1 env2 : Env} (h1 : tg d env = some env1) (h2 : body env1 = some (.nx env2)) : forL tg body (d :: ds) env = forL tg body ds env2 := by
  rw [forL, h1, Option.bind_some, h2]
  rfl
theorem forL_rt {tg : G} {body : Env → Option Fl} {d : PyData} {ds : List PyData} {env env1 : Env} {r : R} (h1 : tg d env = some env1) (h2 : body env1 = some (.rt r)) : forL tg body (d :: ds) env = some (.rt r) := by
  rw [forL, h1, Option.bind_some, h2]
  rfl
theorem lc2_all {α : Type} {tg tg1 : G} {it1 : Env → Option (List PyData)} {own1 : List Nat} {te : Env → Option R} {env : Env} (e : α → PyData) (inner g : α → List PyData) : ∀ (xs : List α), (∀ x ∈ xs, ∃ env1, tg (e x) env = some env1 ∧ it1 env1 = some (inner x) ∧ lcGo tg1 tYesB te (wipeE env1 own1) (inner x) = some (g x)) →
    lc2Go tg tYesB it1 own1 tg1 tYesB te env (xs.map e) = some (xs.flatMap g)
  | [], _ => rfl
  | x :: xs, h => by
    obtain ⟨env1, h1, h2, h3⟩ := h x List.mem_cons_self
    have ih := lc2_all e inner g xs fun y hy => h y (List.mem_cons_of_mem _ hy)
    have ht : tYesB env1 = some true := rfl
    rw [List.map_cons, lc2Go, h1, Option.bind_some, ht, Option.bind_some, if_pos rfl, h2, Option.bind_some, h3, Option.bind_some, ih]
    rfl
theorem own_lc2 {α : Type} (e : α → PyData) {it : Env → Option (List PyData)} {own : List Nat} {tg tg1 : G} {it1 : Env → Option (List PyData)} {own1 : List Nat} {te : Env → Option R} {env : Env} {xs : List α} (inner g : α → List PyData) (h1 : it env = some (xs.map e)) (hl : (xs.flatMap g).length ≤ 1000)
    (h : ∀ x ∈ xs, ∃ env1, tg (e x) (wipeE env own) = some env1 ∧ it1 env1 = some (inner x) ∧ lcGo tg1 tYesB te (wipeE env1 own1) (inner x) = some (g x)) : eLc2 it own tg tYesB it1 own1 tg1 tYesB te env = some (.own (xs.flatMap g)) := by
  unfold eLc2
  rw [h1, Option.bind_some, lc2_all e inner g xs h, Option.bind_some, if_pos (lim_small' hl)]
/-- whole numbers from 0 -/
def nI (l : List Nat) : List PyData := l.map fun i => .int (i : Nat)
theorem nI_len (l : List Nat) : (nI l).length = l.length := by unfold nI; rw [List.length_map]
theorem ixN_nat {n k : Nat} (h : k < n) : ixN n (k : Nat) = some k := by
  unfold ixN
  rw [if_pos (by omega), if_pos (by omega), Int.toNat_natCast]
end PV

/-! what the defs compute -/
namespace LW19
open PySem L2 PV
def S__law_unlike_1 : PV.Env → Option Fl := sPar [2, 3] (aCons (eLst (aCons (eC (.int 0)) (aNil))) (aCons (eC (.int 1)) (aNil)))
def P__law_unlike_1 : PV.Env → Option Fl := sExt 2 (eLst (aCons (bind2 opMul2 (eC (.int 2)) (eVar 6)) (aCons (bind2 opAdd (bind2 opMul2 (eC (.int 2)) (eVar 6)) (eC (.int 1))) (aNil))))
def P__law_unlike_2 : PV.Env → Option Fl := sSeq (sFrz 6 (sSet 5 (eLc (iSeq false (eVar 2)) [6] (gNm 6) (tb (bind2 opNe2 (bind2 opIx (bind2 opIx (eVar 0) (eVar 4)) (eVar 6)) (bind2 opIx (bind2 opIx (eVar 1) (eVar 4)) (eVar 6)))) (eVar 6)))) (sSeq (sIf (tb (bind2 opEq2 (eVar 4) (eC (.int 0)))) (sFrz 3 (sRet (eTup (aCons (bindA (op1 fTuple) (aCons (eVar 5) (aNil))) (aCons (eVar 3) (aNil)))))) (sNext)) (sSeq (sPar [2, 3] (aCons (eLst (aNil)) (aCons (bind2 opAdd (eVar 3) (bind2 opMul2 (eC (.int 2)) (bindA (op1 fLen) (aCons (eVar 5) (aNil))))) (aNil)))) (sFrz 5 (sFor (iSeq true (eVar 5)) (gNm 6) (P__law_unlike_1)))))
def S__law_unlike_2 : PV.Env → Option Fl := sFor (iRg3 (aCons (eC (.int 4)) (aCons (bind1 unNeg (eC (.int 1))) (aCons (bind1 unNeg (eC (.int 1))) (aNil))))) (gNm 4) (P__law_unlike_2)
def S__law_unlike_3 : PV.Env → Option Fl := sRet (eC .none)
def B__law_unlike : PV.Env → Option Fl := sSeq (S__law_unlike_1) (sSeq (S__law_unlike_2) (S__law_unlike_3))
def F__law_unlike : List PyData → Option R := mkF 2 7 B__law_unlike
def S_unlike_keys_1 : PV.Env → Option Fl := sSet 2 (eC (.int 0))
def S_unlike_keys_2 : PV.Env → Option Fl := sSet 3 (eLst (aCons (eC (.int 0)) (aNil)))
def S_unlike_keys_3 : PV.Env → Option Fl := sSet 4 (eLst (aNil))
def P_unlike_keys_1 : PV.Env → Option Fl := sSeq (sAug 2 (iOp (· + ·) fun _ _ => true) (bindA (op1 fLen) (aCons (eVar 3) (aNil)))) (sSeq (sSet 4 (eLc (iSeq false (eVar 3)) [6] (gNm 6) (tb (bind2 opNe2 (bind2 opIx (bind2 opIx (eVar 0) (eVar 5)) (eVar 6)) (bind2 opIx (bind2 opIx (eVar 1) (eVar 5)) (eVar 6)))) (eVar 6))) (sSet 3 (eLc2 (iSeq false (eVar 4)) [7, 6] (gNm 7) (tYesB) (iSeq true (eTup (aCons (bind2 opMul2 (eC (.int 2)) (eVar 7)) (aCons (bind2 opAdd (bind2 opMul2 (eC (.int 2)) (eVar 7)) (eC (.int 1))) (aNil))))) [6] (gNm 6) (tYesB) (eVar 6))))
def S_unlike_keys_4 : PV.Env → Option Fl := sFor (iRg3 (aCons (bind2 opSub (bindA (op1 fLen) (aCons (eVar 0) (aNil))) (eC (.int 1))) (aCons (bind1 unNeg (eC (.int 1))) (aCons (bind1 unNeg (eC (.int 1))) (aNil))))) (gNm 5) (P_unlike_keys_1)
def S_unlike_keys_5 : PV.Env → Option Fl := sFrz 2 (sRet (eTup (aCons (bindA (op1 fTuple) (aCons (eVar 4) (aNil))) (aCons (eVar 2) (aNil)))))
def B_unlike_keys : PV.Env → Option Fl := sSeq (S_unlike_keys_1) (sSeq (S_unlike_keys_2) (sSeq (S_unlike_keys_3) (sSeq (S_unlike_keys_4) (S_unlike_keys_5))))
def F_unlike_keys : List PyData → Option R := mkF 2 8 B_unlike_keys
def B_is_found : PV.Env → Option Fl := sSeq (sSet 2 (eLc (iRg1 (aCons (bindA (op1 fLen) (aCons (bind2 opIx (eVar 0) (eC (.int 0))) (aNil))) (aNil))) [3] (gNm 3) (tb (bind2 opNe2 (bind2 opIx (bind2 opIx (eVar 0) (eC (.int 0))) (eVar 3)) (bind2 opIx (bind2 opIx (eVar 1) (eC (.int 0))) (eVar 3)))) (eVar 3))) (sRet (bind2 opEq2 (bind2 opIx (eCall 2 F_unlike_keys (aCons (eVar 0) (aCons (eVar 1) (aNil)))) (eC (.int 0))) (bindA (op1 fTuple) (aCons (eVar 2) (aNil)))))
def F_is_found : List PyData → Option R := mkF 2 4 B_is_found
def S__law_both_right_1 : PV.Env → Option Fl := sSet 4 (eCall 2 F__law_unlike (aCons (eVar 2) (aCons (eVar 3) (aNil))))
def S__law_both_right_2 : PV.Env → Option Fl := sFrz 4 (sIf (bNot (tT' (eCall 2 (F__law_like 8) (aCons (eTup (aCons (eCall 2 F_unlike_keys (aCons (eVar 0) (aCons (eVar 1) (aNil)))) (aCons (eCall 2 F_unlike_keys (aCons (eVar 1) (aCons (eVar 0) (aNil)))) (aNil)))) (aCons (eTup (aCons (eVar 4) (aCons (eVar 4) (aNil)))) (aNil)))))) (sRet (eC (.bool false))) (sNext))
def S__law_both_right_3 : PV.Env → Option Fl := sSet 5 (bindA (op1 fTuple) (aCons (eLc (iRg1 (aCons (eC (.int 16)) (aNil))) [7] (gNm 7) (tb (bind2 opNe2 (bind2 opIx (bind2 opIx (eVar 2) (eC (.int 0))) (eVar 7)) (bind2 opIx (bind2 opIx (eVar 3) (eC (.int 0))) (eVar 7)))) (eVar 7)) (aNil)))
def S__law_both_right_4 : PV.Env → Option Fl := sFrz 5 (sIf (bOr (bNot (tT' (bindA (op1 fAll) (aCons (eLc (iSeq false (bind2 opIx (eVar 4) (eC (.int 0)))) [7] (gNm 7) (tYesB) (bind2 opIn (eVar 7) (eVar 5))) (aNil))))) (bAnd (tb (bind2 opEq2 (bindA (op1 fLen) (aCons (eVar 5) (aNil))) (eC (.int 1)))) (tb (bind2 opNe2 (eVar 4) (eTup (aCons (eVar 5) (aCons (eC (.int 9)) (aNil)))))))) (sRet (eC (.bool false))) (sNext))
def S__law_both_right_5 : PV.Env → Option Fl := sSet 6 (eTup (aCons (eCall 2 F_is_found (aCons (eVar 0) (aCons (eVar 1) (aNil)))) (aCons (eCall 2 F_is_found (aCons (eVar 1) (aCons (eVar 0) (aNil)))) (aCons (eCall 2 F_unlike_keys (aCons (eVar 0) (aCons (eVar 0) (aNil)))) (aCons (eCall 2 F_is_found (aCons (eVar 0) (aCons (eVar 0) (aNil)))) (aNil))))))
def S__law_both_right_6 : PV.Env → Option Fl := sRet (eCall 2 (F__law_like 8) (aCons (eVar 6) (aCons (eTup (aCons (bind2 opEq2 (bind2 opIx (eVar 4) (eC (.int 0))) (eVar 5)) (aCons (bind2 opEq2 (bind2 opIx (eVar 4) (eC (.int 0))) (eVar 5)) (aCons (eTup (aCons (eTup (aNil)) (aCons (eC (.int 1)) (aNil)))) (aCons (eC (.bool true)) (aNil)))))) (aNil))))
def B__law_both_right : PV.Env → Option Fl := sSeq (S__law_both_right_1) (sSeq (S__law_both_right_2) (sSeq (S__law_both_right_3) (sSeq (S__law_both_right_4) (sSeq (S__law_both_right_5) (S__law_both_right_6)))))
def F__law_both_right : List PyData → Option R := mkF 4 8 B__law_both_right
def S__law_sum_1 : PV.Env → Option Fl := sPar [1, 2] (aCons (eLst (aCons (eC (.int 1)) (aNil))) (aCons (eC (.int 0)) (aNil)))
def P__law_sum_1 : PV.Env → Option Fl := sIf (tb (bind2 opLt2 (bindA (op1 fLen) (aCons (eVar 1) (aNil))) (bindA (op1 fLen) (aCons (eVar 0) (aNil))))) (sPar [1, 2] (aCons (bind2 opAdd (eLc (iSeq false (eVar 1)) [4] (gNm 4) (tYesB) (bind2 opMul2 (eC (.int 17)) (eVar 4))) (eLc (iSeq false (eVar 1)) [4] (gNm 4) (tYesB) (bind2 opMul2 (eC (.int 5)) (eVar 4)))) (aCons (bind2 opAdd (bind2 opMul2 (eC (.int 22)) (eVar 2)) (eC (.int 1))) (aNil)))) (sNext)
def S__law_sum_2 : PV.Env → Option Fl := sFor (iRg1 (aCons (eC (.int 4)) (aNil))) (gNm 3) (P__law_sum_1)
def S__law_sum_3 : PV.Env → Option Fl := sRet (bind2 opMod (bindA (op1 fInt) (aCons (bind2 opAdd (eVar 2) (bindA (op1 fSum) (aCons (eLc (iRg1 (aCons (bindA (op1 fLen) (aCons (eVar 0) (aNil))) (aNil))) [5] (gNm 5) (tYesB) (bind2 opMul2 (bind2 opIx (eVar 1) (eVar 5)) (bind2 opIx (eVar 0) (eVar 5)))) (aNil)))) (aNil))) (eC (.int 997)))
def B__law_sum : PV.Env → Option Fl := sSeq (S__law_sum_1) (sSeq (S__law_sum_2) (S__law_sum_3))
def F__law_sum : List PyData → Option R := mkF 1 6 B__law_sum
def S__law_levels_1 : PV.Env → Option Fl := sPar [1, 2] (aCons (eLst (aCons (bindA (op1 fTuple) (aCons (eVar 0) (aNil))) (aNil))) (aCons (eC (.int 2)) (aNil)))
def P__law_levels_1 : PV.Env → Option Fl := sSeq (sApp 1 (bindA (op1 fTuple) (aCons (eLc (iRg1 (aCons (bind2 opFdiv (eC (.int 16)) (eVar 2)) (aNil))) [4] (gNm 4) (tYesB) (eCall 1 F__law_sum (aCons (eSl (eVar 0) (pAt (bind2 opMul2 (eVar 2) (eVar 4))) (pAt (bind2 opAdd (bind2 opMul2 (eVar 2) (eVar 4)) (eVar 2)))) (aNil)))) (aNil)))) (sSet 2 (bind2 opMul2 (eC (.int 2)) (eVar 2)))
def S__law_levels_2 : PV.Env → Option Fl := sFor (iRg1 (aCons (eC (.int 4)) (aNil))) (gNm 3) (P__law_levels_1)
def S__law_levels_3 : PV.Env → Option Fl := sRet (bindA (op1 fTuple) (aCons (eVar 1) (aNil)))
def B__law_levels : PV.Env → Option Fl := sSeq (S__law_levels_1) (sSeq (S__law_levels_2) (S__law_levels_3))
def F__law_levels : List PyData → Option R := mkF 1 5 B__law_levels
def S__law_numbers_1 : PV.Env → Option Fl := sSet 1 (bind2 opMul2 (eLst (aCons (eC (.int 0)) (aNil))) (eC (.int 16)))
def P__law_numbers_1 : PV.Env → Option Fl := sSetIx 1 (eVar 2) (bind2 opMod (bindA (op1 fInt) (aCons (bind2 opAdd (bind2 opMul2 (eC (.int 31)) (eVar 2)) (eVar 3)) (aNil))) (eC (.int 997)))
def S__law_numbers_2 : PV.Env → Option Fl := sFrz 0 (sFor (iSeq true (eVar 0)) (gTp [gNm 2, gNm 3]) (P__law_numbers_1))
def S__law_numbers_3 : PV.Env → Option Fl := sRet (eVar 1)
def B__law_numbers : PV.Env → Option Fl := sSeq (S__law_numbers_1) (sSeq (S__law_numbers_2) (S__law_numbers_3))
def F__law_numbers : List PyData → Option R := mkF 1 4 B__law_numbers
def B__print_of : PV.Env → Option Fl := sRet (bind2 opMod (bind2 opAdd (bind2 opAdd (bind2 opMul2 (eC (.int 17)) (eVar 0)) (bind2 opMul2 (eC (.int 5)) (eVar 1))) (eC (.int 1))) (eC (.int 997)))
def F__print_of : List PyData → Option R := mkF 2 2 B__print_of
def S_judge_proof_1 : PV.Env → Option Fl := sFrz 0 (sSet 4 (eVar 0))
def P_judge_proof_1 : PV.Env → Option Fl := sSeq (sIf (tb (bind2 opEq2 (bind2 opMod (eVar 4) (eC (.int 2))) (eC (.int 0)))) (sSet 1 (eCall 2 F__print_of (aCons (eVar 1) (aCons (eVar 5) (aNil))))) (sSet 1 (eCall 2 F__print_of (aCons (eVar 5) (aCons (eVar 1) (aNil)))))) (sSet 4 (bind2 opFdiv (eVar 4) (eC (.int 2))))
def S_judge_proof_2 : PV.Env → Option Fl := sFrz 2 (sFor (iSeq true (eVar 2)) (gNm 5) (P_judge_proof_1))
def S_judge_proof_3 : PV.Env → Option Fl := sRet (bind2 opEq2 (eVar 1) (eVar 3))
def B_judge_proof : PV.Env → Option Fl := sSeq (S_judge_proof_1) (sSeq (S_judge_proof_2) (S_judge_proof_3))
def F_judge_proof : List PyData → Option R := mkF 4 6 B_judge_proof
def S_proof_of_1 : PV.Env → Option Fl := sSet 2 (eLst (aNil))
def S_proof_of_2 : PV.Env → Option Fl := sFrz 1 (sSet 3 (eVar 1))
def P_proof_of_1 : PV.Env → Option Fl := sSeq (sApp 2 (bind2 opIx (eVar 4) (bind2 opSub (bind2 opAdd (eVar 3) (eC (.int 1))) (bind2 opMul2 (eC (.int 2)) (bind2 opMod (eVar 3) (eC (.int 2))))))) (sSet 3 (bind2 opFdiv (eVar 3) (eC (.int 2))))
def S_proof_of_3 : PV.Env → Option Fl := sFor (iSeq true (eSl (eVar 0) (pNo) (pAt (bind1 unNeg (eC (.int 1)))))) (gNm 4) (P_proof_of_1)
def S_proof_of_4 : PV.Env → Option Fl := sRet (bindA (op1 fTuple) (aCons (eVar 2) (aNil)))
def B_proof_of : PV.Env → Option Fl := sSeq (S_proof_of_1) (sSeq (S_proof_of_2) (sSeq (S_proof_of_3) (S_proof_of_4)))
def F_proof_of : List PyData → Option R := mkF 2 5 B_proof_of
def S__law_proof_right_1 : PV.Env → Option Fl := sFrz 4 (sPar [6, 7] (aCons (eLst (aNil)) (aCons (eVar 4) (aNil))))
def P__law_proof_right_1 : PV.Env → Option Fl := sSeq (sApp 6 (bind2 opIx (bind2 opIx (eVar 1) (eVar 8)) (bind2 opSub (bind2 opAdd (eVar 7) (eC (.int 1))) (bind2 opMul2 (eC (.int 2)) (bind2 opMod (bindA (op1 fInt) (aCons (eVar 7) (aNil))) (eC (.int 2))))))) (sSet 7 (bind2 opFdiv (eVar 7) (eC (.int 2))))
def S__law_proof_right_2 : PV.Env → Option Fl := sFor (iRg1 (aCons (eC (.int 4)) (aNil))) (gNm 8) (P__law_proof_right_1)
def S__law_proof_right_3 : PV.Env → Option Fl := sPar [6, 9] (aCons (bindA (op1 fTuple) (aCons (eVar 6) (aNil))) (aCons (bind2 opIx (bind2 opIx (eVar 1) (eC (.int 0))) (eVar 4)) (aNil)))
def S__law_proof_right_4 : PV.Env → Option Fl := sFrz 6 (sIf (bNot (tT' (eCall 2 (F__law_like 8) (aCons (eTup (aCons (eCall 2 F_proof_of (aCons (eVar 0) (aCons (eVar 4) (aNil)))) (aCons (eCall 4 F_judge_proof (aCons (eVar 4) (aCons (eVar 9) (aCons (eVar 6) (aCons (bind2 opIx (bind2 opIx (eVar 1) (eC (.int 4))) (eC (.int 0))) (aNil)))))) (aNil)))) (aCons (eTup (aCons (eVar 6) (aCons (eC (.bool true)) (aNil)))) (aNil)))))) (sRet (eC (.bool false))) (sNext))
def S__law_proof_right_5 : PV.Env → Option Fl := sSet 10 (bind2 opMod (bindA (op1 fInt) (aCons (bind2 opAdd (eVar 9) (eVar 5)) (aNil))) (eC (.int 997)))
def S__law_proof_right_6 : PV.Env → Option Fl := sIf (tb (bind2 opNotB (eCall 4 F_judge_proof (aCons (eVar 4) (aCons (eVar 10) (aCons (eVar 6) (aCons (bind2 opIx (bind2 opIx (eVar 1) (eC (.int 4))) (eC (.int 0))) (aNil)))))) (eC (.bool false)))) (sRet (eC (.bool false))) (sNext)
def S__law_proof_right_7 : PV.Env → Option Fl := sRet (eCall 2 (F__law_like 8) (aCons (eCall 4 F_judge_proof (aCons (eVar 4) (aCons (eVar 9) (aCons (eVar 6) (aCons (bind2 opIx (bind2 opIx (eVar 3) (eC (.int 4))) (eC (.int 0))) (aNil)))))) (aCons (bind2 opEq2 (bind2 opIx (eVar 1) (eC (.int 4))) (bind2 opIx (eVar 3) (eC (.int 4)))) (aNil))))
def B__law_proof_right : PV.Env → Option Fl := sSeq (S__law_proof_right_1) (sSeq (S__law_proof_right_2) (sSeq (S__law_proof_right_3) (sSeq (S__law_proof_right_4) (sSeq (S__law_proof_right_5) (sSeq (S__law_proof_right_6) (S__law_proof_right_7))))))
def F__law_proof_right : List PyData → Option R := mkF 6 11 B__law_proof_right
def S_print_tree_1 : PV.Env → Option Fl := sSet 1 (bind2 opMul2 (eLst (aCons (eC (.int 0)) (aNil))) (eC (.int 16)))
def P_print_tree_1 : PV.Env → Option Fl := sSetIx 1 (eVar 2) (bind2 opMod (bind2 opAdd (bind2 opMul2 (eC (.int 31)) (eVar 2)) (eVar 3)) (eC (.int 997)))
def S_print_tree_2 : PV.Env → Option Fl := sFrz 0 (sFor (iSeq true (eVar 0)) (gTp [gNm 2, gNm 3]) (P_print_tree_1))
def S_print_tree_3 : PV.Env → Option Fl := sSet 4 (eLst (aCons (bindA (op1 fTuple) (aCons (eVar 1) (aNil))) (aNil)))
def P_print_tree_2 : PV.Env → Option Bool := tb (bind2 opGt2 (bindA (op1 fLen) (aCons (eVar 1) (aNil))) (eC (.int 1)))
def P_print_tree_3 : PV.Env → Option Fl := sSeq (sSet 1 (eLc (iRg1 (aCons (bind2 opFdiv (bindA (op1 fLen) (aCons (eVar 1) (aNil))) (eC (.int 2))) (aNil))) [5] (gNm 5) (tYesB) (eCall 2 F__print_of (aCons (bind2 opIx (eVar 1) (bind2 opMul2 (eC (.int 2)) (eVar 5))) (aCons (bind2 opIx (eVar 1) (bind2 opAdd (bind2 opMul2 (eC (.int 2)) (eVar 5)) (eC (.int 1)))) (aNil)))))) (sApp 4 (bindA (op1 fTuple) (aCons (eVar 1) (aNil))))
def S_print_tree_4 : PV.Env → Option Fl := sWhile 10000 (P_print_tree_2) (P_print_tree_3)
def S_print_tree_5 : PV.Env → Option Fl := sRet (bindA (op1 fTuple) (aCons (eVar 4) (aNil)))
def B_print_tree : PV.Env → Option Fl := sSeq (S_print_tree_1) (sSeq (S_print_tree_2) (sSeq (S_print_tree_3) (sSeq (S_print_tree_4) (S_print_tree_5))))
def F_print_tree : List PyData → Option R := mkF 1 6 B_print_tree
def S_law_1 : PV.Env → Option Fl := sSet 1 (eCall 2 F__law_row (aCons (eVar 0) (aCons (eC (.int 70)) (aNil))))
def S_law_2 : PV.Env → Option Fl := sSet 2 (eLc (iRg1 (aCons (eC (.int 16)) (aNil))) [5] (gNm 5) (tYesB) (bind2 opSub (bind2 opMod (bindA (op1 fInt) (aCons (bind2 opIx (eVar 1) (bind2 opAdd (eC (.int 2)) (eVar 5))) (aNil))) (eC (.int 801))) (eC (.int 400))))
def S_law_3 : PV.Env → Option Fl := sFrz 6 (sSet 3 (eLc (iRg1 (aCons (eC (.int 16)) (aNil))) [6] (gNm 6) (tb (bind2 opGt2 (bind2 opMod (bindA (op1 fInt) (aCons (bind2 opIx (eVar 1) (bind2 opAdd (eC (.int 18)) (eVar 6))) (aNil))) (eC (.int 4))) (eC (.int 0)))) (eTup (aCons (eVar 6) (aCons (bind2 opIx (eVar 2) (eVar 6)) (aNil))))))
def S_law_4 : PV.Env → Option Fl := sSet 4 (eLc (iSeq false (eVar 3)) [12] (gNm 12) (tYesB) (eVar 12))
def P_law_1 : PV.Env → Option Fl := sSeq (sSet 6 (bind2 opMod (bindA (op1 fInt) (aCons (bind2 opIx (eVar 1) (bind2 opAdd (eC (.int 34)) (eVar 5))) (aNil))) (eC (.int 16)))) (sSeq (sSet 4 (eLc (iSeq false (eVar 4)) [12] (gNm 12) (tb (bind2 opNe2 (bind2 opIx (eVar 12) (eC (.int 0))) (eVar 6))) (eVar 12))) (sIf (tb (bind2 opGt2 (bind2 opMod (bindA (op1 fInt) (aCons (bind2 opIx (eVar 1) (bind2 opAdd (eC (.int 39)) (eVar 5))) (aNil))) (eC (.int 4))) (eC (.int 0)))) (sFrz 6 (sApp 4 (eTup (aCons (eVar 6) (aCons (bind2 opSub (bind2 opMod (bindA (op1 fInt) (aCons (bind2 opIx (eVar 1) (bind2 opAdd (eC (.int 44)) (eVar 5))) (aNil))) (eC (.int 801))) (eC (.int 400))) (aNil)))))) (sNext)))
def S_law_5 : PV.Env → Option Fl := sFor (iRg1 (aCons (bind2 opMod (bindA (op1 fInt) (aCons (bind2 opIx (eVar 1) (eC (.int 0))) (aNil))) (eC (.int 5))) (aNil))) (gNm 5) (P_law_1)
def S_law_6 : PV.Env → Option Fl := sIf (tb (bind2 opEq2 (bind2 opMod (bindA (op1 fInt) (aCons (bind2 opIx (eVar 1) (eC (.int 1))) (aNil))) (eC (.int 8))) (eC (.int 1)))) (sFrz 6 (sSet 4 (eLc (iRg1 (aCons (eC (.int 16)) (aNil))) [6] (gNm 6) (tYesB) (eTup (aCons (eVar 6) (aCons (bind2 opSub (bind2 opMod (bindA (op1 fInt) (aCons (bind2 opIx (eVar 1) (bind2 opAdd (eC (.int 49)) (eVar 6))) (aNil))) (eC (.int 801))) (eC (.int 400))) (aNil))))))) (sNext)
def S_law_7 : PV.Env → Option Fl := sIf (tb (bind2 opEq2 (bind2 opMod (bindA (op1 fInt) (aCons (bind2 opIx (eVar 1) (eC (.int 1))) (aNil))) (eC (.int 8))) (eC (.int 2)))) (sSeq (sSet 7 (bind2 opMul2 (eC (.int 2)) (bind2 opMod (bindA (op1 fInt) (aCons (bind2 opIx (eVar 1) (eC (.int 34))) (aNil))) (eC (.int 8))))) (sSeq (sFrz 7 (sSet 4 (eLc (iSeq false (eVar 3)) [12] (gNm 12) (tb (bind2 opNotIn (bind2 opIx (eVar 12) (eC (.int 0))) (eTup (aCons (eVar 7) (aCons (bind2 opAdd (eVar 7) (eC (.int 1))) (aNil)))))) (eVar 12)))) (sSeq (sFrz 7 (sSet 3 (bindA (op1 fSorted) (aCons (bind2 opAdd (eVar 4) (eLst (aCons (eTup (aCons (eVar 7) (aCons (eC (.int 10)) (aNil)))) (aCons (eTup (aCons (bind2 opAdd (eVar 7) (eC (.int 1))) (aCons (eC (.int 20)) (aNil)))) (aNil))))) (aNil))))) (sFrz 7 (sSet 4 (bind2 opAdd (eVar 4) (eLst (aCons (eTup (aCons (eVar 7) (aCons (eC (.int 15)) (aNil)))) (aCons (eTup (aCons (bind2 opAdd (eVar 7) (eC (.int 1))) (aCons (eC (.int 3)) (aNil)))) (aNil)))))))))) (sNext)
def S_law_8 : PV.Env → Option Fl := sPar [8, 9] (aCons (eCall 1 F_print_tree (aCons (bindA (op1 fTuple) (aCons (eVar 3) (aNil))) (aNil))) (aCons (eCall 1 F_print_tree (aCons (bindA (op1 fTuple) (aCons (bindA (op1 fSorted) (aCons (eVar 4) (aNil))) (aNil))) (aNil))) (aNil)))
def S_law_9 : PV.Env → Option Fl := sPar [10, 11] (aCons (eCall 1 F__law_levels (aCons (eCall 1 F__law_numbers (aCons (eVar 3) (aNil))) (aNil))) (aCons (eCall 1 F__law_levels (aCons (eCall 1 F__law_numbers (aCons (eVar 4) (aNil))) (aNil))) (aNil)))
def S_law_10 : PV.Env → Option Fl := sFrz 11 (sFrz 10 (sFrz 9 (sFrz 8 (sIf (bOr (bNot (tT' (eCall 2 (F__law_like 8) (aCons (eTup (aCons (eVar 8) (aCons (eVar 9) (aNil)))) (aCons (eTup (aCons (eVar 10) (aCons (eVar 11) (aNil)))) (aNil)))))) (bNot (tT' (eCall 4 F__law_both_right (aCons (eVar 8) (aCons (eVar 9) (aCons (eVar 10) (aCons (eVar 11) (aNil))))))))) (sRet (eC (.bool false))) (sNext)))))
def P_law_2 : PV.Env → Option Fl := sIf (bNot (tT' (eCall 6 F__law_proof_right (aCons (eVar 8) (aCons (eVar 10) (aCons (eVar 9) (aCons (eVar 11) (aCons (eVar 6) (aCons (bind2 opAdd (eC (.int 1)) (bind2 opMod (bindA (op1 fInt) (aCons (bind2 opIx (eVar 1) (eC (.int 67))) (aNil))) (eC (.int 996)))) (aNil)))))))))) (sRet (eC (.bool false))) (sNext)
def S_law_11 : PV.Env → Option Fl := sFor (iSeq true (eTup (aCons (bind2 opMod (bindA (op1 fInt) (aCons (bind2 opIx (eVar 1) (eC (.int 65))) (aNil))) (eC (.int 16))) (aCons (bind2 opMod (bindA (op1 fInt) (aCons (bind2 opIx (eVar 1) (eC (.int 66))) (aNil))) (eC (.int 16))) (aNil))))) (gNm 6) (P_law_2)
def S_law_12 : PV.Env → Option Fl := sRet (eC (.bool true))
def B_law : PV.Env → Option Fl := sSeq (S_law_1) (sSeq (S_law_2) (sSeq (S_law_3) (sSeq (S_law_4) (sSeq (S_law_5) (sSeq (S_law_6) (sSeq (S_law_7) (sSeq (S_law_8) (sSeq (S_law_9) (sSeq (S_law_10) (sSeq (S_law_11) (S_law_12)))))))))))
def F_law : List PyData → Option R := mkF 1 13 B_law
end LW19

/-! the law of the prints, in plain Lean -/
namespace LW19
open PySem L2 PV PySem.W
def P (l h : Int) : Int := (17 * l + 5 * h + 1) % 997
theorem P_rng (l h : Int) : 0 ≤ P l h ∧ P l h < 997 := mod_lt (by omega)
theorem P_left {l l' h : Int} (a : 0 ≤ l ∧ l < 997) (b : 0 ≤ l' ∧ l' < 997) (e : P l h = P l' h) : l = l' := by unfold P at e; omega
theorem P_right {l h h' : Int} (a : 0 ≤ h ∧ h < 997) (b : 0 ≤ h' ∧ h' < 997) (e : P l h = P l h') : h = h' := by unfold P at e; omega
def V (f : Nat → Int) : Nat → Nat → Int
  | 0, k => f k
  | t + 1, k => P (V f t (2 * k)) (V f t (2 * k + 1))
def In (f : Nat → Int) : Prop := ∀ k, 0 ≤ f k ∧ f k < 997
theorem V_rng {f : Nat → Int} (hf : In f) : ∀ t k, 0 ≤ V f t k ∧ V f t k < 997
  | 0, k => hf k
  | t + 1, k => P_rng _ _
def lw (f : Nat → Int) (t n : Nat) : List Int := (List.range n).map (V f t)
theorem lw_len (f : Nat → Int) (t n : Nat) : (lw f t n).length = n := by unfold lw; rw [List.length_map, List.length_range]
theorem lw_get (f : Nat → Int) (t n k : Nat) (h : k < n) : (lw f t n)[k]? = some (V f t k) := by
  unfold lw
  rw [List.getElem?_map, List.getElem?_range h]
  rfl
def levs (f : Nat → Int) : PyData := .tuple [tuI (lw f 0 16), tuI (lw f 1 8), tuI (lw f 2 4), tuI (lw f 3 2), tuI (lw f 4 1)]
theorem print_of_ok (l h : Int) : F__print_of [.int l, .int h] = some (.d (.int (P l h))) := by
  have m1 := mulI 17 l (by omega)
  have m2 := mulI 5 h (by omega)
  have m := mod_i (i := 17 * l + 5 * h + 1) (j := 997) (by omega)
  unfold F__print_of B__print_of
  simp only [mkF, sSeq, sSet, sIf, sRet, sRetN, sNext, sBrk, sCont, sDrop, sFrz, freeze, sPar, putAll, putR, outR, sAsg, sApp, sExt, sPop, sSetIx, sAug, sFor, ownAt, eVar, eC, bind1, bind2, bindA, aCons, aNil, op1, tb, tT', tru, isB, bAnd, bOr, bNot, eAnd, eOr, eNot, eIf, eTup, eLst, toD, toDs, eSl, pNo, pAt, eCall, isBor, noLR, fInt, fList, fTuple, unNeg, gNm, gTp, gAll, iRg1, iRg2, iSeq, itsOf, sv, lv, dv, tYesB, List.map_cons, List.map_nil, List.append_eq, List.cons_append, List.nil_append, List.replicate_succ, List.replicate_zero, Option.bind_some, Option.bind_none, Option.map_some, Option.map_none, Option.some_or, Option.none_or, List.getElem?_cons_zero, List.getElem?_cons_succ, List.set_cons_zero, List.set_cons_succ, List.length_cons, List.length_nil, List.any_cons, List.any_nil, if_true, if_false, ite_true, ite_false, Bool.false_eq_true, reduceIte, Nat.reduceAdd, Nat.reduceSub, Nat.reduceLT, Nat.reduceLeDiff, Bool.or_false, Bool.false_or, Bool.or_self, Bool.not_true, Bool.not_false, m1, m2, add_i, m]
  rfl
/-! ### sums -/
def wt : Nat → List Int
  | 0 => [1]
  | t + 1 => (wt t).map (17 * ·) ++ (wt t).map (5 * ·)
def rs : Nat → Int
  | 0 => 0
  | t + 1 => 22 * rs t + 1
theorem wt_len : ∀ t, (wt t).length = 2 ^ t
  | 0 => rfl
  | t + 1 => by
    show ((wt t).map (17 * ·) ++ (wt t).map (5 * ·)).length = _
    rw [List.length_append, List.length_map, List.length_map, wt_len t, Nat.pow_succ]
    omega
def dot : List Int → List Int → Int
  | x :: a, y :: b => x * y + dot a b
  | _, _ => 0
theorem dot_app : ∀ (a b c d : List Int), a.length = c.length → dot (a ++ b) (c ++ d) = dot a c + dot b d
  | [], b, [], d, _ => by simp [dot]
  | x :: a, b, y :: c, d, h => by
    have := dot_app a b c d (by simpa using h)
    show x * y + dot (a ++ b) (c ++ d) = x * y + dot a c + dot b d
    omega
theorem dot_mul (c : Int) : ∀ (a b : List Int), dot (a.map (c * ·)) b = c * dot a b
  | [], b => by simp [dot]
  | x :: a, [] => by simp [dot]
  | x :: a, y :: b => by
    have := dot_mul c a b
    show c * x * y + dot (a.map (c * ·)) b = c * (x * y + dot a b)
    rw [this, Int.mul_add, Int.mul_assoc]
theorem dot_sum : ∀ (a b : List Int), a.length = b.length → ((List.range b.length).map fun k => a.getD k 0 * b.getD k 0).sum = dot a b
  | [], [], _ => rfl
  | x :: a, y :: b, h => by
    have := dot_sum a b (by simpa using h)
    rw [List.length_cons, List.range_succ_eq_map, List.map_cons, List.map_map, List.sum_cons]
    show x * y + ((List.range b.length).map fun k => a.getD k 0 * b.getD k 0).sum = _
    rw [this]
    rfl
def blk (f : Nat → Int) (t k : Nat) : List Int := (List.range (2 ^ t)).map fun i => f (2 ^ t * k + i)
theorem blk_len (f : Nat → Int) (t k : Nat) : (blk f t k).length = 2 ^ t := by unfold blk; rw [List.length_map, List.length_range]
theorem blk_two (f : Nat → Int) (t k : Nat) : blk f (t + 1) k = blk f t (2 * k) ++ blk f t (2 * k + 1) := by
  unfold blk
  rw [show 2 ^ (t + 1) = 2 ^ t + 2 ^ t by rw [Nat.pow_succ]; omega, List.range_add, List.map_append, List.map_map]
  have e1 : (2 ^ t + 2 ^ t) * k = 2 ^ t * (2 * k) := by rw [← Nat.mul_two, Nat.mul_assoc]
  rw [e1]
  congr 1
  refine List.map_congr_left fun i _ => ?_
  show f (2 ^ t * (2 * k) + (2 ^ t + i)) = f (2 ^ t * (2 * k + 1) + i)
  rw [Nat.mul_add, Nat.mul_one, Nat.add_assoc]
theorem sum_V {f : Nat → Int} (hf : In f) : ∀ t k, (rs t + dot (wt t) (blk f t k)) % 997 = V f t k
  | 0, k => by
    have h := hf k
    have e : blk f 0 k = [f k] := by
      unfold blk
      show [f (2 ^ 0 * k + 0)] = _
      simp
    rw [e]
    show (0 + (1 * f k + 0)) % 997 = f k
    omega
  | t + 1, k => by
    have a := sum_V hf t (2 * k)
    have b := sum_V hf t (2 * k + 1)
    rw [blk_two]
    show (22 * rs t + 1 + dot ((wt t).map (17 * ·) ++ (wt t).map (5 * ·)) _) % 997 = P (V f t (2 * k)) (V f t (2 * k + 1))
    rw [dot_app _ _ _ _ (by rw [List.length_map, wt_len, blk_len]), dot_mul, dot_mul, ← a, ← b]
    unfold P
    omega
def sE (xs : List Int) (t : Nat) (i : Option S) : PV.Env := [some (.d (.list (xs.map .int))), some (.own ((wt t).map .int)), some (.d (.int (rs t))), i, none, none]
theorem law_sum_ok (xs : List Int) (t : Nat) (ht : t ≤ 4) (hl : xs.length = 2 ^ t) (hx : ∀ x ∈ xs, 0 ≤ x ∧ x < 997) : F__law_sum [.list (xs.map .int)] = some (.d (.int ((rs t + dot (wt t) xs) % 997))) := by
  have pw : ∀ n, n ≤ 4 → 2 ^ n ≤ 16 := fun n hn => (Nat.pow_le_pow_right (by omega) hn : 2 ^ n ≤ 2 ^ 4)
  have pt := pw t ht
  have s1 : S__law_sum_1 [some (.d (.list (xs.map .int))), none, none, none, none, none] = some (.nx (sE xs 0 none)) := by
    have h1 : (1 : Nat) ≤ LIM := lim_small' (by omega)
    unfold S__law_sum_1
    simp only [mkF, sSeq, sSet, sIf, sRet, sRetN, sNext, sBrk, sCont, sDrop, sFrz, freeze, sPar, putAll, putR, outR, sAsg, sApp, sExt, sPop, sSetIx, sAug, sFor, ownAt, eVar, eC, bind1, bind2, bindA, aCons, aNil, op1, tb, tT', tru, isB, bAnd, bOr, bNot, eAnd, eOr, eNot, eIf, eTup, eLst, toD, toDs, eSl, pNo, pAt, eCall, isBor, noLR, fInt, fList, fTuple, unNeg, gNm, gTp, gAll, iRg1, iRg2, iSeq, itsOf, sv, lv, dv, tYesB, List.map_cons, List.map_nil, List.append_eq, List.cons_append, List.nil_append, List.replicate_succ, List.replicate_zero, Option.bind_some, Option.bind_none, Option.map_some, Option.map_none, Option.some_or, Option.none_or, List.getElem?_cons_zero, List.getElem?_cons_succ, List.set_cons_zero, List.set_cons_succ, List.length_cons, List.length_nil, List.any_cons, List.any_nil, if_true, if_false, ite_true, ite_false, Bool.false_eq_true, reduceIte, Nat.reduceAdd, Nat.reduceSub, Nat.reduceLT, Nat.reduceLeDiff, Bool.or_false, Bool.false_or, Bool.or_self, Bool.not_true, Bool.not_false, h1]
    rfl
  have rg := rg1_c (i := 4) (by omega) (by omega)
  obtain ⟨env', e, i, rfl⟩ := for_rg (tg := gNm 3) (body := P__law_sum_1) (fun k env => ∃ i, env = sE xs (min k t) i) 4 (env := sE xs 0 none) ⟨none, by rw [Nat.zero_min]⟩ (by
    rintro k env hk ⟨i, rfl⟩
    by_cases hkt : k < t
    · rw [Nat.min_eq_left (by omega : k ≤ t), Nat.min_eq_left (by omega : k + 1 ≤ t)]
      have pk := pw k (by omega)
      have pl : 2 ^ k < 2 ^ t := Nat.pow_lt_pow_right (by omega) hkt
      have wl := wt_len k
      have g : opLt2 (.d (.int ((wt k).length : Nat))) (.d (.int (xs.length : Nat))) = some (.d (.bool true)) := by rw [lt_i, decide_eq_true (by omega)]
      have c1 : eLc (iSeq false (eVar 1)) [4] (gNm 4) (tYesB) (bind2 opMul2 (eC (.int 17)) (eVar 4)) (sE xs k (some (.d (.int (k : Nat))))) = some (.own (((wt k).map (17 * ·)).map .int)) := by
        rw [own_xs (α := Int) (xs := wt k) PyData.int (by omega) (fun x => .int (17 * x)) rfl, List.map_map]
        · rfl
        · intro x hx
          have m := mulI 17 x (by omega)
          refine ⟨_, rfl, ?_⟩
          simp only [sE, wipeE, mkF, sSeq, sSet, sIf, sRet, sRetN, sNext, sBrk, sCont, sDrop, sFrz, freeze, sPar, putAll, putR, outR, sAsg, sApp, sExt, sPop, sSetIx, sAug, sFor, ownAt, eVar, eC, bind1, bind2, bindA, aCons, aNil, op1, tb, tT', tru, isB, bAnd, bOr, bNot, eAnd, eOr, eNot, eIf, eTup, eLst, toD, toDs, eSl, pNo, pAt, eCall, isBor, noLR, fInt, fList, fTuple, unNeg, gNm, gTp, gAll, iRg1, iRg2, iSeq, itsOf, sv, lv, dv, tYesB, List.map_cons, List.map_nil, List.append_eq, List.cons_append, List.nil_append, List.replicate_succ, List.replicate_zero, Option.bind_some, Option.bind_none, Option.map_some, Option.map_none, Option.some_or, Option.none_or, List.getElem?_cons_zero, List.getElem?_cons_succ, List.set_cons_zero, List.set_cons_succ, List.length_cons, List.length_nil, List.any_cons, List.any_nil, if_true, if_false, ite_true, ite_false, Bool.false_eq_true, reduceIte, Nat.reduceAdd, Nat.reduceSub, Nat.reduceLT, Nat.reduceLeDiff, Bool.or_false, Bool.false_or, Bool.or_self, Bool.not_true, Bool.not_false, m]
      have c2 : eLc (iSeq false (eVar 1)) [4] (gNm 4) (tYesB) (bind2 opMul2 (eC (.int 5)) (eVar 4)) (sE xs k (some (.d (.int (k : Nat))))) = some (.own (((wt k).map (5 * ·)).map .int)) := by
        rw [own_xs (α := Int) (xs := wt k) PyData.int (by omega) (fun x => .int (5 * x)) rfl, List.map_map]
        · rfl
        · intro x hx
          have m := mulI 5 x (by omega)
          refine ⟨_, rfl, ?_⟩
          simp only [sE, wipeE, mkF, sSeq, sSet, sIf, sRet, sRetN, sNext, sBrk, sCont, sDrop, sFrz, freeze, sPar, putAll, putR, outR, sAsg, sApp, sExt, sPop, sSetIx, sAug, sFor, ownAt, eVar, eC, bind1, bind2, bindA, aCons, aNil, op1, tb, tT', tru, isB, bAnd, bOr, bNot, eAnd, eOr, eNot, eIf, eTup, eLst, toD, toDs, eSl, pNo, pAt, eCall, isBor, noLR, fInt, fList, fTuple, unNeg, gNm, gTp, gAll, iRg1, iRg2, iSeq, itsOf, sv, lv, dv, tYesB, List.map_cons, List.map_nil, List.append_eq, List.cons_append, List.nil_append, List.replicate_succ, List.replicate_zero, Option.bind_some, Option.bind_none, Option.map_some, Option.map_none, Option.some_or, Option.none_or, List.getElem?_cons_zero, List.getElem?_cons_succ, List.set_cons_zero, List.set_cons_succ, List.length_cons, List.length_nil, List.any_cons, List.any_nil, if_true, if_false, ite_true, ite_false, Bool.false_eq_true, reduceIte, Nat.reduceAdd, Nat.reduceSub, Nat.reduceLT, Nat.reduceLeDiff, Bool.or_false, Bool.false_or, Bool.or_self, Bool.not_true, Bool.not_false, m]
      have ct : opAdd (.own (((wt k).map (17 * ·)).map .int)) (.own (((wt k).map (5 * ·)).map .int)) = some (.own ((wt (k + 1)).map .int)) := by
        rw [cat_o (lim_small' (by simp only [List.length_map]; omega)), ← List.map_append]
        rfl
      have m22 := mulI 22 (rs k) (by omega)
      have er : 22 * rs k + 1 = rs (k + 1) := rfl
      have eP : P__law_sum_1 (sE xs k (some (.d (.int (k : Nat))))) = some (.nx (sE xs (k + 1) (some (.d (.int (k : Nat)))))) := by
        unfold P__law_sum_1
        generalize eLc (iSeq false (eVar 1)) [4] (gNm 4) (tYesB) (bind2 opMul2 (eC (.int 17)) (eVar 4)) = C1 at c1
        generalize eLc (iSeq false (eVar 1)) [4] (gNm 4) (tYesB) (bind2 opMul2 (eC (.int 5)) (eVar 4)) = C2 at c2
        unfold sE at c1 c2 ⊢
        simp only [mkF, sSeq, sSet, sIf, sRet, sRetN, sNext, sBrk, sCont, sDrop, sFrz, freeze, sPar, putAll, putR, outR, sAsg, sApp, sExt, sPop, sSetIx, sAug, sFor, ownAt, eVar, eC, bind1, bind2, bindA, aCons, aNil, op1, tb, tT', tru, isB, bAnd, bOr, bNot, eAnd, eOr, eNot, eIf, eTup, eLst, toD, toDs, eSl, pNo, pAt, eCall, isBor, noLR, fInt, fList, fTuple, unNeg, gNm, gTp, gAll, iRg1, iRg2, iSeq, itsOf, sv, lv, dv, tYesB, List.map_cons, List.map_nil, List.append_eq, List.cons_append, List.nil_append, List.replicate_succ, List.replicate_zero, Option.bind_some, Option.bind_none, Option.map_some, Option.map_none, Option.some_or, Option.none_or, List.getElem?_cons_zero, List.getElem?_cons_succ, List.set_cons_zero, List.set_cons_succ, List.length_cons, List.length_nil, List.any_cons, List.any_nil, if_true, if_false, ite_true, ite_false, Bool.false_eq_true, reduceIte, Nat.reduceAdd, Nat.reduceSub, Nat.reduceLT, Nat.reduceLeDiff, Bool.or_false, Bool.false_or, Bool.or_self, Bool.not_true, Bool.not_false, len_borI, len_lstI, g, c1, c2, ct, m22, add_i, er]
      exact ⟨_, _, rfl, eP, _, .inl rfl, _, rfl⟩
    · rw [Nat.min_eq_right (by omega : t ≤ k), Nat.min_eq_right (by omega : t ≤ k + 1)]
      have wl := wt_len t
      have g : opLt2 (.d (.int ((wt t).length : Nat))) (.d (.int (xs.length : Nat))) = some (.d (.bool false)) := by rw [lt_i, decide_eq_false (by omega)]
      have eP : P__law_sum_1 (sE xs t (some (.d (.int (k : Nat))))) = some (.nx (sE xs t (some (.d (.int (k : Nat)))))) := by
        unfold P__law_sum_1 sE
        simp only [mkF, sSeq, sSet, sIf, sRet, sRetN, sNext, sBrk, sCont, sDrop, sFrz, freeze, sPar, putAll, putR, outR, sAsg, sApp, sExt, sPop, sSetIx, sAug, sFor, ownAt, eVar, eC, bind1, bind2, bindA, aCons, aNil, op1, tb, tT', tru, isB, bAnd, bOr, bNot, eAnd, eOr, eNot, eIf, eTup, eLst, toD, toDs, eSl, pNo, pAt, eCall, isBor, noLR, fInt, fList, fTuple, unNeg, gNm, gTp, gAll, iRg1, iRg2, iSeq, itsOf, sv, lv, dv, tYesB, List.map_cons, List.map_nil, List.append_eq, List.cons_append, List.nil_append, List.replicate_succ, List.replicate_zero, Option.bind_some, Option.bind_none, Option.map_some, Option.map_none, Option.some_or, Option.none_or, List.getElem?_cons_zero, List.getElem?_cons_succ, List.set_cons_zero, List.set_cons_succ, List.length_cons, List.length_nil, List.any_cons, List.any_nil, if_true, if_false, ite_true, ite_false, Bool.false_eq_true, reduceIte, Nat.reduceAdd, Nat.reduceSub, Nat.reduceLT, Nat.reduceLeDiff, Bool.or_false, Bool.false_or, Bool.or_self, Bool.not_true, Bool.not_false, len_borI, len_lstI, g]
      exact ⟨_, _, rfl, eP, _, .inl rfl, _, rfl⟩)
  rw [Nat.min_eq_right ht] at e
  have s2 : S__law_sum_2 (sE xs 0 none) = some (.nx (sE xs t i)) := by
    unfold S__law_sum_2 sFor
    have hi : iRg1 (aCons (eC (.int 4)) (aNil)) (sE xs 0 none) = some (rngL 0 4) := by
      simp only [mkF, sSeq, sSet, sIf, sRet, sRetN, sNext, sBrk, sCont, sDrop, sFrz, freeze, sPar, putAll, putR, outR, sAsg, sApp, sExt, sPop, sSetIx, sAug, sFor, ownAt, eVar, eC, bind1, bind2, bindA, aCons, aNil, op1, tb, tT', tru, isB, bAnd, bOr, bNot, eAnd, eOr, eNot, eIf, eTup, eLst, toD, toDs, eSl, pNo, pAt, eCall, isBor, noLR, fInt, fList, fTuple, unNeg, gNm, gTp, gAll, iRg1, iRg2, iSeq, itsOf, sv, lv, dv, tYesB, List.map_cons, List.map_nil, List.append_eq, List.cons_append, List.nil_append, List.replicate_succ, List.replicate_zero, Option.bind_some, Option.bind_none, Option.map_some, Option.map_none, Option.some_or, Option.none_or, List.getElem?_cons_zero, List.getElem?_cons_succ, List.set_cons_zero, List.set_cons_succ, List.length_cons, List.length_nil, List.any_cons, List.any_nil, if_true, if_false, ite_true, ite_false, Bool.false_eq_true, reduceIte, Nat.reduceAdd, Nat.reduceSub, Nat.reduceLT, Nat.reduceLeDiff, Bool.or_false, Bool.false_or, Bool.or_self, Bool.not_true, Bool.not_false, rg]
      rfl
    rw [hi, Option.bind_some, e]
  have s3 : S__law_sum_3 (sE xs t i) = some (.rt (.d (.int ((rs t + dot (wt t) xs) % 997)))) := by
    have wl := wt_len t
    have rgn := rg1_i (n := xs.length) (by omega)
    have c1 : eLc (iRg1 (aCons (bindA (op1 fLen) (aCons (eVar 0) (aNil))) (aNil))) [5] (gNm 5) (tYesB) (bind2 opMul2 (bind2 opIx (eVar 1) (eVar 5)) (bind2 opIx (eVar 0) (eVar 5))) (sE xs t i) = some (.own (((List.range xs.length).map fun k => (wt t).getD k 0 * xs.getD k 0).map .int)) := by
      rw [own_rg (n := xs.length) (by omega) (fun k => .int ((wt t).getD k 0 * xs.getD k 0)) (by unfold sE; simp only [mkF, sSeq, sSet, sIf, sRet, sRetN, sNext, sBrk, sCont, sDrop, sFrz, freeze, sPar, putAll, putR, outR, sAsg, sApp, sExt, sPop, sSetIx, sAug, sFor, ownAt, eVar, eC, bind1, bind2, bindA, aCons, aNil, op1, tb, tT', tru, isB, bAnd, bOr, bNot, eAnd, eOr, eNot, eIf, eTup, eLst, toD, toDs, eSl, pNo, pAt, eCall, isBor, noLR, fInt, fList, fTuple, unNeg, gNm, gTp, gAll, iRg1, iRg2, iSeq, itsOf, sv, lv, dv, tYesB, List.map_cons, List.map_nil, List.append_eq, List.cons_append, List.nil_append, List.replicate_succ, List.replicate_zero, Option.bind_some, Option.bind_none, Option.map_some, Option.map_none, Option.some_or, Option.none_or, List.getElem?_cons_zero, List.getElem?_cons_succ, List.set_cons_zero, List.set_cons_succ, List.length_cons, List.length_nil, List.any_cons, List.any_nil, if_true, if_false, ite_true, ite_false, Bool.false_eq_true, reduceIte, Nat.reduceAdd, Nat.reduceSub, Nat.reduceLT, Nat.reduceLeDiff, Bool.or_false, Bool.false_or, Bool.or_self, Bool.not_true, Bool.not_false, len_lstI, rgn]), List.map_map]
      · rfl
      · intro k hk
        have i1 : opIx (.bor ((wt t).map .int)) (.d (.int (k : Nat))) = some (.d (.int ((wt t).getD k 0))) := ix_bor (by omega) (by rw [Int.toNat_natCast, List.getElem?_map, List.getElem?_eq_getElem (by omega), List.getD_eq_getElem?_getD, List.getElem?_eq_getElem (by omega)]; rfl)
        have i2 : opIx (.d (.list (xs.map .int))) (.d (.int (k : Nat))) = some (.d (.int (xs.getD k 0))) := ix_lst (by omega) (by rw [Int.toNat_natCast, List.getElem?_map, List.getElem?_eq_getElem (by omega), List.getD_eq_getElem?_getD, List.getElem?_eq_getElem (by omega)]; rfl)
        have hb : 0 ≤ xs.getD k 0 ∧ xs.getD k 0 < 997 := by
          rw [List.getD_eq_getElem?_getD, List.getElem?_eq_getElem hk]
          exact hx _ (List.getElem_mem _)
        have m := mul_r (i := (wt t).getD k 0) (j := xs.getD k 0) (by omega) (by omega)
        refine ⟨_, rfl, ?_⟩
        simp only [sE, wipeE, mkF, sSeq, sSet, sIf, sRet, sRetN, sNext, sBrk, sCont, sDrop, sFrz, freeze, sPar, putAll, putR, outR, sAsg, sApp, sExt, sPop, sSetIx, sAug, sFor, ownAt, eVar, eC, bind1, bind2, bindA, aCons, aNil, op1, tb, tT', tru, isB, bAnd, bOr, bNot, eAnd, eOr, eNot, eIf, eTup, eLst, toD, toDs, eSl, pNo, pAt, eCall, isBor, noLR, fInt, fList, fTuple, unNeg, gNm, gTp, gAll, iRg1, iRg2, iSeq, itsOf, sv, lv, dv, tYesB, List.map_cons, List.map_nil, List.append_eq, List.cons_append, List.nil_append, List.replicate_succ, List.replicate_zero, Option.bind_some, Option.bind_none, Option.map_some, Option.map_none, Option.some_or, Option.none_or, List.getElem?_cons_zero, List.getElem?_cons_succ, List.set_cons_zero, List.set_cons_succ, List.length_cons, List.length_nil, List.any_cons, List.any_nil, if_true, if_false, ite_true, ite_false, Bool.false_eq_true, reduceIte, Nat.reduceAdd, Nat.reduceSub, Nat.reduceLT, Nat.reduceLeDiff, Bool.or_false, Bool.false_or, Bool.or_self, Bool.not_true, Bool.not_false, i1, i2, m]
    have md := mod_i (i := rs t + dot (wt t) xs) (j := 997) (by omega)
    have sm := fSum_I ((List.range xs.length).map fun k => (wt t).getD k 0 * xs.getD k 0)
    rw [dot_sum (wt t) xs (by omega)] at sm
    unfold S__law_sum_3
    generalize eLc (iRg1 (aCons (bindA (op1 fLen) (aCons (eVar 0) (aNil))) (aNil))) [5] (gNm 5) (tYesB) (bind2 opMul2 (bind2 opIx (eVar 1) (eVar 5)) (bind2 opIx (eVar 0) (eVar 5))) = C1 at c1
    unfold sE at c1 ⊢
    simp only [mkF, sSeq, sSet, sIf, sRet, sRetN, sNext, sBrk, sCont, sDrop, sFrz, freeze, sPar, putAll, putR, outR, sAsg, sApp, sExt, sPop, sSetIx, sAug, sFor, ownAt, eVar, eC, bind1, bind2, bindA, aCons, aNil, op1, tb, tT', tru, isB, bAnd, bOr, bNot, eAnd, eOr, eNot, eIf, eTup, eLst, toD, toDs, eSl, pNo, pAt, eCall, isBor, noLR, fInt, fList, fTuple, unNeg, gNm, gTp, gAll, iRg1, iRg2, iSeq, itsOf, sv, lv, dv, tYesB, List.map_cons, List.map_nil, List.append_eq, List.cons_append, List.nil_append, List.replicate_succ, List.replicate_zero, Option.bind_some, Option.bind_none, Option.map_some, Option.map_none, Option.some_or, Option.none_or, List.getElem?_cons_zero, List.getElem?_cons_succ, List.set_cons_zero, List.set_cons_succ, List.length_cons, List.length_nil, List.any_cons, List.any_nil, if_true, if_false, ite_true, ite_false, Bool.false_eq_true, reduceIte, Nat.reduceAdd, Nat.reduceSub, Nat.reduceLT, Nat.reduceLeDiff, Bool.or_false, Bool.false_or, Bool.or_self, Bool.not_true, Bool.not_false, c1, sm, add_i, md]
  refine F_of rfl rfl ?_ rfl
  show B__law_sum [some (.d (.list (xs.map .int))), none, none, none, none, none] = _
  unfold B__law_sum
  rw [seq_nx s1, seq_nx s2, s3]
end LW19

namespace LW19
open PySem L2 PV PySem.W
/-! ### levels of the law -/
def fd (f : Nat → Int) (i : Nat) : List PyData := (List.range i).map fun t => tuI (lw f t (16 / 2 ^ t))
theorem fd_5 (f : Nat → Int) : PyData.tuple (fd f 5) = levs f := rfl
theorem fd_len (f : Nat → Int) (i : Nat) : (fd f i).length = i := by unfold fd; rw [List.length_map, List.length_range]
theorem pos_of {m S : Nat} (hm : m * S = 16) : 0 < S := Nat.pos_of_ne_zero fun h => by rw [h] at hm; omega
theorem fd_succ (f : Nat → Int) (t m S : Nat) (hS : S = 2 ^ t) (hm : m * S = 16) : fd f t ++ [tuI (lw f t m)] = fd f (t + 1) := by
  unfold fd
  rw [List.range_succ, List.map_append]
  have : 16 / 2 ^ t = m := by rw [← hS, ← hm]; exact Nat.mul_div_cancel m (pos_of hm)
  rw [List.map_singleton, this]
def vE (f : Nat → Int) (t S : Nat) (i : Option PV.S) : PV.Env := [some (.d (.list ((lw f 0 16).map .int))), some (.own (fd f t)), some (.d (.int (S : Nat))), i, none]
theorem blk_cut (f : Nat → Int) (t k : Nat) (h : 2 ^ t * k + 2 ^ t ≤ 16) : (((lw f 0 16).map PyData.int).drop (2 ^ t * k)).take (2 ^ t) = (blk f t k).map .int := by
  have hl := lw_len f 0 16
  apply List.ext_getElem
  · rw [List.length_take, List.length_drop, List.length_map, List.length_map, blk_len]
    omega
  · intro i h1 h2
    rw [List.length_map, blk_len] at h2
    rw [List.getElem_take, List.getElem_drop, List.getElem_map, List.getElem_map]
    unfold lw blk
    rw [List.getElem_map, List.getElem_map, List.getElem_range, List.getElem_range]
    rfl
theorem lev_step {f : Nat → Int} (hf : In f) (t m S : Nat) (ht : t ≤ 4) (hS : S = 2 ^ t) (hm : m * S = 16) (i : Option PV.S) : P__law_levels_1 (vE f t S i) = some (.nx (vE f (t + 1) (2 * S) i)) := by
  have hSp : 0 < S := pos_of hm
  have hmp : m ≤ 16 := by rw [← hm]; exact Nat.le_mul_of_pos_right m hSp
  have hSl : S ≤ 16 := by rw [← hm]; exact Nat.le_mul_of_pos_left S (pos_of (Nat.mul_comm m S ▸ hm))
  have c1 : eLc (iRg1 (aCons (bind2 opFdiv (eC (.int 16)) (eVar 2)) (aNil))) [4] (gNm 4) (tYesB) (eCall 1 F__law_sum (aCons (eSl (eVar 0) (pAt (bind2 opMul2 (eVar 2) (eVar 4))) (pAt (bind2 opAdd (bind2 opMul2 (eVar 2) (eVar 4)) (eVar 2)))) (aNil))) (vE f t S i) = some (.own ((lw f t m).map .int)) := by
    have fdv : opFdiv (.d (.int 16)) (.d (.int (S : Nat))) = some (.d (.int (m : Nat))) := by
      rw [fdiv_i (by omega) (by omega)]
      have : (16 : Int) / (S : Nat) = ((16 / S : Nat) : Int) := rfl
      rw [this, show 16 / S = m by rw [← hm]; exact Nat.mul_div_cancel m hSp]
    have rg := rg1_i (n := m) (by omega)
    rw [own_rg (n := m) (by omega) (fun k => .int (V f t k)) (by unfold vE; simp only [mkF, sSeq, sSet, sIf, sRet, sRetN, sNext, sBrk, sCont, sDrop, sFrz, freeze, sPar, putAll, putR, outR, sAsg, sApp, sExt, sPop, sSetIx, sAug, sFor, ownAt, eVar, eC, bind1, bind2, bindA, aCons, aNil, op1, tb, tT', tru, isB, bAnd, bOr, bNot, eAnd, eOr, eNot, eIf, eTup, eLst, toD, toDs, eSl, pNo, pAt, eCall, isBor, noLR, fInt, fList, fTuple, unNeg, gNm, gTp, gAll, iRg1, iRg2, iSeq, itsOf, sv, lv, dv, tYesB, List.map_cons, List.map_nil, List.append_eq, List.cons_append, List.nil_append, List.replicate_succ, List.replicate_zero, Option.bind_some, Option.bind_none, Option.map_some, Option.map_none, Option.some_or, Option.none_or, List.getElem?_cons_zero, List.getElem?_cons_succ, List.set_cons_zero, List.set_cons_succ, List.length_cons, List.length_nil, List.any_cons, List.any_nil, if_true, if_false, ite_true, ite_false, Bool.false_eq_true, reduceIte, Nat.reduceAdd, Nat.reduceSub, Nat.reduceLT, Nat.reduceLeDiff, Bool.or_false, Bool.false_or, Bool.or_self, Bool.not_true, Bool.not_false, fdv, rg])]
    · unfold lw
      rw [List.map_map]
      rfl
    · intro k hk
      have hk1 : (k + 1) * S ≤ m * S := Nat.mul_le_mul_right S hk
      rw [hm, Nat.add_mul, Nat.one_mul, Nat.mul_comm] at hk1
      have m1 : opMul2 (.d (.int (S : Nat))) (.d (.int (k : Nat))) = some (.d (.int ((S * k : Nat) : Int))) := by
        rw [mul_l (by omega) (by omega)]
        rfl
      have ad : opAdd (.d (.int ((S * k : Nat) : Int))) (.d (.int (S : Nat))) = some (.d (.int ((S * k + S : Nat) : Int))) := by
        rw [add_i]
        rfl
      have sl := sl_lst (xs := (lw f 0 16).map .int) (i := ((S * k : Nat) : Int)) (j := ((S * k + S : Nat) : Int)) (by omega) (by omega) (by rw [List.length_map, lw_len]; omega)
      rw [show (((S * k : Nat) : Int)).toNat = S * k by omega, show (((S * k + S : Nat) : Int) - ((S * k : Nat) : Int)).toNat = S by omega, hS, blk_cut f t k (by rw [← hS]; exact hk1), ← hS] at sl
      have ls := law_sum_ok (blk f t k) t ht (blk_len f t k) (fun x hx => by
        unfold blk at hx
        obtain ⟨i, _, rfl⟩ := List.mem_map.mp hx
        exact hf _)
      rw [sum_V hf] at ls
      refine ⟨_, rfl, ?_⟩
      simp only [vE, wipeE, mkF, sSeq, sSet, sIf, sRet, sRetN, sNext, sBrk, sCont, sDrop, sFrz, freeze, sPar, putAll, putR, outR, sAsg, sApp, sExt, sPop, sSetIx, sAug, sFor, ownAt, eVar, eC, bind1, bind2, bindA, aCons, aNil, op1, tb, tT', tru, isB, bAnd, bOr, bNot, eAnd, eOr, eNot, eIf, eTup, eLst, toD, toDs, eSl, pNo, pAt, eCall, isBor, noLR, fInt, fList, fTuple, unNeg, gNm, gTp, gAll, iRg1, iRg2, iSeq, itsOf, sv, lv, dv, tYesB, List.map_cons, List.map_nil, List.append_eq, List.cons_append, List.nil_append, List.replicate_succ, List.replicate_zero, Option.bind_some, Option.bind_none, Option.map_some, Option.map_none, Option.some_or, Option.none_or, List.getElem?_cons_zero, List.getElem?_cons_succ, List.set_cons_zero, List.set_cons_succ, List.length_cons, List.length_nil, List.any_cons, List.any_nil, if_true, if_false, ite_true, ite_false, Bool.false_eq_true, reduceIte, Nat.reduceAdd, Nat.reduceSub, Nat.reduceLT, Nat.reduceLeDiff, Bool.or_false, Bool.false_or, Bool.or_self, Bool.not_true, Bool.not_false, m1, ad, sl, ls]
  have e2 : opMul2 (.d (.int 2)) (.d (.int (S : Nat))) = some (.d (.int ((2 * S : Nat) : Int))) := by
    rw [mul_l (by omega) (by omega)]
    rfl
  have hl : (fd f t).length < LIM := lim_small (by rw [fd_len]; omega)
  have hs := fd_succ f t m S hS hm
  unfold tuI at hs
  unfold P__law_levels_1
  generalize eLc (iRg1 (aCons (bind2 opFdiv (eC (.int 16)) (eVar 2)) (aNil))) [4] (gNm 4) (tYesB) (eCall 1 F__law_sum (aCons (eSl (eVar 0) (pAt (bind2 opMul2 (eVar 2) (eVar 4))) (pAt (bind2 opAdd (bind2 opMul2 (eVar 2) (eVar 4)) (eVar 2)))) (aNil))) = C1 at c1
  unfold vE at c1 ⊢
  simp only [mkF, sSeq, sSet, sIf, sRet, sRetN, sNext, sBrk, sCont, sDrop, sFrz, freeze, sPar, putAll, putR, outR, sAsg, sApp, sExt, sPop, sSetIx, sAug, sFor, ownAt, eVar, eC, bind1, bind2, bindA, aCons, aNil, op1, tb, tT', tru, isB, bAnd, bOr, bNot, eAnd, eOr, eNot, eIf, eTup, eLst, toD, toDs, eSl, pNo, pAt, eCall, isBor, noLR, fInt, fList, fTuple, unNeg, gNm, gTp, gAll, iRg1, iRg2, iSeq, itsOf, sv, lv, dv, tYesB, List.map_cons, List.map_nil, List.append_eq, List.cons_append, List.nil_append, List.replicate_succ, List.replicate_zero, Option.bind_some, Option.bind_none, Option.map_some, Option.map_none, Option.some_or, Option.none_or, List.getElem?_cons_zero, List.getElem?_cons_succ, List.set_cons_zero, List.set_cons_succ, List.length_cons, List.length_nil, List.any_cons, List.any_nil, if_true, if_false, ite_true, ite_false, Bool.false_eq_true, reduceIte, Nat.reduceAdd, Nat.reduceSub, Nat.reduceLT, Nat.reduceLeDiff, Bool.or_false, Bool.false_or, Bool.or_self, Bool.not_true, Bool.not_false, c1, hl, e2, hs]
theorem law_levels_ok {f : Nat → Int} (hf : In f) : F__law_levels [.list ((lw f 0 16).map .int)] = some (.d (levs f)) := by
  have s1 : S__law_levels_1 [some (.d (.list ((lw f 0 16).map .int))), none, none, none, none] = some (.nx (vE f 1 2 none)) := by
    have h1 : (1 : Nat) ≤ LIM := lim_small' (by omega)
    unfold S__law_levels_1
    simp only [mkF, sSeq, sSet, sIf, sRet, sRetN, sNext, sBrk, sCont, sDrop, sFrz, freeze, sPar, putAll, putR, outR, sAsg, sApp, sExt, sPop, sSetIx, sAug, sFor, ownAt, eVar, eC, bind1, bind2, bindA, aCons, aNil, op1, tb, tT', tru, isB, bAnd, bOr, bNot, eAnd, eOr, eNot, eIf, eTup, eLst, toD, toDs, eSl, pNo, pAt, eCall, isBor, noLR, fInt, fList, fTuple, unNeg, gNm, gTp, gAll, iRg1, iRg2, iSeq, itsOf, sv, lv, dv, tYesB, List.map_cons, List.map_nil, List.append_eq, List.cons_append, List.nil_append, List.replicate_succ, List.replicate_zero, Option.bind_some, Option.bind_none, Option.map_some, Option.map_none, Option.some_or, Option.none_or, List.getElem?_cons_zero, List.getElem?_cons_succ, List.set_cons_zero, List.set_cons_succ, List.length_cons, List.length_nil, List.any_cons, List.any_nil, if_true, if_false, ite_true, ite_false, Bool.false_eq_true, reduceIte, Nat.reduceAdd, Nat.reduceSub, Nat.reduceLT, Nat.reduceLeDiff, Bool.or_false, Bool.false_or, Bool.or_self, Bool.not_true, Bool.not_false, h1]
    rfl
  have rg := rg1_c (i := 4) (by omega) (by omega)
  obtain ⟨env', e, i, rfl⟩ := for_rg (tg := gNm 3) (body := P__law_levels_1) (fun k env => ∃ i, env = vE f (k + 1) (2 ^ (k + 1)) i) 4 (env := vE f 1 2 none) ⟨none, rfl⟩ (by
    rintro k env hk ⟨i, rfl⟩
    have st := lev_step hf (k + 1) (16 / 2 ^ (k + 1)) (2 ^ (k + 1)) (by omega) rfl (by
      match k, hk with
      | 0, _ => rfl
      | 1, _ => rfl
      | 2, _ => rfl
      | 3, _ => rfl) (some (.d (.int (k : Nat))))
    exact ⟨_, _, rfl, st, _, .inl rfl, _, by rw [show 2 * 2 ^ (k + 1) = 2 ^ (k + 1 + 1) by rw [Nat.pow_succ 2 (k + 1)]; omega]⟩)
  have s2 : S__law_levels_2 (vE f 1 2 none) = some (.nx (vE f 5 (2 ^ 5) i)) := by
    unfold S__law_levels_2 sFor
    have hi : iRg1 (aCons (eC (.int 4)) (aNil)) (vE f 1 2 none) = some (rngL 0 4) := by
      simp only [mkF, sSeq, sSet, sIf, sRet, sRetN, sNext, sBrk, sCont, sDrop, sFrz, freeze, sPar, putAll, putR, outR, sAsg, sApp, sExt, sPop, sSetIx, sAug, sFor, ownAt, eVar, eC, bind1, bind2, bindA, aCons, aNil, op1, tb, tT', tru, isB, bAnd, bOr, bNot, eAnd, eOr, eNot, eIf, eTup, eLst, toD, toDs, eSl, pNo, pAt, eCall, isBor, noLR, fInt, fList, fTuple, unNeg, gNm, gTp, gAll, iRg1, iRg2, iSeq, itsOf, sv, lv, dv, tYesB, List.map_cons, List.map_nil, List.append_eq, List.cons_append, List.nil_append, List.replicate_succ, List.replicate_zero, Option.bind_some, Option.bind_none, Option.map_some, Option.map_none, Option.some_or, Option.none_or, List.getElem?_cons_zero, List.getElem?_cons_succ, List.set_cons_zero, List.set_cons_succ, List.length_cons, List.length_nil, List.any_cons, List.any_nil, if_true, if_false, ite_true, ite_false, Bool.false_eq_true, reduceIte, Nat.reduceAdd, Nat.reduceSub, Nat.reduceLT, Nat.reduceLeDiff, Bool.or_false, Bool.false_or, Bool.or_self, Bool.not_true, Bool.not_false, rg]
      rfl
    rw [hi, Option.bind_some, e]
  have s3 : S__law_levels_3 (vE f 5 (2 ^ 5) i) = some (.rt (.d (levs f))) := by
    rw [← fd_5]
    unfold S__law_levels_3 vE
    simp only [mkF, sSeq, sSet, sIf, sRet, sRetN, sNext, sBrk, sCont, sDrop, sFrz, freeze, sPar, putAll, putR, outR, sAsg, sApp, sExt, sPop, sSetIx, sAug, sFor, ownAt, eVar, eC, bind1, bind2, bindA, aCons, aNil, op1, tb, tT', tru, isB, bAnd, bOr, bNot, eAnd, eOr, eNot, eIf, eTup, eLst, toD, toDs, eSl, pNo, pAt, eCall, isBor, noLR, fInt, fList, fTuple, unNeg, gNm, gTp, gAll, iRg1, iRg2, iSeq, itsOf, sv, lv, dv, tYesB, List.map_cons, List.map_nil, List.append_eq, List.cons_append, List.nil_append, List.replicate_succ, List.replicate_zero, Option.bind_some, Option.bind_none, Option.map_some, Option.map_none, Option.some_or, Option.none_or, List.getElem?_cons_zero, List.getElem?_cons_succ, List.set_cons_zero, List.set_cons_succ, List.length_cons, List.length_nil, List.any_cons, List.any_nil, if_true, if_false, ite_true, ite_false, Bool.false_eq_true, reduceIte, Nat.reduceAdd, Nat.reduceSub, Nat.reduceLT, Nat.reduceLeDiff, Bool.or_false, Bool.false_or, Bool.or_self, Bool.not_true, Bool.not_false]
  refine F_of rfl rfl ?_ rfl
  show B__law_levels [some (.d (.list ((lw f 0 16).map .int))), none, none, none, none] = _
  unfold B__law_levels
  rw [seq_nx s1, seq_nx s2, s3]
/-! ### the tree of the program -/
/-- the row that pairs make: the last value of a key counts -/
def put (f : Nat → Int) (p : Nat × Int) : Nat → Int := fun k => if k = p.1 then (31 * (p.1 : Int) + p.2) % 997 else f k
def rowOf (ps : List (Nat × Int)) : Nat → Int := ps.foldl put fun _ => 0
def prD (p : Nat × Int) : PyData := .tuple [.int (p.1 : Nat), .int p.2]
theorem put_In {f : Nat → Int} (hf : In f) (p : Nat × Int) : In (put f p) := fun k => by
  unfold put
  split
  · exact mod_lt (by omega)
  · exact hf k
theorem fold_In : ∀ (ps : List (Nat × Int)) (f : Nat → Int), In f → In (ps.foldl put f)
  | [], f, h => h
  | p :: ps, f, h => fold_In ps _ (put_In h p)
theorem row_In (ps : List (Nat × Int)) : In (rowOf ps) := fold_In ps _ fun _ => by omega
theorem lw_put (f : Nat → Int) (p : Nat × Int) (n : Nat) (h : p.1 < n) : (lw f 0 n).set p.1 ((31 * (p.1 : Int) + p.2) % 997) = lw (put f p) 0 n := by
  unfold lw
  apply List.ext_getElem
  · simp
  · intro i h1 h2
    simp only [List.getElem_set, List.getElem_map, List.getElem_range]
    show _ = put f p i
    unfold put
    by_cases he : p.1 = i
    · rw [if_pos he, if_pos he.symm]
    · rw [if_neg he, if_neg fun h => he h.symm]
      rfl
theorem lw_put' (f : Nat → Int) (p : Nat × Int) (n : Nat) (h : p.1 < n) : ((lw f 0 n).map PyData.int).set p.1 (.int ((31 * (p.1 : Int) + p.2) % 997)) = (lw (put f p) 0 n).map .int := by
  rw [← lw_put f p n h, List.map_set]
end LW19

namespace LW19
open PySem L2 PV PySem.W
theorem fold_take {ps : List (Nat × Int)} {i : Nat} {p : Nat × Int} (hi : ps[i]? = some p) (z : Nat → Int) : (ps.take (i + 1)).foldl put z = put ((ps.take i).foldl put z) p := by
  rw [List.take_add_one, hi, List.foldl_append]
  rfl
def okP (ps : List (Nat × Int)) : Prop := ∀ p ∈ ps, p.1 < 16
def pE (ps : List (Nat × Int)) (f : Nat → Int) (k v : Option S) : PV.Env := [some (.d (.tuple (ps.map prD))), some (.own ((lw f 0 16).map .int)), k, v, none, none]
theorem zeros : opMul2 (.own [.int 0]) (.d (.int 16)) = some (.own ((lw (fun _ => 0) 0 16).map .int)) := rfl
theorem print_step (ps : List (Nat × Int)) (f : Nat → Int) (p : Nat × Int) (hp : p.1 < 16) : P_print_tree_1 (pE ps f (some (.d (.int (p.1 : Nat)))) (some (.d (.int p.2)))) = some (.nx (pE ps (put f p) (some (.d (.int (p.1 : Nat)))) (some (.d (.int p.2))))) := by
  have m1 := mulI 31 (p.1 : Nat) (by omega)
  have md := mod_i (i := 31 * (p.1 : Nat) + p.2) (j := 997) (by omega)
  have hi : ixN (List.map PyData.int (lw f 0 16)).length (p.1 : Nat) = some p.1 := by rw [List.length_map, lw_len]; exact ixN_nat hp
  have hs := lw_put' f p 16 hp
  unfold P_print_tree_1 pE
  simp only [mkF, sSeq, sSet, sIf, sRet, sRetN, sNext, sBrk, sCont, sDrop, sFrz, freeze, sPar, putAll, putR, outR, sAsg, sApp, sExt, sPop, sSetIx, sAug, sFor, ownAt, eVar, eC, bind1, bind2, bindA, aCons, aNil, op1, tb, tT', tru, isB, bAnd, bOr, bNot, eAnd, eOr, eNot, eIf, eTup, eLst, toD, toDs, eSl, pNo, pAt, eCall, isBor, noLR, fInt, fList, fTuple, unNeg, gNm, gTp, gAll, iRg1, iRg2, iSeq, itsOf, sv, lv, dv, tYesB, List.map_cons, List.map_nil, List.append_eq, List.cons_append, List.nil_append, List.replicate_succ, List.replicate_zero, Option.bind_some, Option.bind_none, Option.map_some, Option.map_none, Option.some_or, Option.none_or, List.getElem?_cons_zero, List.getElem?_cons_succ, List.set_cons_zero, List.set_cons_succ, List.length_cons, List.length_nil, List.any_cons, List.any_nil, if_true, if_false, ite_true, ite_false, Bool.false_eq_true, reduceIte, Nat.reduceAdd, Nat.reduceSub, Nat.reduceLT, Nat.reduceLeDiff, Bool.or_false, Bool.false_or, Bool.or_self, Bool.not_true, Bool.not_false, m1, add_i, md, hi, hs]
def tE (ps : List (Nat × Int)) (f : Nat → Int) (k v : Option S) (t : Nat) : PV.Env := [some (.d (.tuple (ps.map prD))), some (.own ((lw f t (16 / 2 ^ t)).map .int)), k, v, some (.own (fd f (t + 1))), none]
theorem tree_step (ps : List (Nat × Int)) (f : Nat → Int) (k v : Option S) (t m : Nat) (hm : 16 / 2 ^ t = 2 * m) (hm2 : 16 / 2 ^ (t + 1) = m) (ht : t ≤ 4) : P_print_tree_3 (tE ps f k v t) = some (.nx (tE ps f k v (t + 1))) := by
  have hml : m ≤ 8 := by
    have : 16 / 2 ^ t ≤ 16 := Nat.div_le_self _ _
    omega
  have c1 : eLc (iRg1 (aCons (bind2 opFdiv (bindA (op1 fLen) (aCons (eVar 1) (aNil))) (eC (.int 2))) (aNil))) [5] (gNm 5) (tYesB) (eCall 2 F__print_of (aCons (bind2 opIx (eVar 1) (bind2 opMul2 (eC (.int 2)) (eVar 5))) (aCons (bind2 opIx (eVar 1) (bind2 opAdd (bind2 opMul2 (eC (.int 2)) (eVar 5)) (eC (.int 1)))) (aNil)))) (tE ps f k v t) = some (.own ((lw f (t + 1) m).map .int)) := by
    have fdv : opFdiv (.d (.int ((lw f t (16 / 2 ^ t)).length : Nat))) (.d (.int 2)) = some (.d (.int (m : Nat))) := by
      rw [lw_len, hm, fdiv_i (by omega) (by omega)]
      congr 3
      omega
    have rg := rg1_i (n := m) (by omega)
    rw [own_rg (n := m) (by omega) (fun k => .int (V f (t + 1) k)) (by unfold tE; simp only [mkF, sSeq, sSet, sIf, sRet, sRetN, sNext, sBrk, sCont, sDrop, sFrz, freeze, sPar, putAll, putR, outR, sAsg, sApp, sExt, sPop, sSetIx, sAug, sFor, ownAt, eVar, eC, bind1, bind2, bindA, aCons, aNil, op1, tb, tT', tru, isB, bAnd, bOr, bNot, eAnd, eOr, eNot, eIf, eTup, eLst, toD, toDs, eSl, pNo, pAt, eCall, isBor, noLR, fInt, fList, fTuple, unNeg, gNm, gTp, gAll, iRg1, iRg2, iSeq, itsOf, sv, lv, dv, tYesB, List.map_cons, List.map_nil, List.append_eq, List.cons_append, List.nil_append, List.replicate_succ, List.replicate_zero, Option.bind_some, Option.bind_none, Option.map_some, Option.map_none, Option.some_or, Option.none_or, List.getElem?_cons_zero, List.getElem?_cons_succ, List.set_cons_zero, List.set_cons_succ, List.length_cons, List.length_nil, List.any_cons, List.any_nil, if_true, if_false, ite_true, ite_false, Bool.false_eq_true, reduceIte, Nat.reduceAdd, Nat.reduceSub, Nat.reduceLT, Nat.reduceLeDiff, Bool.or_false, Bool.false_or, Bool.or_self, Bool.not_true, Bool.not_false, len_borI, fdv, rg])]
    · unfold lw
      rw [List.map_map]
      rfl
    · intro j hj
      have m1 := mulI 2 (j : Nat) (by omega)
      have gt : ∀ i : Int, 0 ≤ i → i < 2 * m → opIx (.bor ((lw f t (16 / 2 ^ t)).map .int)) (.d (.int i)) = some (.d (.int (V f t i.toNat))) := fun i h0 h1 => ix_bor h0 (by rw [List.getElem?_map, lw_get f t _ _ (by omega)]; rfl)
      have g1 := gt (2 * (j : Nat)) (by omega) (by omega)
      have g2 := gt (2 * (j : Nat) + 1) (by omega) (by omega)
      rw [show ((2 : Int) * (j : Nat)).toNat = 2 * j by omega] at g1
      rw [show ((2 : Int) * (j : Nat) + 1).toNat = 2 * j + 1 by omega] at g2
      refine ⟨_, rfl, ?_⟩
      simp only [tE, wipeE, mkF, sSeq, sSet, sIf, sRet, sRetN, sNext, sBrk, sCont, sDrop, sFrz, freeze, sPar, putAll, putR, outR, sAsg, sApp, sExt, sPop, sSetIx, sAug, sFor, ownAt, eVar, eC, bind1, bind2, bindA, aCons, aNil, op1, tb, tT', tru, isB, bAnd, bOr, bNot, eAnd, eOr, eNot, eIf, eTup, eLst, toD, toDs, eSl, pNo, pAt, eCall, isBor, noLR, fInt, fList, fTuple, unNeg, gNm, gTp, gAll, iRg1, iRg2, iSeq, itsOf, sv, lv, dv, tYesB, List.map_cons, List.map_nil, List.append_eq, List.cons_append, List.nil_append, List.replicate_succ, List.replicate_zero, Option.bind_some, Option.bind_none, Option.map_some, Option.map_none, Option.some_or, Option.none_or, List.getElem?_cons_zero, List.getElem?_cons_succ, List.set_cons_zero, List.set_cons_succ, List.length_cons, List.length_nil, List.any_cons, List.any_nil, if_true, if_false, ite_true, ite_false, Bool.false_eq_true, reduceIte, Nat.reduceAdd, Nat.reduceSub, Nat.reduceLT, Nat.reduceLeDiff, Bool.or_false, Bool.false_or, Bool.or_self, Bool.not_true, Bool.not_false, m1, add_i, g1, g2, print_of_ok]
      rfl
  have hl : (fd f (t + 1)).length < LIM := lim_small (by rw [fd_len]; omega)
  have hs : fd f (t + 1) ++ [tuI (lw f (t + 1) m)] = fd f (t + 1 + 1) := by
    unfold fd
    rw [List.range_succ (n := t + 1), List.map_append, List.map_singleton, hm2]
  unfold tuI at hs
  unfold P_print_tree_3
  generalize eLc (iRg1 (aCons (bind2 opFdiv (bindA (op1 fLen) (aCons (eVar 1) (aNil))) (eC (.int 2))) (aNil))) [5] (gNm 5) (tYesB) (eCall 2 F__print_of (aCons (bind2 opIx (eVar 1) (bind2 opMul2 (eC (.int 2)) (eVar 5))) (aCons (bind2 opIx (eVar 1) (bind2 opAdd (bind2 opMul2 (eC (.int 2)) (eVar 5)) (eC (.int 1)))) (aNil)))) = C1 at c1
  unfold tE at c1 ⊢
  rw [hm2]
  simp only [mkF, sSeq, sSet, sIf, sRet, sRetN, sNext, sBrk, sCont, sDrop, sFrz, freeze, sPar, putAll, putR, outR, sAsg, sApp, sExt, sPop, sSetIx, sAug, sFor, ownAt, eVar, eC, bind1, bind2, bindA, aCons, aNil, op1, tb, tT', tru, isB, bAnd, bOr, bNot, eAnd, eOr, eNot, eIf, eTup, eLst, toD, toDs, eSl, pNo, pAt, eCall, isBor, noLR, fInt, fList, fTuple, unNeg, gNm, gTp, gAll, iRg1, iRg2, iSeq, itsOf, sv, lv, dv, tYesB, List.map_cons, List.map_nil, List.append_eq, List.cons_append, List.nil_append, List.replicate_succ, List.replicate_zero, Option.bind_some, Option.bind_none, Option.map_some, Option.map_none, Option.some_or, Option.none_or, List.getElem?_cons_zero, List.getElem?_cons_succ, List.set_cons_zero, List.set_cons_succ, List.length_cons, List.length_nil, List.any_cons, List.any_nil, if_true, if_false, ite_true, ite_false, Bool.false_eq_true, reduceIte, Nat.reduceAdd, Nat.reduceSub, Nat.reduceLT, Nat.reduceLeDiff, Bool.or_false, Bool.false_or, Bool.or_self, Bool.not_true, Bool.not_false, c1, hl, hs]
theorem tree_cond (ps : List (Nat × Int)) (f : Nat → Int) (k v : Option S) (t : Nat) : P_print_tree_2 (tE ps f k v t) = some (decide ((1 : Int) < ((16 / 2 ^ t : Nat) : Int))) := by
  have l := lw_len f t (16 / 2 ^ t)
  unfold P_print_tree_2 tE
  simp only [mkF, sSeq, sSet, sIf, sRet, sRetN, sNext, sBrk, sCont, sDrop, sFrz, freeze, sPar, putAll, putR, outR, sAsg, sApp, sExt, sPop, sSetIx, sAug, sFor, ownAt, eVar, eC, bind1, bind2, bindA, aCons, aNil, op1, tb, tT', tru, isB, bAnd, bOr, bNot, eAnd, eOr, eNot, eIf, eTup, eLst, toD, toDs, eSl, pNo, pAt, eCall, isBor, noLR, fInt, fList, fTuple, unNeg, gNm, gTp, gAll, iRg1, iRg2, iSeq, itsOf, sv, lv, dv, tYesB, List.map_cons, List.map_nil, List.append_eq, List.cons_append, List.nil_append, List.replicate_succ, List.replicate_zero, Option.bind_some, Option.bind_none, Option.map_some, Option.map_none, Option.some_or, Option.none_or, List.getElem?_cons_zero, List.getElem?_cons_succ, List.set_cons_zero, List.set_cons_succ, List.length_cons, List.length_nil, List.any_cons, List.any_nil, if_true, if_false, ite_true, ite_false, Bool.false_eq_true, reduceIte, Nat.reduceAdd, Nat.reduceSub, Nat.reduceLT, Nat.reduceLeDiff, Bool.or_false, Bool.false_or, Bool.or_self, Bool.not_true, Bool.not_false, len_borI, gt_i, l]
theorem print_tree_ok (ps : List (Nat × Int)) (h : okP ps) : F_print_tree [.tuple (ps.map prD)] = some (.d (levs (rowOf ps))) := by
  have s1 : S_print_tree_1 [some (.d (.tuple (ps.map prD))), none, none, none, none, none] = some (.nx (pE ps (fun _ => 0) none none)) := by
    unfold S_print_tree_1
    simp only [mkF, sSeq, sSet, sIf, sRet, sRetN, sNext, sBrk, sCont, sDrop, sFrz, freeze, sPar, putAll, putR, outR, sAsg, sApp, sExt, sPop, sSetIx, sAug, sFor, ownAt, eVar, eC, bind1, bind2, bindA, aCons, aNil, op1, tb, tT', tru, isB, bAnd, bOr, bNot, eAnd, eOr, eNot, eIf, eTup, eLst, toD, toDs, eSl, pNo, pAt, eCall, isBor, noLR, fInt, fList, fTuple, unNeg, gNm, gTp, gAll, iRg1, iRg2, iSeq, itsOf, sv, lv, dv, tYesB, List.map_cons, List.map_nil, List.append_eq, List.cons_append, List.nil_append, List.replicate_succ, List.replicate_zero, Option.bind_some, Option.bind_none, Option.map_some, Option.map_none, Option.some_or, Option.none_or, List.getElem?_cons_zero, List.getElem?_cons_succ, List.set_cons_zero, List.set_cons_succ, List.length_cons, List.length_nil, List.any_cons, List.any_nil, if_true, if_false, ite_true, ite_false, Bool.false_eq_true, reduceIte, Nat.reduceAdd, Nat.reduceSub, Nat.reduceLT, Nat.reduceLeDiff, Bool.or_false, Bool.false_or, Bool.or_self, Bool.not_true, Bool.not_false, zeros]
    rfl
  obtain ⟨env2, e, k, v, rfl⟩ := for_enc (tg := gTp [gNm 2, gNm 3]) (body := P_print_tree_1) prD (fun i env => ∃ k v, env = pE ps ((ps.take i).foldl put fun _ => 0) k v) ps (env := pE ps (fun _ => 0) none none) ⟨none, none, rfl⟩ (by
    rintro i p env hi ⟨k, v, rfl⟩
    have st := print_step ps ((ps.take i).foldl put fun _ => 0) p (h p (List.mem_of_getElem? hi))
    rw [← fold_take hi] at st
    exact ⟨_, _, rfl, st, _, .inl rfl, _, _, rfl⟩)
  rw [List.take_length] at e
  have s2 : S_print_tree_2 (pE ps (fun _ => 0) none none) = some (.nx (pE ps (rowOf ps) k v)) := by
    unfold S_print_tree_2 sFrz sFor
    have hi : iSeq true (eVar 0) (pE ps (fun _ => 0) none none) = some (ps.map prD) := rfl
    have hz : freeze 0 (pE ps (fun _ => 0) none none) = pE ps (fun _ => 0) none none := rfl
    rw [hz, hi, Option.bind_some, e]
    rfl
  have s3 : S_print_tree_3 (pE ps (rowOf ps) k v) = some (.nx (tE ps (rowOf ps) k v 0)) := by
    have h1 : (1 : Nat) ≤ LIM := lim_small' (by omega)
    unfold S_print_tree_3 pE
    simp only [mkF, sSeq, sSet, sIf, sRet, sRetN, sNext, sBrk, sCont, sDrop, sFrz, freeze, sPar, putAll, putR, outR, sAsg, sApp, sExt, sPop, sSetIx, sAug, sFor, ownAt, eVar, eC, bind1, bind2, bindA, aCons, aNil, op1, tb, tT', tru, isB, bAnd, bOr, bNot, eAnd, eOr, eNot, eIf, eTup, eLst, toD, toDs, eSl, pNo, pAt, eCall, isBor, noLR, fInt, fList, fTuple, unNeg, gNm, gTp, gAll, iRg1, iRg2, iSeq, itsOf, sv, lv, dv, tYesB, List.map_cons, List.map_nil, List.append_eq, List.cons_append, List.nil_append, List.replicate_succ, List.replicate_zero, Option.bind_some, Option.bind_none, Option.map_some, Option.map_none, Option.some_or, Option.none_or, List.getElem?_cons_zero, List.getElem?_cons_succ, List.set_cons_zero, List.set_cons_succ, List.length_cons, List.length_nil, List.any_cons, List.any_nil, if_true, if_false, ite_true, ite_false, Bool.false_eq_true, reduceIte, Nat.reduceAdd, Nat.reduceSub, Nat.reduceLT, Nat.reduceLeDiff, Bool.or_false, Bool.false_or, Bool.or_self, Bool.not_true, Bool.not_false, h1]
    rfl
  have s4 : S_print_tree_4 (tE ps (rowOf ps) k v 0) = some (.nx (tE ps (rowOf ps) k v 4)) := by
    obtain ⟨env', k', e4, ⟨t, ht, hk, rfl⟩, hc⟩ := while_inv (c := P_print_tree_2) (body := P_print_tree_3) (fun m env => ∃ t, t ≤ 4 ∧ m = 4 - t ∧ env = tE ps (rowOf ps) k v t) (by
      rintro m env ⟨t, ht, rfl, rfl⟩
      rw [tree_cond]
      match t, ht with
      | 0, _ => exact .inr ⟨rfl, _, _, tree_step ps _ k v 0 8 rfl rfl (by omega), by omega, 1, by omega, rfl, rfl⟩
      | 1, _ => exact .inr ⟨rfl, _, _, tree_step ps _ k v 1 4 rfl rfl (by omega), by omega, 2, by omega, rfl, rfl⟩
      | 2, _ => exact .inr ⟨rfl, _, _, tree_step ps _ k v 2 2 rfl rfl (by omega), by omega, 3, by omega, rfl, rfl⟩
      | 3, _ => exact .inr ⟨rfl, _, _, tree_step ps _ k v 3 1 rfl rfl (by omega), by omega, 4, by omega, rfl, rfl⟩
      | 4, _ => exact .inl rfl) 10000 4 (tE ps (rowOf ps) k v 0) (by omega) ⟨0, by omega, rfl, rfl⟩
    rw [tree_cond] at hc
    have : t = 4 := by
      match t, ht, hc with
      | 4, _, _ => rfl
    subst this
    exact e4
  have s5 : S_print_tree_5 (tE ps (rowOf ps) k v 4) = some (.rt (.d (levs (rowOf ps)))) := by
    rw [← fd_5]
    unfold S_print_tree_5 tE
    simp only [mkF, sSeq, sSet, sIf, sRet, sRetN, sNext, sBrk, sCont, sDrop, sFrz, freeze, sPar, putAll, putR, outR, sAsg, sApp, sExt, sPop, sSetIx, sAug, sFor, ownAt, eVar, eC, bind1, bind2, bindA, aCons, aNil, op1, tb, tT', tru, isB, bAnd, bOr, bNot, eAnd, eOr, eNot, eIf, eTup, eLst, toD, toDs, eSl, pNo, pAt, eCall, isBor, noLR, fInt, fList, fTuple, unNeg, gNm, gTp, gAll, iRg1, iRg2, iSeq, itsOf, sv, lv, dv, tYesB, List.map_cons, List.map_nil, List.append_eq, List.cons_append, List.nil_append, List.replicate_succ, List.replicate_zero, Option.bind_some, Option.bind_none, Option.map_some, Option.map_none, Option.some_or, Option.none_or, List.getElem?_cons_zero, List.getElem?_cons_succ, List.set_cons_zero, List.set_cons_succ, List.length_cons, List.length_nil, List.any_cons, List.any_nil, if_true, if_false, ite_true, ite_false, Bool.false_eq_true, reduceIte, Nat.reduceAdd, Nat.reduceSub, Nat.reduceLT, Nat.reduceLeDiff, Bool.or_false, Bool.false_or, Bool.or_self, Bool.not_true, Bool.not_false]
  refine F_of rfl rfl ?_ rfl
  show B_print_tree [some (.d (.tuple (ps.map prD))), none, none, none, none, none] = _
  unfold B_print_tree
  rw [seq_nx s1, seq_nx s2, seq_nx s3, seq_nx s4, s5]
/-! ### numbers of the law -/
def nE (ps : List (Nat × Int)) (f : Nat → Int) (k v : Option S) : PV.Env := [some (.d (.list (ps.map prD))), some (.own ((lw f 0 16).map .int)), k, v]
theorem numbers_ok (ps : List (Nat × Int)) (h : okP ps) : F__law_numbers [.list (ps.map prD)] = some (.own ((lw (rowOf ps) 0 16).map .int)) := by
  have s1 : S__law_numbers_1 [some (.d (.list (ps.map prD))), none, none, none] = some (.nx (nE ps (fun _ => 0) none none)) := by
    unfold S__law_numbers_1
    simp only [mkF, sSeq, sSet, sIf, sRet, sRetN, sNext, sBrk, sCont, sDrop, sFrz, freeze, sPar, putAll, putR, outR, sAsg, sApp, sExt, sPop, sSetIx, sAug, sFor, ownAt, eVar, eC, bind1, bind2, bindA, aCons, aNil, op1, tb, tT', tru, isB, bAnd, bOr, bNot, eAnd, eOr, eNot, eIf, eTup, eLst, toD, toDs, eSl, pNo, pAt, eCall, isBor, noLR, fInt, fList, fTuple, unNeg, gNm, gTp, gAll, iRg1, iRg2, iSeq, itsOf, sv, lv, dv, tYesB, List.map_cons, List.map_nil, List.append_eq, List.cons_append, List.nil_append, List.replicate_succ, List.replicate_zero, Option.bind_some, Option.bind_none, Option.map_some, Option.map_none, Option.some_or, Option.none_or, List.getElem?_cons_zero, List.getElem?_cons_succ, List.set_cons_zero, List.set_cons_succ, List.length_cons, List.length_nil, List.any_cons, List.any_nil, if_true, if_false, ite_true, ite_false, Bool.false_eq_true, reduceIte, Nat.reduceAdd, Nat.reduceSub, Nat.reduceLT, Nat.reduceLeDiff, Bool.or_false, Bool.false_or, Bool.or_self, Bool.not_true, Bool.not_false, zeros]
    rfl
  obtain ⟨env2, e, k, v, rfl⟩ := for_enc (tg := gTp [gNm 2, gNm 3]) (body := P__law_numbers_1) prD (fun i env => ∃ k v, env = nE ps ((ps.take i).foldl put fun _ => 0) k v) ps (env := nE ps (fun _ => 0) none none) ⟨none, none, rfl⟩ (by
    rintro i p env hi ⟨k, v, rfl⟩
    have hp := h p (List.mem_of_getElem? hi)
    have st : P__law_numbers_1 (nE ps ((ps.take i).foldl put fun _ => 0) (some (.d (.int (p.1 : Nat)))) (some (.d (.int p.2)))) = some (.nx (nE ps (put ((ps.take i).foldl put fun _ => 0) p) (some (.d (.int (p.1 : Nat)))) (some (.d (.int p.2))))) := by
      have m1 := mulI 31 (p.1 : Nat) (by omega)
      have md := mod_i (i := 31 * (p.1 : Nat) + p.2) (j := 997) (by omega)
      generalize (ps.take i).foldl put (fun _ => 0) = f
      have hi : ixN (List.map PyData.int (lw f 0 16)).length (p.1 : Nat) = some p.1 := by rw [List.length_map, lw_len]; exact ixN_nat hp
      have hs := lw_put' f p 16 hp
      unfold P__law_numbers_1 nE
      simp only [mkF, sSeq, sSet, sIf, sRet, sRetN, sNext, sBrk, sCont, sDrop, sFrz, freeze, sPar, putAll, putR, outR, sAsg, sApp, sExt, sPop, sSetIx, sAug, sFor, ownAt, eVar, eC, bind1, bind2, bindA, aCons, aNil, op1, tb, tT', tru, isB, bAnd, bOr, bNot, eAnd, eOr, eNot, eIf, eTup, eLst, toD, toDs, eSl, pNo, pAt, eCall, isBor, noLR, fInt, fList, fTuple, unNeg, gNm, gTp, gAll, iRg1, iRg2, iSeq, itsOf, sv, lv, dv, tYesB, List.map_cons, List.map_nil, List.append_eq, List.cons_append, List.nil_append, List.replicate_succ, List.replicate_zero, Option.bind_some, Option.bind_none, Option.map_some, Option.map_none, Option.some_or, Option.none_or, List.getElem?_cons_zero, List.getElem?_cons_succ, List.set_cons_zero, List.set_cons_succ, List.length_cons, List.length_nil, List.any_cons, List.any_nil, if_true, if_false, ite_true, ite_false, Bool.false_eq_true, reduceIte, Nat.reduceAdd, Nat.reduceSub, Nat.reduceLT, Nat.reduceLeDiff, Bool.or_false, Bool.false_or, Bool.or_self, Bool.not_true, Bool.not_false, m1, add_i, md, hi, hs]
    rw [← fold_take hi] at st
    exact ⟨_, _, rfl, st, _, .inl rfl, _, _, rfl⟩)
  rw [List.take_length] at e
  have s2 : S__law_numbers_2 (nE ps (fun _ => 0) none none) = some (.nx (nE ps (rowOf ps) k v)) := by
    unfold S__law_numbers_2 sFrz sFor
    have hi : iSeq true (eVar 0) (nE ps (fun _ => 0) none none) = some (ps.map prD) := rfl
    have hz : freeze 0 (nE ps (fun _ => 0) none none) = nE ps (fun _ => 0) none none := rfl
    rw [hz, hi, Option.bind_some, e]
    rfl
  have s3 : S__law_numbers_3 (nE ps (rowOf ps) k v) = some (.rt (.own ((lw (rowOf ps) 0 16).map .int))) := by
    unfold S__law_numbers_3 nE
    simp only [mkF, sSeq, sSet, sIf, sRet, sRetN, sNext, sBrk, sCont, sDrop, sFrz, freeze, sPar, putAll, putR, outR, sAsg, sApp, sExt, sPop, sSetIx, sAug, sFor, ownAt, eVar, eC, bind1, bind2, bindA, aCons, aNil, op1, tb, tT', tru, isB, bAnd, bOr, bNot, eAnd, eOr, eNot, eIf, eTup, eLst, toD, toDs, eSl, pNo, pAt, eCall, isBor, noLR, fInt, fList, fTuple, unNeg, gNm, gTp, gAll, iRg1, iRg2, iSeq, itsOf, sv, lv, dv, tYesB, List.map_cons, List.map_nil, List.append_eq, List.cons_append, List.nil_append, List.replicate_succ, List.replicate_zero, Option.bind_some, Option.bind_none, Option.map_some, Option.map_none, Option.some_or, Option.none_or, List.getElem?_cons_zero, List.getElem?_cons_succ, List.set_cons_zero, List.set_cons_succ, List.length_cons, List.length_nil, List.any_cons, List.any_nil, if_true, if_false, ite_true, ite_false, Bool.false_eq_true, reduceIte, Nat.reduceAdd, Nat.reduceSub, Nat.reduceLT, Nat.reduceLeDiff, Bool.or_false, Bool.false_or, Bool.or_self, Bool.not_true, Bool.not_false]
  refine F_of rfl rfl ?_ rfl
  show B__law_numbers [some (.d (.list (ps.map prD))), none, none, none] = _
  unfold B__law_numbers
  rw [seq_nx s1, seq_nx s2, s3]
end LW19

namespace LW19
open PySem L2 PV PySem.W
/-! ### places that differ -/
def dbl2 (l : List Nat) : List Nat := l.flatMap fun p => [2 * p, 2 * p + 1]
theorem dbl2_len (l : List Nat) : (dbl2 l).length = 2 * l.length := by
  unfold dbl2
  induction l with
  | nil => rfl
  | cons x xs ih => simp only [List.flatMap_cons, List.length_append, List.length_cons, List.length_nil, ih]; omega
def dif (f g : Nat → Int) (t : Nat) (p : Nat) : Bool := !decide (V f t p = V g t p)
def pl (f g : Nat → Int) : Nat → List Nat
  | 0 => [0]
  | s + 1 => dbl2 ((pl f g s).filter (dif f g (4 - s)))
def ul (f g : Nat → Int) (s : Nat) : List Nat := (pl f g s).filter (dif f g (4 - s))
def lk' (f g : Nat → Int) : Nat → Nat
  | 0 => 0
  | s + 1 => lk' f g s + (pl f g s).length
theorem pl_0 (f g : Nat → Int) : pl f g 0 = [0] := rfl
theorem pl_s (f g : Nat → Int) (s : Nat) : pl f g (s + 1) = dbl2 (ul f g s) := rfl
theorem ul_s (f g : Nat → Int) (s : Nat) : ul f g s = (pl f g s).filter (dif f g (4 - s)) := rfl
theorem pl_lt (f g : Nat → Int) : ∀ s, ∀ p ∈ pl f g s, p < 2 ^ s
  | 0, p, h => by
    rw [pl_0, List.mem_singleton] at h
    rw [h]
    exact Nat.one_pos
  | s + 1, p, h => by
    rw [pl_s] at h
    unfold dbl2 at h
    obtain ⟨q, hq, h⟩ := List.mem_flatMap.mp h
    rw [ul_s] at hq
    have := pl_lt f g s q (List.mem_filter.mp hq).1
    rw [Nat.pow_succ]
    simp only [List.mem_cons, List.not_mem_nil, or_false] at h
    omega
theorem ul_lt (f g : Nat → Int) (s : Nat) : ∀ p ∈ ul f g s, p < 2 ^ s := fun p h => by
  rw [ul_s] at h
  exact pl_lt f g s p (List.mem_filter.mp h).1
theorem ul_len (f g : Nat → Int) (s : Nat) : (ul f g s).length ≤ (pl f g s).length := by
  rw [ul_s]
  exact List.length_filter_le _ _
theorem pl_len (f g : Nat → Int) : ∀ s, (pl f g s).length ≤ 2 ^ s
  | 0 => by rw [pl_0]; exact Nat.le_refl _
  | s + 1 => by
    rw [pl_s, dbl2_len, Nat.pow_succ]
    have := ul_len f g s
    have := pl_len f g s
    omega
theorem levs_ix (f : Nat → Int) (t : Nat) (h : t ≤ 4) : opIx (.d (levs f)) (.d (.int (t : Nat))) = some (.d (tuI (lw f t (16 / 2 ^ t)))) := by
  match t, h with
  | 0, _ => rfl
  | 1, _ => rfl
  | 2, _ => rfl
  | 3, _ => rfl
  | 4, _ => rfl
theorem lev_ix (f : Nat → Int) (t n p : Nat) (h : p < n) : opIx (.d (tuI (lw f t n))) (.d (.int (p : Nat))) = some (.d (.int (V f t p))) := ix_tup (by omega) (by rw [Int.toNat_natCast, List.getElem?_map, lw_get f t n p h]; rfl)
theorem two_four (s : Nat) (h : s ≤ 4) : 16 / 2 ^ (4 - s) = 2 ^ s := by
  match s, h with
  | 0, _ => rfl
  | 1, _ => rfl
  | 2, _ => rfl
  | 3, _ => rfl
  | 4, _ => rfl
theorem p16 (s : Nat) (h : s ≤ 4) : 2 ^ s ≤ 16 := (Nat.pow_le_pow_right (by omega) h : 2 ^ s ≤ 2 ^ 4)
/-- first[level][place] -/
theorem at_ok {env : PV.Env} {f : Nat → Int} {i j k s p : Nat} (h1 : eVar i env = some (.d (levs f))) (h2 : eVar j env = some (.d (.int ((4 - s : Nat) : Int)))) (h3 : eVar k env = some (.d (.int (p : Nat)))) (hs : s ≤ 4) (hp : p < 2 ^ s) : bind2 opIx (bind2 opIx (eVar i) (eVar j)) (eVar k) env = some (.d (.int (V f (4 - s) p))) := by
  have a := levs_ix f (4 - s) (by omega)
  have b := lev_ix f (4 - s) (16 / 2 ^ (4 - s)) p (by rw [two_four s hs]; exact hp)
  unfold bind2
  rw [h1, h2, h3]
  simp only [Option.bind_some, a, b]
/-! unlike_keys -/
def uE (f g : Nat → Int) (s : Nat) (u l p a : Option S) : PV.Env := [some (.d (levs f)), some (.d (levs g)), some (.d (.int (lk' f g s : Nat))), some (.own (nI (pl f g s))), u, l, p, a]
theorem ul_filter (f g : Nat → Int) (s : Nat) : ((pl f g s).filter (dif f g (4 - s))).map (fun i => PyData.int (i : Nat)) = nI (ul f g s) := by rw [ul_s]; rfl
theorem dbl_enc (l : List Nat) : l.flatMap (fun p => [PyData.int ((2 * p : Nat) : Int), .int ((2 * p + 1 : Nat) : Int)]) = nI (dbl2 l) := by
  unfold nI dbl2
  rw [List.map_flatMap]
  rfl
theorem unlike_step (f g : Nat → Int) (s : Nat) (hs : s ≤ 4) (u p a : Option S) : P_unlike_keys_1 (uE f g s u (some (.d (.int ((4 - s : Nat) : Int)))) p a) = some (.nx (uE f g (s + 1) (some (.own (nI (ul f g s)))) (some (.d (.int ((4 - s : Nat) : Int)))) p a)) := by
  have q := p16 s hs
  have hpl := pl_len f g s
  have hul := ul_len f g s
  have c1 : eLc (iSeq false (eVar 3)) [6] (gNm 6) (tb (bind2 opNe2 (bind2 opIx (bind2 opIx (eVar 0) (eVar 5)) (eVar 6)) (bind2 opIx (bind2 opIx (eVar 1) (eVar 5)) (eVar 6)))) (eVar 6) [some (.d (levs f)), some (.d (levs g)), some (.d (.int (lk' f g (s + 1) : Nat))), some (.own (nI (pl f g s))), u, some (.d (.int ((4 - s : Nat) : Int))), p, a] = some (.own (nI (ul f g s))) := by
    rw [own_xsf (α := Nat) (xs := pl f g s) (fun i => .int (i : Nat)) (by omega) (dif f g (4 - s)) (fun i => .int (i : Nat)) rfl, ul_filter]
    intro x hx
    have hx := pl_lt f g s x hx
    refine ⟨_, rfl, ?_, fun _ => rfl⟩
    unfold tb
    rw [bind2, at_ok (f := f) (s := s) (p := x) rfl rfl rfl hs hx, Option.bind_some, at_ok (f := g) (s := s) (p := x) rfl rfl rfl hs hx, Option.bind_some, ne_i]
    rfl
  have c2 : eLc2 (iSeq false (eVar 4)) [7, 6] (gNm 7) (tYesB) (iSeq true (eTup (aCons (bind2 opMul2 (eC (.int 2)) (eVar 7)) (aCons (bind2 opAdd (bind2 opMul2 (eC (.int 2)) (eVar 7)) (eC (.int 1))) (aNil))))) [6] (gNm 6) (tYesB) (eVar 6) [some (.d (levs f)), some (.d (levs g)), some (.d (.int (lk' f g (s + 1) : Nat))), some (.own (nI (pl f g s))), some (.own (nI (ul f g s))), some (.d (.int ((4 - s : Nat) : Int))), p, a] = some (.own (nI (pl f g (s + 1)))) := by
    rw [own_lc2 (α := Nat) (xs := ul f g s) (fun i => .int (i : Nat)) (fun p => [PyData.int ((2 * p : Nat) : Int), .int ((2 * p + 1 : Nat) : Int)]) (fun p => [PyData.int ((2 * p : Nat) : Int), .int ((2 * p + 1 : Nat) : Int)]) rfl, dbl_enc, pl_s]
    · rw [dbl_enc, nI_len, dbl2_len]
      omega
    · intro x hx
      have m1 := mulI 2 (x : Nat) (by omega)
      have h2 : (2 : Nat) ≤ LIM := lim_small' (by omega)
      refine ⟨_, rfl, ?_, rfl⟩
      simp only [wipeE, mkF, sSeq, sSet, sIf, sRet, sRetN, sNext, sBrk, sCont, sDrop, sFrz, freeze, sPar, putAll, putR, outR, sAsg, sApp, sExt, sPop, sSetIx, sAug, sFor, ownAt, eVar, eC, bind1, bind2, bindA, aCons, aNil, op1, tb, tT', tru, isB, bAnd, bOr, bNot, eAnd, eOr, eNot, eIf, eTup, eLst, toD, toDs, eSl, pNo, pAt, eCall, isBor, noLR, fInt, fList, fTuple, unNeg, gNm, gTp, gAll, iRg1, iRg2, iSeq, itsOf, sv, lv, dv, tYesB, List.map_cons, List.map_nil, List.append_eq, List.cons_append, List.nil_append, List.replicate_succ, List.replicate_zero, Option.bind_some, Option.bind_none, Option.map_some, Option.map_none, Option.some_or, Option.none_or, List.getElem?_cons_zero, List.getElem?_cons_succ, List.set_cons_zero, List.set_cons_succ, List.length_cons, List.length_nil, List.any_cons, List.any_nil, if_true, if_false, ite_true, ite_false, Bool.false_eq_true, reduceIte, Nat.reduceAdd, Nat.reduceSub, Nat.reduceLT, Nat.reduceLeDiff, Bool.or_false, Bool.false_or, Bool.or_self, Bool.not_true, Bool.not_false, m1, add_i, h2]
      rfl
  have ll : fLen (.bor (nI (pl f g s))) = some (.d (.int ((pl f g s).length : Nat))) := by rw [len_bor, nI_len]
  have eo : iOp (· + ·) (fun _ _ => true) (.d (.int (lk' f g s : Nat))) (.d (.int ((pl f g s).length : Nat))) = some (.d (.int (lk' f g (s + 1) : Nat))) := rfl
  have e1 : sAug 2 (iOp (· + ·) fun _ _ => true) (bindA (op1 fLen) (aCons (eVar 3) (aNil))) (uE f g s u (some (.d (.int ((4 - s : Nat) : Int)))) p a) = some (.nx [some (.d (levs f)), some (.d (levs g)), some (.d (.int (lk' f g (s + 1) : Nat))), some (.own (nI (pl f g s))), u, some (.d (.int ((4 - s : Nat) : Int))), p, a]) := by
    unfold uE
    simp only [mkF, sSeq, sSet, sIf, sRet, sRetN, sNext, sBrk, sCont, sDrop, sFrz, freeze, sPar, putAll, putR, outR, sAsg, sApp, sExt, sPop, sSetIx, sAug, sFor, ownAt, eVar, eC, bind1, bind2, bindA, aCons, aNil, op1, tb, tT', tru, isB, bAnd, bOr, bNot, eAnd, eOr, eNot, eIf, eTup, eLst, toD, toDs, eSl, pNo, pAt, eCall, isBor, noLR, fInt, fList, fTuple, unNeg, gNm, gTp, gAll, iRg1, iRg2, iSeq, itsOf, sv, lv, dv, tYesB, List.map_cons, List.map_nil, List.append_eq, List.cons_append, List.nil_append, List.replicate_succ, List.replicate_zero, Option.bind_some, Option.bind_none, Option.map_some, Option.map_none, Option.some_or, Option.none_or, List.getElem?_cons_zero, List.getElem?_cons_succ, List.set_cons_zero, List.set_cons_succ, List.length_cons, List.length_nil, List.any_cons, List.any_nil, if_true, if_false, ite_true, ite_false, Bool.false_eq_true, reduceIte, Nat.reduceAdd, Nat.reduceSub, Nat.reduceLT, Nat.reduceLeDiff, Bool.or_false, Bool.false_or, Bool.or_self, Bool.not_true, Bool.not_false, ll, eo]
  unfold P_unlike_keys_1
  rw [seq_nx e1]
  generalize eLc (iSeq false (eVar 3)) [6] (gNm 6) (tb (bind2 opNe2 (bind2 opIx (bind2 opIx (eVar 0) (eVar 5)) (eVar 6)) (bind2 opIx (bind2 opIx (eVar 1) (eVar 5)) (eVar 6)))) (eVar 6) = C1 at c1
  generalize eLc2 (iSeq false (eVar 4)) [7, 6] (gNm 7) (tYesB) (iSeq true (eTup (aCons (bind2 opMul2 (eC (.int 2)) (eVar 7)) (aCons (bind2 opAdd (bind2 opMul2 (eC (.int 2)) (eVar 7)) (eC (.int 1))) (aNil))))) [6] (gNm 6) (tYesB) (eVar 6) = C2 at c2
  unfold uE
  simp only [mkF, sSeq, sSet, sIf, sRet, sRetN, sNext, sBrk, sCont, sDrop, sFrz, freeze, sPar, putAll, putR, outR, sAsg, sApp, sExt, sPop, sSetIx, sAug, sFor, ownAt, eVar, eC, bind1, bind2, bindA, aCons, aNil, op1, tb, tT', tru, isB, bAnd, bOr, bNot, eAnd, eOr, eNot, eIf, eTup, eLst, toD, toDs, eSl, pNo, pAt, eCall, isBor, noLR, fInt, fList, fTuple, unNeg, gNm, gTp, gAll, iRg1, iRg2, iSeq, itsOf, sv, lv, dv, tYesB, List.map_cons, List.map_nil, List.append_eq, List.cons_append, List.nil_append, List.replicate_succ, List.replicate_zero, Option.bind_some, Option.bind_none, Option.map_some, Option.map_none, Option.some_or, Option.none_or, List.getElem?_cons_zero, List.getElem?_cons_succ, List.set_cons_zero, List.set_cons_succ, List.length_cons, List.length_nil, List.any_cons, List.any_nil, if_true, if_false, ite_true, ite_false, Bool.false_eq_true, reduceIte, Nat.reduceAdd, Nat.reduceSub, Nat.reduceLT, Nat.reduceLeDiff, Bool.or_false, Bool.false_or, Bool.or_self, Bool.not_true, Bool.not_false, c1, c2]
def res (f g : Nat → Int) : PyData := .tuple [.tuple (nI (ul f g 4)), .int (lk' f g 5 : Nat)]
theorem rg41 : rgF3 [.d (.int 4), .d (.int (-1)), .d (.int (-1))] = some ((List.range 5).map fun s => .int ((4 - s : Nat) : Int)) := rfl
theorem unlike_ok (f g : Nat → Int) : F_unlike_keys [levs f, levs g] = some (.d (res f g)) := by
  have s123 : ∀ r, sSeq S_unlike_keys_4 S_unlike_keys_5 (uE f g 0 (some (.own [])) none none none) = some (.rt r) → B_unlike_keys [some (.d (levs f)), some (.d (levs g)), none, none, none, none, none, none] = some (.rt r) := fun r h => by
    have k0 : (0 : Nat) ≤ LIM := Nat.zero_le _
    have k1 : (1 : Nat) ≤ LIM := lim_small' (by omega)
    have e1 : S_unlike_keys_1 [some (.d (levs f)), some (.d (levs g)), none, none, none, none, none, none] = some (.nx [some (.d (levs f)), some (.d (levs g)), some (.d (.int 0)), none, none, none, none, none]) := rfl
    have e2 : S_unlike_keys_2 [some (.d (levs f)), some (.d (levs g)), some (.d (.int 0)), none, none, none, none, none] = some (.nx [some (.d (levs f)), some (.d (levs g)), some (.d (.int 0)), some (.own [.int 0]), none, none, none, none]) := by
      unfold S_unlike_keys_2
      simp only [mkF, sSeq, sSet, sIf, sRet, sRetN, sNext, sBrk, sCont, sDrop, sFrz, freeze, sPar, putAll, putR, outR, sAsg, sApp, sExt, sPop, sSetIx, sAug, sFor, ownAt, eVar, eC, bind1, bind2, bindA, aCons, aNil, op1, tb, tT', tru, isB, bAnd, bOr, bNot, eAnd, eOr, eNot, eIf, eTup, eLst, toD, toDs, eSl, pNo, pAt, eCall, isBor, noLR, fInt, fList, fTuple, unNeg, gNm, gTp, gAll, iRg1, iRg2, iSeq, itsOf, sv, lv, dv, tYesB, List.map_cons, List.map_nil, List.append_eq, List.cons_append, List.nil_append, List.replicate_succ, List.replicate_zero, Option.bind_some, Option.bind_none, Option.map_some, Option.map_none, Option.some_or, Option.none_or, List.getElem?_cons_zero, List.getElem?_cons_succ, List.set_cons_zero, List.set_cons_succ, List.length_cons, List.length_nil, List.any_cons, List.any_nil, if_true, if_false, ite_true, ite_false, Bool.false_eq_true, reduceIte, Nat.reduceAdd, Nat.reduceSub, Nat.reduceLT, Nat.reduceLeDiff, Bool.or_false, Bool.false_or, Bool.or_self, Bool.not_true, Bool.not_false, k1]
    have e3 : S_unlike_keys_3 [some (.d (levs f)), some (.d (levs g)), some (.d (.int 0)), some (.own [.int 0]), none, none, none, none] = some (.nx (uE f g 0 (some (.own [])) none none none)) := by
      unfold S_unlike_keys_3 uE
      rw [pl_0]
      simp only [mkF, sSeq, sSet, sIf, sRet, sRetN, sNext, sBrk, sCont, sDrop, sFrz, freeze, sPar, putAll, putR, outR, sAsg, sApp, sExt, sPop, sSetIx, sAug, sFor, ownAt, eVar, eC, bind1, bind2, bindA, aCons, aNil, op1, tb, tT', tru, isB, bAnd, bOr, bNot, eAnd, eOr, eNot, eIf, eTup, eLst, toD, toDs, eSl, pNo, pAt, eCall, isBor, noLR, fInt, fList, fTuple, unNeg, gNm, gTp, gAll, iRg1, iRg2, iSeq, itsOf, sv, lv, dv, tYesB, List.map_cons, List.map_nil, List.append_eq, List.cons_append, List.nil_append, List.replicate_succ, List.replicate_zero, Option.bind_some, Option.bind_none, Option.map_some, Option.map_none, Option.some_or, Option.none_or, List.getElem?_cons_zero, List.getElem?_cons_succ, List.set_cons_zero, List.set_cons_succ, List.length_cons, List.length_nil, List.any_cons, List.any_nil, if_true, if_false, ite_true, ite_false, Bool.false_eq_true, reduceIte, Nat.reduceAdd, Nat.reduceSub, Nat.reduceLT, Nat.reduceLeDiff, Bool.or_false, Bool.false_or, Bool.or_self, Bool.not_true, Bool.not_false, k0]
      rfl
    unfold B_unlike_keys
    rw [seq_nx e1, seq_nx e2, seq_nx e3, h]
  obtain ⟨env', e, u, l, hu, rfl⟩ := for_enc (tg := gNm 5) (body := P_unlike_keys_1) (fun s : Nat => PyData.int ((4 - s : Nat) : Int)) (fun s env => ∃ u l, (∀ s', s = s' + 1 → u = some (.own (nI (ul f g s')))) ∧ env = uE f g s u l none none) (List.range 5) (env := uE f g 0 (some (.own [])) none none none) ⟨_, _, ⟨fun s' h => Nat.noConfusion h, rfl⟩⟩ (by
    rintro i s env hi ⟨u, l, hu, rfl⟩
    have hi5 := (List.getElem?_eq_some_iff.mp hi).1
    rw [List.length_range] at hi5
    rw [List.getElem?_range hi5] at hi
    cases hi
    exact ⟨_, _, rfl, unlike_step f g i (by omega) u none none, _, .inl rfl, _, _, ⟨fun s' h => by cases h; rfl, rfl⟩⟩)
  rw [List.length_range] at hu e
  cases hu 4 rfl
  refine F_of rfl rfl (s123 _ ?_) rfl
  have e4 : S_unlike_keys_4 (uE f g 0 (some (.own [])) none none none) = some (.nx (uE f g 5 (some (.own (nI (ul f g 4)))) l none none)) := by
    have hl : fLen (.d (levs f)) = some (.d (.int 5)) := rfl
    have hi : iRg3 (aCons (bind2 opSub (bindA (op1 fLen) (aCons (eVar 0) (aNil))) (eC (.int 1))) (aCons (bind1 unNeg (eC (.int 1))) (aCons (bind1 unNeg (eC (.int 1))) (aNil)))) (uE f g 0 (some (.own [])) none none none) = some ((List.range 5).map fun s => .int ((4 - s : Nat) : Int)) := by
      rw [← rg41]
      rfl
    unfold S_unlike_keys_4 sFor
    rw [hi, Option.bind_some, e]
  have e5 : S_unlike_keys_5 (uE f g 5 (some (.own (nI (ul f g 4)))) l none none) = some (.rt (.d (res f g))) := by
    have h2 : (2 : Nat) ≤ LIM := lim_small' (by omega)
    unfold S_unlike_keys_5 uE res
    simp only [mkF, sSeq, sSet, sIf, sRet, sRetN, sNext, sBrk, sCont, sDrop, sFrz, freeze, sPar, putAll, putR, outR, sAsg, sApp, sExt, sPop, sSetIx, sAug, sFor, ownAt, eVar, eC, bind1, bind2, bindA, aCons, aNil, op1, tb, tT', tru, isB, bAnd, bOr, bNot, eAnd, eOr, eNot, eIf, eTup, eLst, toD, toDs, eSl, pNo, pAt, eCall, isBor, noLR, fInt, fList, fTuple, unNeg, gNm, gTp, gAll, iRg1, iRg2, iSeq, itsOf, sv, lv, dv, tYesB, List.map_cons, List.map_nil, List.append_eq, List.cons_append, List.nil_append, List.replicate_succ, List.replicate_zero, Option.bind_some, Option.bind_none, Option.map_some, Option.map_none, Option.some_or, Option.none_or, List.getElem?_cons_zero, List.getElem?_cons_succ, List.set_cons_zero, List.set_cons_succ, List.length_cons, List.length_nil, List.any_cons, List.any_nil, if_true, if_false, ite_true, ite_false, Bool.false_eq_true, reduceIte, Nat.reduceAdd, Nat.reduceSub, Nat.reduceLT, Nat.reduceLeDiff, Bool.or_false, Bool.false_or, Bool.or_self, Bool.not_true, Bool.not_false, h2]
  rw [seq_nx e4, e5]
end LW19

namespace LW19
open PySem L2 PV PySem.W
/-! ### what the law says that differs -/
def qE (f g : Nat → Int) (s : Nat) (l d : Option S) (p : Option PyData) : PV.Env := [some (.d (levs f)), some (.d (levs g)), some (.own (nI (pl f g s))), some (.d (.int (lk' f g (s + 1) : Nat))), l, d, p.map S.d]
theorem frz_p (f g : Nat → Int) (s : Nat) (l d : Option S) (p : Option PyData) : freeze 6 (qE f g s l d p) = qE f g s l d p := by
  cases p <;> rfl
theorem lawd_ok (f g : Nat → Int) (s : Nat) (hs : s ≤ 4) (d : Option S) (p : Option PyData) : sFrz 6 (sSet 5 (eLc (iSeq false (eVar 2)) [6] (gNm 6) (tb (bind2 opNe2 (bind2 opIx (bind2 opIx (eVar 0) (eVar 4)) (eVar 6)) (bind2 opIx (bind2 opIx (eVar 1) (eVar 4)) (eVar 6)))) (eVar 6))) (qE f g s (some (.d (.int ((4 - s : Nat) : Int)))) d p) = some (.nx (qE f g s (some (.d (.int ((4 - s : Nat) : Int)))) (some (.own (nI (ul f g s)))) p)) := by
  have q := p16 s hs
  have hpl := pl_len f g s
  have c1 : eLc (iSeq false (eVar 2)) [6] (gNm 6) (tb (bind2 opNe2 (bind2 opIx (bind2 opIx (eVar 0) (eVar 4)) (eVar 6)) (bind2 opIx (bind2 opIx (eVar 1) (eVar 4)) (eVar 6)))) (eVar 6) (qE f g s (some (.d (.int ((4 - s : Nat) : Int)))) d p) = some (.own (nI (ul f g s))) := by
    rw [own_xsf (α := Nat) (xs := pl f g s) (fun i => .int (i : Nat)) (by omega) (dif f g (4 - s)) (fun i => .int (i : Nat)) rfl, ul_filter]
    intro x hx
    have hx := pl_lt f g s x hx
    refine ⟨_, rfl, ?_, fun _ => rfl⟩
    unfold tb
    rw [bind2, at_ok (f := f) (s := s) (p := x) rfl rfl rfl hs hx, Option.bind_some, at_ok (f := g) (s := s) (p := x) rfl rfl rfl hs hx, Option.bind_some, ne_i]
    rfl
  unfold sFrz
  rw [frz_p]
  generalize eLc (iSeq false (eVar 2)) [6] (gNm 6) (tb (bind2 opNe2 (bind2 opIx (bind2 opIx (eVar 0) (eVar 4)) (eVar 6)) (bind2 opIx (bind2 opIx (eVar 1) (eVar 4)) (eVar 6)))) (eVar 6) = C1 at c1
  unfold qE at c1 ⊢
  simp only [mkF, sSeq, sSet, sIf, sRet, sRetN, sNext, sBrk, sCont, sDrop, sFrz, freeze, sPar, putAll, putR, outR, sAsg, sApp, sExt, sPop, sSetIx, sAug, sFor, ownAt, eVar, eC, bind1, bind2, bindA, aCons, aNil, op1, tb, tT', tru, isB, bAnd, bOr, bNot, eAnd, eOr, eNot, eIf, eTup, eLst, toD, toDs, eSl, pNo, pAt, eCall, isBor, noLR, fInt, fList, fTuple, unNeg, gNm, gTp, gAll, iRg1, iRg2, iSeq, itsOf, sv, lv, dv, tYesB, List.map_cons, List.map_nil, List.append_eq, List.cons_append, List.nil_append, List.replicate_succ, List.replicate_zero, Option.bind_some, Option.bind_none, Option.map_some, Option.map_none, Option.some_or, Option.none_or, List.getElem?_cons_zero, List.getElem?_cons_succ, List.set_cons_zero, List.set_cons_succ, List.length_cons, List.length_nil, List.any_cons, List.any_nil, if_true, if_false, ite_true, ite_false, Bool.false_eq_true, reduceIte, Nat.reduceAdd, Nat.reduceSub, Nat.reduceLT, Nat.reduceLeDiff, Bool.or_false, Bool.false_or, Bool.or_self, Bool.not_true, Bool.not_false, c1]
theorem ext_ok (f g : Nat → Int) (s : Nat) (hs : s < 4) (l : Option S) (p : Option PyData) : ∃ p' : Option PyData, sFrz 5 (sFor (iSeq true (eVar 5)) (gNm 6) (P__law_unlike_1)) [some (.d (levs f)), some (.d (levs g)), some (.own []), some (.d (.int (lk' f g (s + 1 + 1) : Nat))), l, some (.own (nI (ul f g s))), p.map S.d] = some (.nx (qE f g (s + 1) l (some (.d (.list (nI (ul f g s))))) p')) := by
  have hul := ul_len f g s
  have hpl := pl_len f g s
  have q := p16 s (by omega)
  obtain ⟨env', e, p', rfl⟩ := for_enc (tg := gNm 6) (body := P__law_unlike_1) (fun i : Nat => PyData.int (i : Nat)) (fun i env => ∃ p' : Option PyData, env = [some (.d (levs f)), some (.d (levs g)), some (.own (nI (dbl2 ((ul f g s).take i)))), some (.d (.int (lk' f g (s + 1 + 1) : Nat))), l, some (.d (.list (nI (ul f g s)))), p'.map S.d]) (ul f g s) (env := [some (.d (levs f)), some (.d (levs g)), some (.own []), some (.d (.int (lk' f g (s + 1 + 1) : Nat))), l, some (.d (.list (nI (ul f g s)))), p.map S.d]) ⟨p, rfl⟩ (by
    rintro i x env hi ⟨p', rfl⟩
    have m1 := mulI 2 (x : Nat) (by omega)
    have h2 : (2 : Nat) ≤ LIM := lim_small' (by omega)
    have hil := (List.getElem?_eq_some_iff.mp hi).1
    have hl : (nI (dbl2 ((ul f g s).take i))).length + 2 ≤ LIM := lim_small' (by rw [nI_len, dbl2_len, List.length_take]; omega)
    have en : nI (dbl2 ((ul f g s).take i)) ++ [.int (2 * (x : Nat)), .int (2 * (x : Nat) + 1)] = nI (dbl2 ((ul f g s).take (i + 1))) := by
      unfold nI dbl2
      rw [List.take_add_one, hi, List.flatMap_append, List.map_append]
      rfl
    have st : P__law_unlike_1 [some (.d (levs f)), some (.d (levs g)), some (.own (nI (dbl2 ((ul f g s).take i)))), some (.d (.int (lk' f g (s + 1 + 1) : Nat))), l, some (.d (.list (nI (ul f g s)))), some (.d (.int (x : Nat)))] = some (.nx [some (.d (levs f)), some (.d (levs g)), some (.own (nI (dbl2 ((ul f g s).take (i + 1))))), some (.d (.int (lk' f g (s + 1 + 1) : Nat))), l, some (.d (.list (nI (ul f g s)))), some (.d (.int (x : Nat)))]) := by
      unfold P__law_unlike_1
      simp only [mkF, sSeq, sSet, sIf, sRet, sRetN, sNext, sBrk, sCont, sDrop, sFrz, freeze, sPar, putAll, putR, outR, sAsg, sApp, sExt, sPop, sSetIx, sAug, sFor, ownAt, eVar, eC, bind1, bind2, bindA, aCons, aNil, op1, tb, tT', tru, isB, bAnd, bOr, bNot, eAnd, eOr, eNot, eIf, eTup, eLst, toD, toDs, eSl, pNo, pAt, eCall, isBor, noLR, fInt, fList, fTuple, unNeg, gNm, gTp, gAll, iRg1, iRg2, iSeq, itsOf, sv, lv, dv, tYesB, List.map_cons, List.map_nil, List.append_eq, List.cons_append, List.nil_append, List.replicate_succ, List.replicate_zero, Option.bind_some, Option.bind_none, Option.map_some, Option.map_none, Option.some_or, Option.none_or, List.getElem?_cons_zero, List.getElem?_cons_succ, List.set_cons_zero, List.set_cons_succ, List.length_cons, List.length_nil, List.any_cons, List.any_nil, if_true, if_false, ite_true, ite_false, Bool.false_eq_true, reduceIte, Nat.reduceAdd, Nat.reduceSub, Nat.reduceLT, Nat.reduceLeDiff, Bool.or_false, Bool.false_or, Bool.or_self, Bool.not_true, Bool.not_false, m1, add_i, h2, hl, en]
    exact ⟨_, _, rfl, st, _, .inl rfl, some (.int (x : Nat)), rfl⟩)
  rw [List.take_length] at e
  refine ⟨p', ?_⟩
  show sFor (iSeq true (eVar 5)) (gNm 6) (P__law_unlike_1) [some (.d (levs f)), some (.d (levs g)), some (.own []), some (.d (.int (lk' f g (s + 1 + 1) : Nat))), l, some (.d (.list (nI (ul f g s)))), p.map S.d] = _
  unfold sFor
  have hi : iSeq true (eVar 5) [some (.d (levs f)), some (.d (levs g)), some (.own []), some (.d (.int (lk' f g (s + 1 + 1) : Nat))), l, some (.d (.list (nI (ul f g s)))), p.map S.d] = some ((ul f g s).map fun i : Nat => PyData.int (i : Nat)) := rfl
  rw [hi, Option.bind_some, e]
  rfl
theorem law_step (f g : Nat → Int) (s : Nat) (hs : s < 4) (d : Option S) (p : Option PyData) : ∃ p' : Option PyData, P__law_unlike_2 (qE f g s (some (.d (.int ((4 - s : Nat) : Int)))) d p) = some (.nx (qE f g (s + 1) (some (.d (.int ((4 - s : Nat) : Int)))) (some (.d (.list (nI (ul f g s))))) p')) := by
  obtain ⟨p', e3⟩ := ext_ok f g s hs (some (.d (.int ((4 - s : Nat) : Int)))) p
  refine ⟨p', ?_⟩
  have g0 : opEq2 (.d (.int ((4 - s : Nat) : Int))) (.d (.int 0)) = some (.d (.bool false)) := by rw [eq_i, decide_eq_false (by omega)]
  have e1 : sIf (tb (bind2 opEq2 (eVar 4) (eC (.int 0)))) (sFrz 3 (sRet (eTup (aCons (bindA (op1 fTuple) (aCons (eVar 5) (aNil))) (aCons (eVar 3) (aNil)))))) (sNext) (qE f g s (some (.d (.int ((4 - s : Nat) : Int)))) (some (.own (nI (ul f g s)))) p) = some (.nx (qE f g s (some (.d (.int ((4 - s : Nat) : Int)))) (some (.own (nI (ul f g s)))) p)) := by
    unfold qE
    simp only [mkF, sSeq, sSet, sIf, sRet, sRetN, sNext, sBrk, sCont, sDrop, sFrz, freeze, sPar, putAll, putR, outR, sAsg, sApp, sExt, sPop, sSetIx, sAug, sFor, ownAt, eVar, eC, bind1, bind2, bindA, aCons, aNil, op1, tb, tT', tru, isB, bAnd, bOr, bNot, eAnd, eOr, eNot, eIf, eTup, eLst, toD, toDs, eSl, pNo, pAt, eCall, isBor, noLR, fInt, fList, fTuple, unNeg, gNm, gTp, gAll, iRg1, iRg2, iSeq, itsOf, sv, lv, dv, tYesB, List.map_cons, List.map_nil, List.append_eq, List.cons_append, List.nil_append, List.replicate_succ, List.replicate_zero, Option.bind_some, Option.bind_none, Option.map_some, Option.map_none, Option.some_or, Option.none_or, List.getElem?_cons_zero, List.getElem?_cons_succ, List.set_cons_zero, List.set_cons_succ, List.length_cons, List.length_nil, List.any_cons, List.any_nil, if_true, if_false, ite_true, ite_false, Bool.false_eq_true, reduceIte, Nat.reduceAdd, Nat.reduceSub, Nat.reduceLT, Nat.reduceLeDiff, Bool.or_false, Bool.false_or, Bool.or_self, Bool.not_true, Bool.not_false, g0]
  have e2 : sPar [2, 3] (aCons (eLst (aNil)) (aCons (bind2 opAdd (eVar 3) (bind2 opMul2 (eC (.int 2)) (bindA (op1 fLen) (aCons (eVar 5) (aNil))))) (aNil))) (qE f g s (some (.d (.int ((4 - s : Nat) : Int)))) (some (.own (nI (ul f g s)))) p) = some (.nx [some (.d (levs f)), some (.d (levs g)), some (.own []), some (.d (.int (lk' f g (s + 1 + 1) : Nat))), some (.d (.int ((4 - s : Nat) : Int))), some (.own (nI (ul f g s))), p.map S.d]) := by
    have m1 := mulI 2 ((ul f g s).length : Nat) (by omega)
    have h0 : (0 : Nat) ≤ LIM := Nat.zero_le _
    have ll : fLen (.bor (nI (ul f g s))) = some (.d (.int ((ul f g s).length : Nat))) := by rw [len_bor, nI_len]
    have el : ((lk' f g (s + 1) : Nat) : Int) + 2 * ((ul f g s).length : Nat) = (lk' f g (s + 1 + 1) : Nat) := by
      show _ = ((lk' f g (s + 1) + (pl f g (s + 1)).length : Nat) : Int)
      rw [pl_s, dbl2_len]
      omega
    unfold qE
    simp only [mkF, sSeq, sSet, sIf, sRet, sRetN, sNext, sBrk, sCont, sDrop, sFrz, freeze, sPar, putAll, putR, outR, sAsg, sApp, sExt, sPop, sSetIx, sAug, sFor, ownAt, eVar, eC, bind1, bind2, bindA, aCons, aNil, op1, tb, tT', tru, isB, bAnd, bOr, bNot, eAnd, eOr, eNot, eIf, eTup, eLst, toD, toDs, eSl, pNo, pAt, eCall, isBor, noLR, fInt, fList, fTuple, unNeg, gNm, gTp, gAll, iRg1, iRg2, iSeq, itsOf, sv, lv, dv, tYesB, List.map_cons, List.map_nil, List.append_eq, List.cons_append, List.nil_append, List.replicate_succ, List.replicate_zero, Option.bind_some, Option.bind_none, Option.map_some, Option.map_none, Option.some_or, Option.none_or, List.getElem?_cons_zero, List.getElem?_cons_succ, List.set_cons_zero, List.set_cons_succ, List.length_cons, List.length_nil, List.any_cons, List.any_nil, if_true, if_false, ite_true, ite_false, Bool.false_eq_true, reduceIte, Nat.reduceAdd, Nat.reduceSub, Nat.reduceLT, Nat.reduceLeDiff, Bool.or_false, Bool.false_or, Bool.or_self, Bool.not_true, Bool.not_false, h0, ll, m1, add_i, el]
  unfold P__law_unlike_2
  rw [seq_nx (lawd_ok f g s (by omega) d p), seq_nx e1, seq_nx e2, e3]
theorem law_last (f g : Nat → Int) (d : Option S) (p : Option PyData) : P__law_unlike_2 (qE f g 4 (some (.d (.int ((4 - 4 : Nat) : Int)))) d p) = some (.rt (.d (res f g))) := by
  have e1 : sIf (tb (bind2 opEq2 (eVar 4) (eC (.int 0)))) (sFrz 3 (sRet (eTup (aCons (bindA (op1 fTuple) (aCons (eVar 5) (aNil))) (aCons (eVar 3) (aNil)))))) (sNext) (qE f g 4 (some (.d (.int ((4 - 4 : Nat) : Int)))) (some (.own (nI (ul f g 4)))) p) = some (.rt (.d (res f g))) := by
    have g0 : opEq2 (.d (.int ((4 - 4 : Nat) : Int))) (.d (.int 0)) = some (.d (.bool true)) := by rw [eq_i, decide_eq_true (by omega)]
    have h2 : (2 : Nat) ≤ LIM := lim_small' (by omega)
    unfold qE res
    simp only [mkF, sSeq, sSet, sIf, sRet, sRetN, sNext, sBrk, sCont, sDrop, sFrz, freeze, sPar, putAll, putR, outR, sAsg, sApp, sExt, sPop, sSetIx, sAug, sFor, ownAt, eVar, eC, bind1, bind2, bindA, aCons, aNil, op1, tb, tT', tru, isB, bAnd, bOr, bNot, eAnd, eOr, eNot, eIf, eTup, eLst, toD, toDs, eSl, pNo, pAt, eCall, isBor, noLR, fInt, fList, fTuple, unNeg, gNm, gTp, gAll, iRg1, iRg2, iSeq, itsOf, sv, lv, dv, tYesB, List.map_cons, List.map_nil, List.append_eq, List.cons_append, List.nil_append, List.replicate_succ, List.replicate_zero, Option.bind_some, Option.bind_none, Option.map_some, Option.map_none, Option.some_or, Option.none_or, List.getElem?_cons_zero, List.getElem?_cons_succ, List.set_cons_zero, List.set_cons_succ, List.length_cons, List.length_nil, List.any_cons, List.any_nil, if_true, if_false, ite_true, ite_false, Bool.false_eq_true, reduceIte, Nat.reduceAdd, Nat.reduceSub, Nat.reduceLT, Nat.reduceLeDiff, Bool.or_false, Bool.false_or, Bool.or_self, Bool.not_true, Bool.not_false, g0, h2]
  unfold P__law_unlike_2
  rw [seq_nx (lawd_ok f g 4 (by omega) d p), seq_rt e1]
theorem law_unlike_ok (f g : Nat → Int) : F__law_unlike [levs f, levs g] = some (.d (res f g)) := by
  have s1 : S__law_unlike_1 [some (.d (levs f)), some (.d (levs g)), none, none, none, none, none] = some (.nx (qE f g 0 none none none)) := by
    have k1 : (1 : Nat) ≤ LIM := lim_small' (by omega)
    unfold S__law_unlike_1
    simp only [mkF, sSeq, sSet, sIf, sRet, sRetN, sNext, sBrk, sCont, sDrop, sFrz, freeze, sPar, putAll, putR, outR, sAsg, sApp, sExt, sPop, sSetIx, sAug, sFor, ownAt, eVar, eC, bind1, bind2, bindA, aCons, aNil, op1, tb, tT', tru, isB, bAnd, bOr, bNot, eAnd, eOr, eNot, eIf, eTup, eLst, toD, toDs, eSl, pNo, pAt, eCall, isBor, noLR, fInt, fList, fTuple, unNeg, gNm, gTp, gAll, iRg1, iRg2, iSeq, itsOf, sv, lv, dv, tYesB, List.map_cons, List.map_nil, List.append_eq, List.cons_append, List.nil_append, List.replicate_succ, List.replicate_zero, Option.bind_some, Option.bind_none, Option.map_some, Option.map_none, Option.some_or, Option.none_or, List.getElem?_cons_zero, List.getElem?_cons_succ, List.set_cons_zero, List.set_cons_succ, List.length_cons, List.length_nil, List.any_cons, List.any_nil, if_true, if_false, ite_true, ite_false, Bool.false_eq_true, reduceIte, Nat.reduceAdd, Nat.reduceSub, Nat.reduceLT, Nat.reduceLeDiff, Bool.or_false, Bool.false_or, Bool.or_self, Bool.not_true, Bool.not_false, k1]
    rfl
  obtain ⟨p1, e1⟩ := law_step f g 0 (by omega) none none
  obtain ⟨p2, e2⟩ := law_step f g 1 (by omega) (some (.d (.list (nI (ul f g 0))))) p1
  obtain ⟨p3, e3⟩ := law_step f g 2 (by omega) (some (.d (.list (nI (ul f g 1))))) p2
  obtain ⟨p4, e4⟩ := law_step f g 3 (by omega) (some (.d (.list (nI (ul f g 2))))) p3
  have e5 := law_last f g (some (.d (.list (nI (ul f g 3))))) p4
  have s2 : S__law_unlike_2 (qE f g 0 none none none) = some (.rt (.d (res f g))) := by
    unfold S__law_unlike_2 sFor
    have hi : iRg3 (aCons (eC (.int 4)) (aCons (bind1 unNeg (eC (.int 1))) (aCons (bind1 unNeg (eC (.int 1))) (aNil)))) (qE f g 0 none none none) = some [.int ((4 - 0 : Nat) : Int), .int ((4 - 1 : Nat) : Int), .int ((4 - 2 : Nat) : Int), .int ((4 - 3 : Nat) : Int), .int ((4 - 4 : Nat) : Int)] := rfl
    rw [hi, Option.bind_some, forL_nx rfl e1, forL_nx rfl e2, forL_nx rfl e3, forL_nx rfl e4, forL_rt rfl e5]
  refine F_of rfl rfl ?_ rfl
  show B__law_unlike [some (.d (levs f)), some (.d (levs g)), none, none, none, none, none] = _
  unfold B__law_unlike
  rw [seq_nx s1, seq_rt s2]
/-! ### is_found -/
def df (f g : Nat → Int) : List Nat := (List.range 16).filter (dif f g 0)
theorem eqN (a b : List Nat) : opEq2 (.d (.tuple (nI a))) (.d (.tuple (nI b))) = some (.d (.bool (decide (a = b)))) := by
  have ea : ∀ a : List Nat, PyData.tuple (nI a) = tuI (a.map fun i : Nat => (i : Int)) := fun a => by
    unfold nI tuI
    rw [List.map_map]
    rfl
  rw [ea, ea, eq_tuI]
  congr 3
  exact decide_eq_decide.mpr ⟨fun h => (List.map_inj_right (fun x y h => Int.ofNat.inj h)).mp h, fun h => by rw [h]⟩
theorem levs_0 (f : Nat → Int) : opIx (.d (levs f)) (.d (.int 0)) = some (.d (tuI (lw f 0 16))) := rfl
theorem dfc {env : PV.Env} {f g : Nat → Int} {i j k : Nat} {it : PV.Env → Option (List PyData)} (h0 : it env = some (rngL 0 16)) (h1 : ∀ x, eVar i ((wipeE env [k]).set k (some (.d x))) = some (.d (levs f))) (h2 : ∀ x, eVar j ((wipeE env [k]).set k (some (.d x))) = some (.d (levs g))) (h3 : ∀ x, eVar k ((wipeE env [k]).set k (some (.d x))) = some (.d x)) :
    eLc it [k] (gNm k) (tb (bind2 opNe2 (bind2 opIx (bind2 opIx (eVar i) (eC (.int 0))) (eVar k)) (bind2 opIx (bind2 opIx (eVar j) (eC (.int 0))) (eVar k)))) (eVar k) env = some (.own (nI (df f g))) := by
  rw [own_rgf (n := 16) (by omega) (dif f g 0) (fun i => .int (i : Nat)) h0]
  · rfl
  · intro x hx
    have a := lev_ix f 0 16 x hx
    have b := lev_ix g 0 16 x hx
    refine ⟨_, rfl, ?_, fun _ => by rw [h3]; rfl⟩
    unfold tb
    simp only [bind2, eC, h1, h2, h3, Option.bind_some, levs_0, a, b, ne_i]
    rfl
theorem is_found_ok (f g : Nat → Int) : F_is_found [levs f, levs g] = some (.d (.bool (decide (ul f g 4 = df f g)))) := by
  have c1 := dfc (env := [some (.d (levs f)), some (.d (levs g)), none, none]) (f := f) (g := g) (i := 0) (j := 1) (k := 3) (it := iRg1 (aCons (bindA (op1 fLen) (aCons (bind2 opIx (eVar 0) (eC (.int 0))) (aNil))) (aNil))) (by
    have rg := rg1_i (n := 16) (by omega)
    have l := len_tuI (lw f 0 16)
    rw [lw_len] at l
    simp only [mkF, sSeq, sSet, sIf, sRet, sRetN, sNext, sBrk, sCont, sDrop, sFrz, freeze, sPar, putAll, putR, outR, sAsg, sApp, sExt, sPop, sSetIx, sAug, sFor, ownAt, eVar, eC, bind1, bind2, bindA, aCons, aNil, op1, tb, tT', tru, isB, bAnd, bOr, bNot, eAnd, eOr, eNot, eIf, eTup, eLst, toD, toDs, eSl, pNo, pAt, eCall, isBor, noLR, fInt, fList, fTuple, unNeg, gNm, gTp, gAll, iRg1, iRg2, iSeq, itsOf, sv, lv, dv, tYesB, List.map_cons, List.map_nil, List.append_eq, List.cons_append, List.nil_append, List.replicate_succ, List.replicate_zero, Option.bind_some, Option.bind_none, Option.map_some, Option.map_none, Option.some_or, Option.none_or, List.getElem?_cons_zero, List.getElem?_cons_succ, List.set_cons_zero, List.set_cons_succ, List.length_cons, List.length_nil, List.any_cons, List.any_nil, if_true, if_false, ite_true, ite_false, Bool.false_eq_true, reduceIte, Nat.reduceAdd, Nat.reduceSub, Nat.reduceLT, Nat.reduceLeDiff, Bool.or_false, Bool.false_or, Bool.or_self, Bool.not_true, Bool.not_false, levs_0, l, rg]) (fun _ => rfl) (fun _ => rfl) (fun _ => rfl)
  have e := eqN (ul f g 4) (df f g)
  have i0 : opIx (.d (res f g)) (.d (.int 0)) = some (.d (.tuple (nI (ul f g 4)))) := rfl
  refine F_of rfl rfl ?_ rfl
  show B_is_found [some (.d (levs f)), some (.d (levs g)), none, none] = _
  unfold B_is_found
  generalize eLc (iRg1 (aCons (bindA (op1 fLen) (aCons (bind2 opIx (eVar 0) (eC (.int 0))) (aNil))) (aNil))) [3] (gNm 3) (tb (bind2 opNe2 (bind2 opIx (bind2 opIx (eVar 0) (eC (.int 0))) (eVar 3)) (bind2 opIx (bind2 opIx (eVar 1) (eC (.int 0))) (eVar 3)))) (eVar 3) = C1 at c1 ⊢
  simp only [mkF, sSeq, sSet, sIf, sRet, sRetN, sNext, sBrk, sCont, sDrop, sFrz, freeze, sPar, putAll, putR, outR, sAsg, sApp, sExt, sPop, sSetIx, sAug, sFor, ownAt, eVar, eC, bind1, bind2, bindA, aCons, aNil, op1, tb, tT', tru, isB, bAnd, bOr, bNot, eAnd, eOr, eNot, eIf, eTup, eLst, toD, toDs, eSl, pNo, pAt, eCall, isBor, noLR, fInt, fList, fTuple, unNeg, gNm, gTp, gAll, iRg1, iRg2, iSeq, itsOf, sv, lv, dv, tYesB, List.map_cons, List.map_nil, List.append_eq, List.cons_append, List.nil_append, List.replicate_succ, List.replicate_zero, Option.bind_some, Option.bind_none, Option.map_some, Option.map_none, Option.some_or, Option.none_or, List.getElem?_cons_zero, List.getElem?_cons_succ, List.set_cons_zero, List.set_cons_succ, List.length_cons, List.length_nil, List.any_cons, List.any_nil, if_true, if_false, ite_true, ite_false, Bool.false_eq_true, reduceIte, Nat.reduceAdd, Nat.reduceSub, Nat.reduceLT, Nat.reduceLeDiff, Bool.or_false, Bool.false_or, Bool.or_self, Bool.not_true, Bool.not_false, c1, unlike_ok, i0, e]
end LW19

namespace LW19
open PySem L2 PV PySem.W
/-! ### what differs, plain -/
theorem dif_symm (f g : Nat → Int) (t p : Nat) : dif f g t p = dif g f t p := by
  unfold dif
  by_cases h : V f t p = V g t p
  · rw [decide_eq_true h, decide_eq_true h.symm]
  · rw [decide_eq_false h, decide_eq_false fun q => h q.symm]
theorem pl_symm (f g : Nat → Int) : ∀ s, pl f g s = pl g f s
  | 0 => rfl
  | s + 1 => by
    rw [pl_s, pl_s, ul_s, ul_s, pl_symm f g s]
    congr 2
    funext p
    exact dif_symm f g _ p
theorem ul_symm (f g : Nat → Int) (s : Nat) : ul f g s = ul g f s := by
  rw [ul_s, ul_s, pl_symm f g s]
  congr 1
  funext p
  exact dif_symm f g _ p
theorem lk_symm (f g : Nat → Int) : ∀ s, lk' f g s = lk' g f s
  | 0 => rfl
  | s + 1 => by
    show lk' f g s + _ = lk' g f s + _
    rw [lk_symm f g s, pl_symm f g s]
theorem df_symm (f g : Nat → Int) : df f g = df g f := by
  unfold df
  congr 1
  funext p
  exact dif_symm f g _ p
theorem res_symm (f g : Nat → Int) : res f g = res g f := by
  unfold res
  rw [ul_symm, lk_symm]
theorem ul_self (f : Nat → Int) (s : Nat) : ul f f s = [] := by
  rw [ul_s, List.filter_eq_nil_iff]
  intro p _
  unfold dif
  rw [decide_eq_true rfl]
  exact Bool.false_ne_true
theorem df_self (f : Nat → Int) : df f f = [] := by
  unfold df
  rw [List.filter_eq_nil_iff]
  intro p _
  unfold dif
  rw [decide_eq_true rfl]
  exact Bool.false_ne_true
theorem lk_self (f : Nat → Int) : lk' f f 5 = 1 := by
  have h : ∀ s, (pl f f (s + 1)).length = 0 := fun s => by rw [pl_s, ul_self]; rfl
  show 0 + (pl f f 0).length + (pl f f 1).length + (pl f f 2).length + (pl f f 3).length + (pl f f 4).length = 1
  rw [h 0, h 1, h 2, h 3]
  rfl
theorem res_self (f : Nat → Int) : res f f = .tuple [.tuple [], .int 1] := by
  unfold res
  rw [ul_self, lk_self]
  rfl
theorem ul_df (f g : Nat → Int) : ∀ p ∈ ul f g 4, p ∈ df f g := fun p h => by
  have hp := ul_lt f g 4 p h
  rw [ul_s] at h
  unfold df
  exact List.mem_filter.mpr ⟨List.mem_range.mpr hp, (List.mem_filter.mp h).2⟩
theorem one_dif {f g : Nat → Int} (hf : In f) (hg : In g) {k : Nat} (h : df f g = [k]) : ∀ t, t ≤ 4 → ∀ p, p < 2 ^ (4 - t) → dif f g t p = decide (p = k / 2 ^ t)
  | 0, _, p, hp => by
    rw [Nat.pow_zero, Nat.div_one]
    have hp : p < 16 := hp
    by_cases e : p = k
    · rw [decide_eq_true e]
      have : k ∈ df f g := by rw [h]; exact List.mem_singleton.mpr rfl
      rw [e]
      exact (List.mem_filter.mp this).2
    · rw [decide_eq_false e]
      by_cases d : dif f g 0 p = true
      · have : p ∈ df f g := List.mem_filter.mpr ⟨List.mem_range.mpr hp, d⟩
        rw [h, List.mem_singleton] at this
        exact absurd this e
      · exact Bool.eq_false_iff.mpr d
  | t + 1, ht, p, hp => by
    have hq : 2 ^ (4 - t) = 2 * 2 ^ (4 - (t + 1)) := by rw [show 4 - t = 4 - (t + 1) + 1 by omega, Nat.pow_succ]; omega
    have ih := one_dif hf hg h t (by omega)
    have i1 := ih (2 * p) (by omega)
    have i2 := ih (2 * p + 1) (by omega)
    have hk : k / 2 ^ (t + 1) = k / 2 ^ t / 2 := by rw [Nat.pow_succ, Nat.div_div_eq_div_mul]
    rw [hk]
    generalize k / 2 ^ t = c at i1 i2 ⊢
    have a1 := V_rng hf t (2 * p)
    have a2 := V_rng hf t (2 * p + 1)
    have b1 := V_rng hg t (2 * p)
    have b2 := V_rng hg t (2 * p + 1)
    show (!decide (P (V f t (2 * p)) (V f t (2 * p + 1)) = P (V g t (2 * p)) (V g t (2 * p + 1)))) = _
    unfold dif at i1 i2
    by_cases e1 : 2 * p = c
    · have e2 : ¬ (2 * p + 1 = c) := by omega
      rw [decide_eq_true e1] at i1
      rw [decide_eq_false e2] at i2
      have n1 : ¬ V f t (2 * p) = V g t (2 * p) := by simpa using i1
      have n2 : V f t (2 * p + 1) = V g t (2 * p + 1) := by simpa using i2
      rw [n2, decide_eq_false fun q => n1 (P_left a1 b1 q), decide_eq_true (by omega)]
      rfl
    · by_cases e2 : 2 * p + 1 = c
      · rw [decide_eq_false e1] at i1
        rw [decide_eq_true e2] at i2
        have n1 : V f t (2 * p) = V g t (2 * p) := by simpa using i1
        have n2 : ¬ V f t (2 * p + 1) = V g t (2 * p + 1) := by simpa using i2
        rw [n1, decide_eq_false fun q => n2 (P_right a2 b2 q), decide_eq_true (by omega)]
        rfl
      · rw [decide_eq_false e1] at i1
        rw [decide_eq_false e2] at i2
        have n1 : V f t (2 * p) = V g t (2 * p) := by simpa using i1
        have n2 : V f t (2 * p + 1) = V g t (2 * p + 1) := by simpa using i2
        rw [n1, n2, decide_eq_true rfl, decide_eq_false (by omega)]
        rfl
theorem one_ul {f g : Nat → Int} (hf : In f) (hg : In g) {k : Nat} (h : df f g = [k]) : ∀ s, s ≤ 4 → ul f g s = [k / 2 ^ (4 - s)]
  | 0, _ => by
    have hk : k < 16 := by
      have : k ∈ df f g := by rw [h]; exact List.mem_singleton.mpr rfl
      exact List.mem_range.mp (List.mem_filter.mp this).1
    have d := one_dif hf hg h 4 (by omega) 0 (by decide)
    have e : k / 2 ^ 4 = 0 := by rw [Nat.div_eq_zero_iff]; exact .inr hk
    rw [e, decide_eq_true rfl] at d
    show ([0] : List Nat).filter (dif f g 4) = _
    rw [List.filter_cons_of_pos d]
    show [0] = [k / 2 ^ 4]
    rw [e]
  | s + 1, hs => by
    have ih := one_ul hf hg h s (by omega)
    have hk : k / 2 ^ (4 - s) = k / 2 ^ (4 - (s + 1)) / 2 := by rw [show 4 - s = 4 - (s + 1) + 1 by omega, Nat.pow_succ, Nat.div_div_eq_div_mul]
    have hl := ul_lt f g s (k / 2 ^ (4 - s)) (by rw [ih]; exact List.mem_singleton.mpr rfl)
    have d := one_dif hf hg h (4 - (s + 1)) (by omega)
    rw [show 4 - (4 - (s + 1)) = s + 1 by omega, Nat.pow_succ] at d
    rw [hk] at hl ih
    rw [ul_s, pl_s, ih]
    generalize k / 2 ^ (4 - (s + 1)) = c at *
    have d1 := d (2 * (c / 2)) (by omega)
    have d2 := d (2 * (c / 2) + 1) (by omega)
    show ([2 * (c / 2), 2 * (c / 2) + 1] : List Nat).filter (dif f g (4 - (s + 1))) = [c]
    by_cases e : 2 * (c / 2) = c
    · rw [decide_eq_true e] at d1
      rw [decide_eq_false (by omega)] at d2
      rw [List.filter_cons_of_pos d1, List.filter_cons_of_neg (by rw [d2]; exact Bool.false_ne_true), e]
      rfl
    · rw [decide_eq_false e] at d1
      rw [decide_eq_true (by omega)] at d2
      rw [List.filter_cons_of_neg (by rw [d1]; exact Bool.false_ne_true), List.filter_cons_of_pos d2]
      show [2 * (c / 2) + 1] = [c]
      rw [show 2 * (c / 2) + 1 = c by omega]
theorem one_res {f g : Nat → Int} (hf : In f) (hg : In g) (h : (df f g).length = 1) : res f g = .tuple [.tuple (nI (df f g)), .int 9] := by
  obtain ⟨k, hk⟩ := List.length_eq_one_iff.mp h
  have u := one_ul hf hg hk
  have e : ul f g 4 = df f g := by
    rw [u 4 (by omega), hk]
    show [k / 1] = [k]
    rw [Nat.div_one]
  have pls : ∀ s, s ≤ 3 → (pl f g (s + 1)).length = 2 := fun s hs => by rw [pl_s, dbl2_len, u s (by omega)]; rfl
  have el : lk' f g 5 = 9 := by
    show 0 + (pl f g 0).length + (pl f g 1).length + (pl f g 2).length + (pl f g 3).length + (pl f g 4).length = 9
    rw [pls 0 (by omega), pls 1 (by omega), pls 2 (by omega), pls 3 (by omega)]
    rfl
  unfold res
  rw [e, el]
  rfl
/-! ### both are right -/
theorem nI_I (l : List Nat) : nI l = (l.map fun i : Nat => (i : Int)).map .int := by
  unfold nI
  rw [List.map_map]
  rfl
theorem lk_nI {n : Nat} {l : List Nat} (h : l.length ≤ 1000) : lk (n + 2) (.tuple (nI l)) = true := by
  rw [nI_I]
  exact lk_tuI (by rw [List.length_map]; exact h)
theorem ul_len4 (f g : Nat → Int) : (ul f g 4).length ≤ 16 := Nat.le_trans (ul_len f g 4) (pl_len f g 4)
theorem df_len (f g : Nat → Int) : (df f g).length ≤ 16 := by
  have := List.length_filter_le (dif f g 0) (List.range 16)
  rw [List.length_range] at this
  exact this
theorem lk_pair {n : Nat} {l : List Nat} {i : Int} (h : l.length ≤ 1000) : lk (n + 3) (.tuple [.tuple (nI l), .int i]) = true := lk_tup (fun x hx => by
  simp only [List.mem_cons, List.not_mem_nil, or_false] at hx
  rcases hx with rfl | rfl
  · exact lk_nI h
  · rfl) (by show 2 ≤ 1000; omega)
theorem okD_pair (l : List Nat) (i : Int) : okD (.tuple [.tuple (nI l), .int i]) = true := by
  rw [nI_I]
  exact okD_of (α := Tup Int × Int) (⟨l.map fun i : Nat => (i : Int)⟩, i)
theorem ne_refl (d : PyData) (h : okD d = true) : opNe2 (.d d) (.d d) = some (.d (.bool false)) := by
  unfold opNe2 opD2
  show (if (okD d && okD d) = true then some (R.d (.bool (!PyData.eqv d d))) else none) = _
  rw [if_pos (by rw [h]; rfl), PySem.SeqAt.eqv_refl_plain d (okD_1 h)]
  rfl
def bE (f g : Nat → Int) (s4 s5 s6 s7 : Option S) : PV.Env := [some (.d (levs f)), some (.d (levs g)), some (.d (levs f)), some (.d (levs g)), s4, s5, s6, s7]
theorem both_ok {f g : Nat → Int} (hf : In f) (hg : In g) : F__law_both_right [levs f, levs g, levs f, levs g] = some (.d (.bool true)) := by
  have k2 : (2 : Nat) ≤ LIM := lim_small' (by omega)
  have k4 : (4 : Nat) ≤ LIM := lim_small' (by omega)
  have k0 : (0 : Nat) ≤ LIM := Nat.zero_le _
  have u1 := unlike_ok f g
  have u2 := unlike_ok g f
  rw [res_symm g f] at u2
  have u3 := unlike_ok f f
  rw [res_self] at u3
  have s1 : S__law_both_right_1 (bE f g none none none none) = some (.nx (bE f g (some (.d (res f g))) none none none)) := by
    unfold S__law_both_right_1 bE
    simp only [mkF, sSeq, sSet, sIf, sRet, sRetN, sNext, sBrk, sCont, sDrop, sFrz, freeze, sPar, putAll, putR, outR, sAsg, sApp, sExt, sPop, sSetIx, sAug, sFor, ownAt, eVar, eC, bind1, bind2, bindA, aCons, aNil, op1, tb, tT', tru, isB, bAnd, bOr, bNot, eAnd, eOr, eNot, eIf, eTup, eLst, toD, toDs, eSl, pNo, pAt, eCall, isBor, noLR, fInt, fList, fTuple, unNeg, gNm, gTp, gAll, iRg1, iRg2, iSeq, itsOf, sv, lv, dv, tYesB, List.map_cons, List.map_nil, List.append_eq, List.cons_append, List.nil_append, List.replicate_succ, List.replicate_zero, Option.bind_some, Option.bind_none, Option.map_some, Option.map_none, Option.some_or, Option.none_or, List.getElem?_cons_zero, List.getElem?_cons_succ, List.set_cons_zero, List.set_cons_succ, List.length_cons, List.length_nil, List.any_cons, List.any_nil, if_true, if_false, ite_true, ite_false, Bool.false_eq_true, reduceIte, Nat.reduceAdd, Nat.reduceSub, Nat.reduceLT, Nat.reduceLeDiff, Bool.or_false, Bool.false_or, Bool.or_self, Bool.not_true, Bool.not_false, law_unlike_ok]
  have l1 := like_ok (d := .tuple [res f g, res f g]) (lk_tup (fun x hx => by
    simp only [List.mem_cons, List.not_mem_nil, or_false, or_self] at hx
    rw [hx]
    exact lk_pair (Nat.le_trans (ul_len4 f g) (by omega))) (by show 2 ≤ 1000; omega))
  have s2 : S__law_both_right_2 (bE f g (some (.d (res f g))) none none none) = some (.nx (bE f g (some (.d (res f g))) none none none)) := by
    unfold S__law_both_right_2 bE
    simp only [mkF, sSeq, sSet, sIf, sRet, sRetN, sNext, sBrk, sCont, sDrop, sFrz, freeze, sPar, putAll, putR, outR, sAsg, sApp, sExt, sPop, sSetIx, sAug, sFor, ownAt, eVar, eC, bind1, bind2, bindA, aCons, aNil, op1, tb, tT', tru, isB, bAnd, bOr, bNot, eAnd, eOr, eNot, eIf, eTup, eLst, toD, toDs, eSl, pNo, pAt, eCall, isBor, noLR, fInt, fList, fTuple, unNeg, gNm, gTp, gAll, iRg1, iRg2, iSeq, itsOf, sv, lv, dv, tYesB, List.map_cons, List.map_nil, List.append_eq, List.cons_append, List.nil_append, List.replicate_succ, List.replicate_zero, Option.bind_some, Option.bind_none, Option.map_some, Option.map_none, Option.some_or, Option.none_or, List.getElem?_cons_zero, List.getElem?_cons_succ, List.set_cons_zero, List.set_cons_succ, List.length_cons, List.length_nil, List.any_cons, List.any_nil, if_true, if_false, ite_true, ite_false, Bool.false_eq_true, reduceIte, Nat.reduceAdd, Nat.reduceSub, Nat.reduceLT, Nat.reduceLeDiff, Bool.or_false, Bool.false_or, Bool.or_self, Bool.not_true, Bool.not_false, u1, u2, k2, l1]
  have s3 : S__law_both_right_3 (bE f g (some (.d (res f g))) none none none) = some (.nx (bE f g (some (.d (res f g))) (some (.d (.tuple (nI (df f g))))) none none)) := by
    have c1 := dfc (env := bE f g (some (.d (res f g))) none none none) (f := f) (g := g) (i := 2) (j := 3) (k := 7) (it := iRg1 (aCons (eC (.int 16)) (aNil))) (by
      have rg := rg1_i (n := 16) (by omega)
      exact rg) (fun _ => rfl) (fun _ => rfl) (fun _ => rfl)
    unfold S__law_both_right_3
    generalize eLc (iRg1 (aCons (eC (.int 16)) (aNil))) [7] (gNm 7) (tb (bind2 opNe2 (bind2 opIx (bind2 opIx (eVar 2) (eC (.int 0))) (eVar 7)) (bind2 opIx (bind2 opIx (eVar 3) (eC (.int 0))) (eVar 7)))) (eVar 7) = C1 at c1 ⊢
    unfold bE at c1 ⊢
    simp only [mkF, sSeq, sSet, sIf, sRet, sRetN, sNext, sBrk, sCont, sDrop, sFrz, freeze, sPar, putAll, putR, outR, sAsg, sApp, sExt, sPop, sSetIx, sAug, sFor, ownAt, eVar, eC, bind1, bind2, bindA, aCons, aNil, op1, tb, tT', tru, isB, bAnd, bOr, bNot, eAnd, eOr, eNot, eIf, eTup, eLst, toD, toDs, eSl, pNo, pAt, eCall, isBor, noLR, fInt, fList, fTuple, unNeg, gNm, gTp, gAll, iRg1, iRg2, iSeq, itsOf, sv, lv, dv, tYesB, List.map_cons, List.map_nil, List.append_eq, List.cons_append, List.nil_append, List.replicate_succ, List.replicate_zero, Option.bind_some, Option.bind_none, Option.map_some, Option.map_none, Option.some_or, Option.none_or, List.getElem?_cons_zero, List.getElem?_cons_succ, List.set_cons_zero, List.set_cons_succ, List.length_cons, List.length_nil, List.any_cons, List.any_nil, if_true, if_false, ite_true, ite_false, Bool.false_eq_true, reduceIte, Nat.reduceAdd, Nat.reduceSub, Nat.reduceLT, Nat.reduceLeDiff, Bool.or_false, Bool.false_or, Bool.or_self, Bool.not_true, Bool.not_false, c1]
  have i0 : opIx (.d (res f g)) (.d (.int 0)) = some (.d (.tuple (nI (ul f g 4)))) := rfl
  have s4 : S__law_both_right_4 (bE f g (some (.d (res f g))) (some (.d (.tuple (nI (df f g))))) none none) = some (.nx (bE f g (some (.d (res f g))) (some (.d (.tuple (nI (df f g))))) none none)) := by
    have c1 : eLc (iSeq false (bind2 opIx (eVar 4) (eC (.int 0)))) [7] (gNm 7) (tYesB) (bind2 opIn (eVar 7) (eVar 5)) (bE f g (some (.d (res f g))) (some (.d (.tuple (nI (df f g))))) none none) = some (.own ((List.replicate (ul f g 4).length (.bool true)))) := by
      have h4 := ul_len4 f g
      rw [own_xs (α := Nat) (xs := ul f g 4) (fun i => .int (i : Nat)) (by omega) (fun _ => .bool true) rfl]
      · rw [List.map_const']
      · intro x hx
        have hin : opIn (.d (.int (x : Nat))) (.d (.tuple (nI (df f g)))) = some (.d (.bool true)) := by
          rw [in_of (r := .d (.int (x : Nat))) (q := .d (.tuple (nI (df f g)))) (α := Int) (x : Int) ((df f g).map fun i : Nat => (i : Int)) rfl (.inr (congrArg PyData.tuple (nI_I (df f g)))), decide_eq_true (List.mem_map.mpr ⟨x, ul_df f g x hx, rfl⟩)]
        refine ⟨_, rfl, ?_⟩
        simp only [bE, wipeE, mkF, sSeq, sSet, sIf, sRet, sRetN, sNext, sBrk, sCont, sDrop, sFrz, freeze, sPar, putAll, putR, outR, sAsg, sApp, sExt, sPop, sSetIx, sAug, sFor, ownAt, eVar, eC, bind1, bind2, bindA, aCons, aNil, op1, tb, tT', tru, isB, bAnd, bOr, bNot, eAnd, eOr, eNot, eIf, eTup, eLst, toD, toDs, eSl, pNo, pAt, eCall, isBor, noLR, fInt, fList, fTuple, unNeg, gNm, gTp, gAll, iRg1, iRg2, iSeq, itsOf, sv, lv, dv, tYesB, List.map_cons, List.map_nil, List.append_eq, List.cons_append, List.nil_append, List.replicate_succ, List.replicate_zero, Option.bind_some, Option.bind_none, Option.map_some, Option.map_none, Option.some_or, Option.none_or, List.getElem?_cons_zero, List.getElem?_cons_succ, List.set_cons_zero, List.set_cons_succ, List.length_cons, List.length_nil, List.any_cons, List.any_nil, if_true, if_false, ite_true, ite_false, Bool.false_eq_true, reduceIte, Nat.reduceAdd, Nat.reduceSub, Nat.reduceLT, Nat.reduceLeDiff, Bool.or_false, Bool.false_or, Bool.or_self, Bool.not_true, Bool.not_false, hin]
    have ll : fLen (.d (.tuple (nI (df f g)))) = some (.d (.int ((df f g).length : Nat))) := by rw [len_tup, nI_len]
    have k := fAll_true (ul f g 4).length
    unfold S__law_both_right_4
    generalize eLc (iSeq false (bind2 opIx (eVar 4) (eC (.int 0)))) [7] (gNm 7) (tYesB) (bind2 opIn (eVar 7) (eVar 5)) = C1 at c1 ⊢
    by_cases h : (df f g).length = 1
    · have g1 : opEq2 (.d (.int ((df f g).length : Nat))) (.d (.int 1)) = some (.d (.bool true)) := by rw [eq_i, decide_eq_true (by omega)]
      have n1 : opNe2 (.d (res f g)) (.d (.tuple [.tuple (nI (df f g)), .int 9])) = some (.d (.bool false)) := by
        rw [one_res hf hg h]
        exact ne_refl _ (okD_pair _ _)
      unfold bE at c1 ⊢
      simp only [mkF, sSeq, sSet, sIf, sRet, sRetN, sNext, sBrk, sCont, sDrop, sFrz, freeze, sPar, putAll, putR, outR, sAsg, sApp, sExt, sPop, sSetIx, sAug, sFor, ownAt, eVar, eC, bind1, bind2, bindA, aCons, aNil, op1, tb, tT', tru, isB, bAnd, bOr, bNot, eAnd, eOr, eNot, eIf, eTup, eLst, toD, toDs, eSl, pNo, pAt, eCall, isBor, noLR, fInt, fList, fTuple, unNeg, gNm, gTp, gAll, iRg1, iRg2, iSeq, itsOf, sv, lv, dv, tYesB, List.map_cons, List.map_nil, List.append_eq, List.cons_append, List.nil_append, List.replicate_succ, List.replicate_zero, Option.bind_some, Option.bind_none, Option.map_some, Option.map_none, Option.some_or, Option.none_or, List.getElem?_cons_zero, List.getElem?_cons_succ, List.set_cons_zero, List.set_cons_succ, List.length_cons, List.length_nil, List.any_cons, List.any_nil, if_true, if_false, ite_true, ite_false, Bool.false_eq_true, reduceIte, Nat.reduceAdd, Nat.reduceSub, Nat.reduceLT, Nat.reduceLeDiff, Bool.or_false, Bool.false_or, Bool.or_self, Bool.not_true, Bool.not_false, c1, k, ll, g1, n1, k2]
    · have g1 : opEq2 (.d (.int ((df f g).length : Nat))) (.d (.int 1)) = some (.d (.bool false)) := by rw [eq_i, decide_eq_false (by omega)]
      unfold bE at c1 ⊢
      simp only [mkF, sSeq, sSet, sIf, sRet, sRetN, sNext, sBrk, sCont, sDrop, sFrz, freeze, sPar, putAll, putR, outR, sAsg, sApp, sExt, sPop, sSetIx, sAug, sFor, ownAt, eVar, eC, bind1, bind2, bindA, aCons, aNil, op1, tb, tT', tru, isB, bAnd, bOr, bNot, eAnd, eOr, eNot, eIf, eTup, eLst, toD, toDs, eSl, pNo, pAt, eCall, isBor, noLR, fInt, fList, fTuple, unNeg, gNm, gTp, gAll, iRg1, iRg2, iSeq, itsOf, sv, lv, dv, tYesB, List.map_cons, List.map_nil, List.append_eq, List.cons_append, List.nil_append, List.replicate_succ, List.replicate_zero, Option.bind_some, Option.bind_none, Option.map_some, Option.map_none, Option.some_or, Option.none_or, List.getElem?_cons_zero, List.getElem?_cons_succ, List.set_cons_zero, List.set_cons_succ, List.length_cons, List.length_nil, List.any_cons, List.any_nil, if_true, if_false, ite_true, ite_false, Bool.false_eq_true, reduceIte, Nat.reduceAdd, Nat.reduceSub, Nat.reduceLT, Nat.reduceLeDiff, Bool.or_false, Bool.false_or, Bool.or_self, Bool.not_true, Bool.not_false, c1, k, ll, g1]
  have f1 := is_found_ok f g
  have f2 := is_found_ok g f
  rw [ul_symm g f, df_symm g f] at f2
  have f3 := is_found_ok f f
  rw [ul_self, df_self, decide_eq_true rfl] at f3
  have s5 : S__law_both_right_5 (bE f g (some (.d (res f g))) (some (.d (.tuple (nI (df f g))))) none none) = some (.nx (bE f g (some (.d (res f g))) (some (.d (.tuple (nI (df f g))))) (some (.d (.tuple [.bool (decide (ul f g 4 = df f g)), .bool (decide (ul f g 4 = df f g)), .tuple [.tuple [], .int 1], .bool true]))) none)) := by
    unfold S__law_both_right_5 bE
    simp only [mkF, sSeq, sSet, sIf, sRet, sRetN, sNext, sBrk, sCont, sDrop, sFrz, freeze, sPar, putAll, putR, outR, sAsg, sApp, sExt, sPop, sSetIx, sAug, sFor, ownAt, eVar, eC, bind1, bind2, bindA, aCons, aNil, op1, tb, tT', tru, isB, bAnd, bOr, bNot, eAnd, eOr, eNot, eIf, eTup, eLst, toD, toDs, eSl, pNo, pAt, eCall, isBor, noLR, fInt, fList, fTuple, unNeg, gNm, gTp, gAll, iRg1, iRg2, iSeq, itsOf, sv, lv, dv, tYesB, List.map_cons, List.map_nil, List.append_eq, List.cons_append, List.nil_append, List.replicate_succ, List.replicate_zero, Option.bind_some, Option.bind_none, Option.map_some, Option.map_none, Option.some_or, Option.none_or, List.getElem?_cons_zero, List.getElem?_cons_succ, List.set_cons_zero, List.set_cons_succ, List.length_cons, List.length_nil, List.any_cons, List.any_nil, if_true, if_false, ite_true, ite_false, Bool.false_eq_true, reduceIte, Nat.reduceAdd, Nat.reduceSub, Nat.reduceLT, Nat.reduceLeDiff, Bool.or_false, Bool.false_or, Bool.or_self, Bool.not_true, Bool.not_false, f1, f2, f3, u3, k4]
  have e1 := eqN (ul f g 4) (df f g)
  have l2 := like_ok (d := .tuple [.bool (decide (ul f g 4 = df f g)), .bool (decide (ul f g 4 = df f g)), .tuple [.tuple [], .int 1], .bool true]) (by
    generalize decide (ul f g 4 = df f g) = b
    cases b <;> decide)
  have s6 : S__law_both_right_6 (bE f g (some (.d (res f g))) (some (.d (.tuple (nI (df f g))))) (some (.d (.tuple [.bool (decide (ul f g 4 = df f g)), .bool (decide (ul f g 4 = df f g)), .tuple [.tuple [], .int 1], .bool true]))) none) = some (.rt (.d (.bool true))) := by
    unfold S__law_both_right_6 bE
    simp only [mkF, sSeq, sSet, sIf, sRet, sRetN, sNext, sBrk, sCont, sDrop, sFrz, freeze, sPar, putAll, putR, outR, sAsg, sApp, sExt, sPop, sSetIx, sAug, sFor, ownAt, eVar, eC, bind1, bind2, bindA, aCons, aNil, op1, tb, tT', tru, isB, bAnd, bOr, bNot, eAnd, eOr, eNot, eIf, eTup, eLst, toD, toDs, eSl, pNo, pAt, eCall, isBor, noLR, fInt, fList, fTuple, unNeg, gNm, gTp, gAll, iRg1, iRg2, iSeq, itsOf, sv, lv, dv, tYesB, List.map_cons, List.map_nil, List.append_eq, List.cons_append, List.nil_append, List.replicate_succ, List.replicate_zero, Option.bind_some, Option.bind_none, Option.map_some, Option.map_none, Option.some_or, Option.none_or, List.getElem?_cons_zero, List.getElem?_cons_succ, List.set_cons_zero, List.set_cons_succ, List.length_cons, List.length_nil, List.any_cons, List.any_nil, if_true, if_false, ite_true, ite_false, Bool.false_eq_true, reduceIte, Nat.reduceAdd, Nat.reduceSub, Nat.reduceLT, Nat.reduceLeDiff, Bool.or_false, Bool.false_or, Bool.or_self, Bool.not_true, Bool.not_false, i0, e1, k4, k2, k0, l2]
  refine F_of rfl rfl ?_ rfl
  show B__law_both_right (bE f g none none none none) = _
  unfold B__law_both_right
  rw [seq_nx s1, seq_nx s2, seq_nx s3, seq_nx s4, seq_nx s5, s6]
end LW19

namespace LW19
open PySem L2 PV PySem.W
/-! ### proofs -/
def sib (p : Nat) : Nat := p + 1 - 2 * (p % 2)
theorem sib_lt (key t : Nat) (hk : key < 16) (ht : t < 4) : key / 2 ^ t < 16 / 2 ^ t ∧ sib (key / 2 ^ t) < 16 / 2 ^ t := by
  unfold sib
  match t, ht with
  | 0, _ => simp only [Nat.pow_zero, Nat.div_one]; omega
  | 1, _ => show key / 2 < 8 ∧ key / 2 + 1 - 2 * (key / 2 % 2) < 8; omega
  | 2, _ => show key / 4 < 4 ∧ key / 4 + 1 - 2 * (key / 4 % 2) < 4; omega
  | 3, _ => show key / 8 < 2 ∧ key / 8 + 1 - 2 * (key / 8 % 2) < 2; omega
def nb (f : Nat → Int) (key t : Nat) : Int := V f t (sib (key / 2 ^ t))
def nbs (f : Nat → Int) (key i : Nat) : List Int := (List.range i).map (nb f key)
theorem nbs_len (f : Nat → Int) (key i : Nat) : (nbs f key i).length = i := by unfold nbs; rw [List.length_map, List.length_range]
theorem nbs_succ (f : Nat → Int) (key i : Nat) : (nbs f key i).map PyData.int ++ [.int (nb f key i)] = (nbs f key (i + 1)).map .int := by
  unfold nbs
  rw [List.range_succ, List.map_append, List.map_append]
  rfl
theorem sib_ix (f : Nat → Int) (key t : Nat) (hk : key < 16) (ht : t < 4) : opIx (.d (tuI (lw f t (16 / 2 ^ t)))) (.d (.int (((key / 2 ^ t : Nat) : Int) + 1 - 2 * (((key / 2 ^ t : Nat) : Int) % 2)))) = some (.d (.int (nb f key t))) := by
  have h := (sib_lt key t hk ht).2
  have e : ((key / 2 ^ t : Nat) : Int) + 1 - 2 * (((key / 2 ^ t : Nat) : Int) % 2) = (sib (key / 2 ^ t) : Nat) := by
    unfold sib
    generalize key / 2 ^ t = c
    omega
  rw [e]
  exact lev_ix f t _ _ h
theorem half (key t : Nat) : ((key / 2 ^ t : Nat) : Int) / 2 = ((key / 2 ^ (t + 1) : Nat) : Int) := by
  rw [Nat.pow_succ, ← Nat.div_div_eq_div_mul]
  rfl
def oE (f : Nat → Int) (key i : Nat) (l : Option S) : PV.Env := [some (.d (levs f)), some (.d (.int (key : Nat))), some (.own ((nbs f key i).map .int)), some (.d (.int (key / 2 ^ i : Nat))), l]
theorem proof_of_ok (f : Nat → Int) (key : Nat) (hk : key < 16) : F_proof_of [levs f, .int (key : Nat)] = some (.d (tuI (nbs f key 4))) := by
  have s12 : S_proof_of_1 [some (.d (levs f)), some (.d (.int (key : Nat))), none, none, none] = some (.nx [some (.d (levs f)), some (.d (.int (key : Nat))), some (.own []), none, none]) := by
    have k0 : (0 : Nat) ≤ LIM := Nat.zero_le _
    unfold S_proof_of_1
    simp only [mkF, sSeq, sSet, sIf, sRet, sRetN, sNext, sBrk, sCont, sDrop, sFrz, freeze, sPar, putAll, putR, outR, sAsg, sApp, sExt, sPop, sSetIx, sAug, sFor, ownAt, eVar, eC, bind1, bind2, bindA, aCons, aNil, op1, tb, tT', tru, isB, bAnd, bOr, bNot, eAnd, eOr, eNot, eIf, eTup, eLst, toD, toDs, eSl, pNo, pAt, eCall, isBor, noLR, fInt, fList, fTuple, unNeg, gNm, gTp, gAll, iRg1, iRg2, iSeq, itsOf, sv, lv, dv, tYesB, List.map_cons, List.map_nil, List.append_eq, List.cons_append, List.nil_append, List.replicate_succ, List.replicate_zero, Option.bind_some, Option.bind_none, Option.map_some, Option.map_none, Option.some_or, Option.none_or, List.getElem?_cons_zero, List.getElem?_cons_succ, List.set_cons_zero, List.set_cons_succ, List.length_cons, List.length_nil, List.any_cons, List.any_nil, if_true, if_false, ite_true, ite_false, Bool.false_eq_true, reduceIte, Nat.reduceAdd, Nat.reduceSub, Nat.reduceLT, Nat.reduceLeDiff, Bool.or_false, Bool.false_or, Bool.or_self, Bool.not_true, Bool.not_false, k0]
  have s2 : S_proof_of_2 [some (.d (levs f)), some (.d (.int (key : Nat))), some (.own []), none, none] = some (.nx (oE f key 0 none)) := by
    unfold S_proof_of_2 oE
    rw [Nat.pow_zero, Nat.div_one]
    rfl
  obtain ⟨env', e, l, rfl⟩ := for_enc (tg := gNm 4) (body := P_proof_of_1) (fun t : Nat => tuI (lw f t (16 / 2 ^ t))) (fun i env => ∃ l, env = oE f key i l) (List.range 4) (env := oE f key 0 none) ⟨none, rfl⟩ (by
    rintro i t env hi ⟨l, rfl⟩
    have hi5 := (List.getElem?_eq_some_iff.mp hi).1
    rw [List.length_range] at hi5
    rw [List.getElem?_range hi5] at hi
    cases hi
    have ix := sib_ix f key i hk hi5
    have m2 := mod_i (i := ((key / 2 ^ i : Nat) : Int)) (j := 2) (by omega)
    have m1 := mulI 2 (((key / 2 ^ i : Nat) : Int) % 2) (by omega)
    have hdv := fdiv_i (i := ((key / 2 ^ i : Nat) : Int)) (j := 2) (by omega) (by omega)
    rw [half] at hdv
    have hl : ((nbs f key i).map PyData.int).length < LIM := lim_small (by rw [List.length_map, nbs_len]; omega)
    have hs := nbs_succ f key i
    have st : P_proof_of_1 (oE f key i (some (.d (tuI (lw f i (16 / 2 ^ i)))))) = some (.nx (oE f key (i + 1) (some (.d (tuI (lw f i (16 / 2 ^ i))))))) := by
      unfold P_proof_of_1 oE
      simp only [mkF, sSeq, sSet, sIf, sRet, sRetN, sNext, sBrk, sCont, sDrop, sFrz, freeze, sPar, putAll, putR, outR, sAsg, sApp, sExt, sPop, sSetIx, sAug, sFor, ownAt, eVar, eC, bind1, bind2, bindA, aCons, aNil, op1, tb, tT', tru, isB, bAnd, bOr, bNot, eAnd, eOr, eNot, eIf, eTup, eLst, toD, toDs, eSl, pNo, pAt, eCall, isBor, noLR, fInt, fList, fTuple, unNeg, gNm, gTp, gAll, iRg1, iRg2, iSeq, itsOf, sv, lv, dv, tYesB, List.map_cons, List.map_nil, List.append_eq, List.cons_append, List.nil_append, List.replicate_succ, List.replicate_zero, Option.bind_some, Option.bind_none, Option.map_some, Option.map_none, Option.some_or, Option.none_or, List.getElem?_cons_zero, List.getElem?_cons_succ, List.set_cons_zero, List.set_cons_succ, List.length_cons, List.length_nil, List.any_cons, List.any_nil, if_true, if_false, ite_true, ite_false, Bool.false_eq_true, reduceIte, Nat.reduceAdd, Nat.reduceSub, Nat.reduceLT, Nat.reduceLeDiff, Bool.or_false, Bool.false_or, Bool.or_self, Bool.not_true, Bool.not_false, m2, m1, add_i, sub_i, ix, hdv, hl, hs]
    exact ⟨_, _, rfl, st, _, .inl rfl, _, rfl⟩)
  rw [List.length_range] at e
  have s3 : S_proof_of_3 (oE f key 0 none) = some (.nx (oE f key 4 l)) := by
    unfold S_proof_of_3 sFor
    have hi : iSeq true (eSl (eVar 0) (pNo) (pAt (bind1 unNeg (eC (.int 1))))) (oE f key 0 none) = some ((List.range 4).map fun t : Nat => tuI (lw f t (16 / 2 ^ t))) := rfl
    rw [hi, Option.bind_some, e]
  have s4 : S_proof_of_4 (oE f key 4 l) = some (.rt (.d (tuI (nbs f key 4)))) := by
    unfold S_proof_of_4 oE tuI
    simp only [mkF, sSeq, sSet, sIf, sRet, sRetN, sNext, sBrk, sCont, sDrop, sFrz, freeze, sPar, putAll, putR, outR, sAsg, sApp, sExt, sPop, sSetIx, sAug, sFor, ownAt, eVar, eC, bind1, bind2, bindA, aCons, aNil, op1, tb, tT', tru, isB, bAnd, bOr, bNot, eAnd, eOr, eNot, eIf, eTup, eLst, toD, toDs, eSl, pNo, pAt, eCall, isBor, noLR, fInt, fList, fTuple, unNeg, gNm, gTp, gAll, iRg1, iRg2, iSeq, itsOf, sv, lv, dv, tYesB, List.map_cons, List.map_nil, List.append_eq, List.cons_append, List.nil_append, List.replicate_succ, List.replicate_zero, Option.bind_some, Option.bind_none, Option.map_some, Option.map_none, Option.some_or, Option.none_or, List.getElem?_cons_zero, List.getElem?_cons_succ, List.set_cons_zero, List.set_cons_succ, List.length_cons, List.length_nil, List.any_cons, List.any_nil, if_true, if_false, ite_true, ite_false, Bool.false_eq_true, reduceIte, Nat.reduceAdd, Nat.reduceSub, Nat.reduceLT, Nat.reduceLeDiff, Bool.or_false, Bool.false_or, Bool.or_self, Bool.not_true, Bool.not_false]
  refine F_of rfl rfl ?_ rfl
  show B_proof_of [some (.d (levs f)), some (.d (.int (key : Nat))), none, none, none] = _
  unfold B_proof_of
  rw [seq_nx s12, seq_nx s2, seq_nx s3, s4]
/-- what a proof leads a number to -/
def J (f : Nat → Int) (key : Nat) (x : Int) : Nat → Int
  | 0 => x
  | i + 1 => if key / 2 ^ i % 2 = 0 then P (J f key x i) (nb f key i) else P (nb f key i) (J f key x i)
theorem V_up (f : Nat → Int) (key i : Nat) : V f (i + 1) (key / 2 ^ (i + 1)) = if key / 2 ^ i % 2 = 0 then P (V f i (key / 2 ^ i)) (nb f key i) else P (nb f key i) (V f i (key / 2 ^ i)) := by
  have e : key / 2 ^ (i + 1) = key / 2 ^ i / 2 := by rw [Nat.pow_succ, Nat.div_div_eq_div_mul]
  rw [e]
  unfold nb sib
  generalize key / 2 ^ i = c
  show P (V f i (2 * (c / 2))) (V f i (2 * (c / 2) + 1)) = _
  by_cases h : c % 2 = 0
  · rw [if_pos h, show 2 * (c / 2) = c by omega, show c + 1 - 2 * (c % 2) = c + 1 by omega]
  · rw [if_neg h, show 2 * (c / 2) + 1 = c by omega, show 2 * (c / 2) = c + 1 - 2 * (c % 2) by omega]
theorem J_right (f : Nat → Int) (key : Nat) : ∀ i, J f key (f key) i = V f i (key / 2 ^ i)
  | 0 => by rw [Nat.pow_zero, Nat.div_one]; rfl
  | i + 1 => by
    rw [V_up, ← J_right f key i]
    rfl
theorem J_rng {f : Nat → Int} {key : Nat} {x : Int} (hx : 0 ≤ x ∧ x < 997) : ∀ i, 0 ≤ J f key x i ∧ J f key x i < 997
  | 0 => hx
  | i + 1 => by
    unfold J
    split
    · exact P_rng _ _
    · exact P_rng _ _
theorem J_wrong {f : Nat → Int} (hf : In f) {key : Nat} {x : Int} (hx : 0 ≤ x ∧ x < 997) (h : x ≠ f key) : ∀ i, J f key x i ≠ J f key (f key) i
  | 0 => h
  | i + 1 => fun e => by
    have ih := J_wrong hf hx h i
    have a := J_rng (f := f) (key := key) hx i
    have b := J_rng (f := f) (key := key) (hf key) i
    have e : (if key / 2 ^ i % 2 = 0 then P (J f key x i) (nb f key i) else P (nb f key i) (J f key x i)) = (if key / 2 ^ i % 2 = 0 then P (J f key (f key) i) (nb f key i) else P (nb f key i) (J f key (f key) i)) := e
    split at e
    · exact ih (P_left a b e)
    · exact ih (P_right a b e)
def jE (f : Nat → Int) (key : Nat) (x y : Int) (i : Nat) (l : Option S) : PV.Env := [some (.d (.int (key : Nat))), some (.d (.int (J f key x i))), some (.d (tuI (nbs f key 4))), some (.d (.int y)), some (.d (.int (key / 2 ^ i : Nat))), l]
theorem judge_ok (f : Nat → Int) (key : Nat) (x y : Int) : F_judge_proof [.int (key : Nat), .int x, tuI (nbs f key 4), .int y] = some (.d (.bool (decide (J f key x 4 = y)))) := by
  have s1 : S_judge_proof_1 [some (.d (.int (key : Nat))), some (.d (.int x)), some (.d (tuI (nbs f key 4))), some (.d (.int y)), none, none] = some (.nx (jE f key x y 0 none)) := by
    unfold S_judge_proof_1 jE
    rw [Nat.pow_zero, Nat.div_one]
    rfl
  obtain ⟨env', e, l, rfl⟩ := for_enc (tg := gNm 5) (body := P_judge_proof_1) (fun t : Nat => PyData.int (nb f key t)) (fun i env => ∃ l, env = jE f key x y i l) (List.range 4) (env := jE f key x y 0 none) ⟨none, rfl⟩ (by
    rintro i t env hi ⟨l, rfl⟩
    have hi5 := (List.getElem?_eq_some_iff.mp hi).1
    rw [List.length_range] at hi5
    rw [List.getElem?_range hi5] at hi
    cases hi
    have m2 := mod_i (i := ((key / 2 ^ i : Nat) : Int)) (j := 2) (by omega)
    have hdv := fdiv_i (i := ((key / 2 ^ i : Nat) : Int)) (j := 2) (by omega) (by omega)
    rw [half] at hdv
    have st : P_judge_proof_1 (jE f key x y i (some (.d (.int (nb f key i))))) = some (.nx (jE f key x y (i + 1) (some (.d (.int (nb f key i)))))) := by
      by_cases h : key / 2 ^ i % 2 = 0
      · have g : opEq2 (.d (.int (((key / 2 ^ i : Nat) : Int) % 2))) (.d (.int 0)) = some (.d (.bool true)) := by rw [eq_i, decide_eq_true (by omega)]
        have eJ : J f key x (i + 1) = P (J f key x i) (nb f key i) := if_pos h
        unfold P_judge_proof_1 jE
        rw [eJ]
        simp only [mkF, sSeq, sSet, sIf, sRet, sRetN, sNext, sBrk, sCont, sDrop, sFrz, freeze, sPar, putAll, putR, outR, sAsg, sApp, sExt, sPop, sSetIx, sAug, sFor, ownAt, eVar, eC, bind1, bind2, bindA, aCons, aNil, op1, tb, tT', tru, isB, bAnd, bOr, bNot, eAnd, eOr, eNot, eIf, eTup, eLst, toD, toDs, eSl, pNo, pAt, eCall, isBor, noLR, fInt, fList, fTuple, unNeg, gNm, gTp, gAll, iRg1, iRg2, iSeq, itsOf, sv, lv, dv, tYesB, List.map_cons, List.map_nil, List.append_eq, List.cons_append, List.nil_append, List.replicate_succ, List.replicate_zero, Option.bind_some, Option.bind_none, Option.map_some, Option.map_none, Option.some_or, Option.none_or, List.getElem?_cons_zero, List.getElem?_cons_succ, List.set_cons_zero, List.set_cons_succ, List.length_cons, List.length_nil, List.any_cons, List.any_nil, if_true, if_false, ite_true, ite_false, Bool.false_eq_true, reduceIte, Nat.reduceAdd, Nat.reduceSub, Nat.reduceLT, Nat.reduceLeDiff, Bool.or_false, Bool.false_or, Bool.or_self, Bool.not_true, Bool.not_false, m2, g, print_of_ok, hdv]
      · have g : opEq2 (.d (.int (((key / 2 ^ i : Nat) : Int) % 2))) (.d (.int 0)) = some (.d (.bool false)) := by rw [eq_i, decide_eq_false (by omega)]
        have eJ : J f key x (i + 1) = P (nb f key i) (J f key x i) := if_neg h
        unfold P_judge_proof_1 jE
        rw [eJ]
        simp only [mkF, sSeq, sSet, sIf, sRet, sRetN, sNext, sBrk, sCont, sDrop, sFrz, freeze, sPar, putAll, putR, outR, sAsg, sApp, sExt, sPop, sSetIx, sAug, sFor, ownAt, eVar, eC, bind1, bind2, bindA, aCons, aNil, op1, tb, tT', tru, isB, bAnd, bOr, bNot, eAnd, eOr, eNot, eIf, eTup, eLst, toD, toDs, eSl, pNo, pAt, eCall, isBor, noLR, fInt, fList, fTuple, unNeg, gNm, gTp, gAll, iRg1, iRg2, iSeq, itsOf, sv, lv, dv, tYesB, List.map_cons, List.map_nil, List.append_eq, List.cons_append, List.nil_append, List.replicate_succ, List.replicate_zero, Option.bind_some, Option.bind_none, Option.map_some, Option.map_none, Option.some_or, Option.none_or, List.getElem?_cons_zero, List.getElem?_cons_succ, List.set_cons_zero, List.set_cons_succ, List.length_cons, List.length_nil, List.any_cons, List.any_nil, if_true, if_false, ite_true, ite_false, Bool.false_eq_true, reduceIte, Nat.reduceAdd, Nat.reduceSub, Nat.reduceLT, Nat.reduceLeDiff, Bool.or_false, Bool.false_or, Bool.or_self, Bool.not_true, Bool.not_false, m2, g, print_of_ok, hdv]
    exact ⟨_, _, rfl, st, _, .inl rfl, _, rfl⟩)
  rw [List.length_range] at e
  have s2 : S_judge_proof_2 (jE f key x y 0 none) = some (.nx (jE f key x y 4 l)) := by
    show sFor (iSeq true (eVar 2)) (gNm 5) (P_judge_proof_1) (jE f key x y 0 none) = _
    unfold sFor
    have hi : iSeq true (eVar 2) (jE f key x y 0 none) = some ((List.range 4).map fun t : Nat => PyData.int (nb f key t)) := by
      show some ((nbs f key 4).map PyData.int) = _
      unfold nbs
      rw [List.map_map]
      rfl
    rw [hi, Option.bind_some, e]
  have s3 : S_judge_proof_3 (jE f key x y 4 l) = some (.rt (.d (.bool (decide (J f key x 4 = y))))) := by
    unfold S_judge_proof_3 jE
    simp only [mkF, sSeq, sSet, sIf, sRet, sRetN, sNext, sBrk, sCont, sDrop, sFrz, freeze, sPar, putAll, putR, outR, sAsg, sApp, sExt, sPop, sSetIx, sAug, sFor, ownAt, eVar, eC, bind1, bind2, bindA, aCons, aNil, op1, tb, tT', tru, isB, bAnd, bOr, bNot, eAnd, eOr, eNot, eIf, eTup, eLst, toD, toDs, eSl, pNo, pAt, eCall, isBor, noLR, fInt, fList, fTuple, unNeg, gNm, gTp, gAll, iRg1, iRg2, iSeq, itsOf, sv, lv, dv, tYesB, List.map_cons, List.map_nil, List.append_eq, List.cons_append, List.nil_append, List.replicate_succ, List.replicate_zero, Option.bind_some, Option.bind_none, Option.map_some, Option.map_none, Option.some_or, Option.none_or, List.getElem?_cons_zero, List.getElem?_cons_succ, List.set_cons_zero, List.set_cons_succ, List.length_cons, List.length_nil, List.any_cons, List.any_nil, if_true, if_false, ite_true, ite_false, Bool.false_eq_true, reduceIte, Nat.reduceAdd, Nat.reduceSub, Nat.reduceLT, Nat.reduceLeDiff, Bool.or_false, Bool.false_or, Bool.or_self, Bool.not_true, Bool.not_false, eq_i]
  refine F_of rfl rfl ?_ rfl
  show B_judge_proof [some (.d (.int (key : Nat))), some (.d (.int x)), some (.d (tuI (nbs f key 4))), some (.d (.int y)), none, none] = _
  unfold B_judge_proof
  rw [seq_nx s1, seq_nx s2, s3]
/-! the law's own -/
def rE (f g : Nat → Int) (key : Nat) (more : Int) (s6 s7 s8 s9 s10 : Option S) : PV.Env := [some (.d (levs f)), some (.d (levs f)), some (.d (levs g)), some (.d (levs g)), some (.d (.int (key : Nat))), some (.d (.int more)), s6, s7, s8, s9, s10]
theorem proof_right_ok {f g : Nat → Int} (hf : In f) (key : Nat) (hk : key < 16) (more : Int) (hm : 1 ≤ more ∧ more ≤ 996) : F__law_proof_right [levs f, levs f, levs g, levs g, .int (key : Nat), .int more] = some (.d (.bool true)) := by
  have k2 : (2 : Nat) ≤ LIM := lim_small' (by omega)
  have k0 : (0 : Nat) ≤ LIM := Nat.zero_le _
  have s1 : S__law_proof_right_1 (rE f g key more none none none none none) = some (.nx (rE f g key more (some (.own [])) (some (.d (.int (key : Nat)))) none none none)) := by
    unfold S__law_proof_right_1 rE
    simp only [mkF, sSeq, sSet, sIf, sRet, sRetN, sNext, sBrk, sCont, sDrop, sFrz, freeze, sPar, putAll, putR, outR, sAsg, sApp, sExt, sPop, sSetIx, sAug, sFor, ownAt, eVar, eC, bind1, bind2, bindA, aCons, aNil, op1, tb, tT', tru, isB, bAnd, bOr, bNot, eAnd, eOr, eNot, eIf, eTup, eLst, toD, toDs, eSl, pNo, pAt, eCall, isBor, noLR, fInt, fList, fTuple, unNeg, gNm, gTp, gAll, iRg1, iRg2, iSeq, itsOf, sv, lv, dv, tYesB, List.map_cons, List.map_nil, List.append_eq, List.cons_append, List.nil_append, List.replicate_succ, List.replicate_zero, Option.bind_some, Option.bind_none, Option.map_some, Option.map_none, Option.some_or, Option.none_or, List.getElem?_cons_zero, List.getElem?_cons_succ, List.set_cons_zero, List.set_cons_succ, List.length_cons, List.length_nil, List.any_cons, List.any_nil, if_true, if_false, ite_true, ite_false, Bool.false_eq_true, reduceIte, Nat.reduceAdd, Nat.reduceSub, Nat.reduceLT, Nat.reduceLeDiff, Bool.or_false, Bool.false_or, Bool.or_self, Bool.not_true, Bool.not_false, k0]
  obtain ⟨env', e, l, rfl⟩ := for_rg (tg := gNm 8) (body := P__law_proof_right_1) (fun i env => ∃ l, env = rE f g key more (some (.own ((nbs f key i).map .int))) (some (.d (.int (key / 2 ^ i : Nat)))) l none none) 4 (env := rE f g key more (some (.own [])) (some (.d (.int (key : Nat)))) none none none) ⟨none, by rw [Nat.pow_zero, Nat.div_one]; rfl⟩ (by
    rintro i env hi ⟨l, rfl⟩
    have lx := levs_ix f i (by omega)
    have ix := sib_ix f key i hk hi
    have m2 := mod_i (i := ((key / 2 ^ i : Nat) : Int)) (j := 2) (by omega)
    have m1 := mulI 2 (((key / 2 ^ i : Nat) : Int) % 2) (by omega)
    have hdv := fdiv_i (i := ((key / 2 ^ i : Nat) : Int)) (j := 2) (by omega) (by omega)
    rw [half] at hdv
    have hl : ((nbs f key i).map PyData.int).length < LIM := lim_small (by rw [List.length_map, nbs_len]; omega)
    have hs := nbs_succ f key i
    have st : P__law_proof_right_1 (rE f g key more (some (.own ((nbs f key i).map .int))) (some (.d (.int (key / 2 ^ i : Nat)))) (some (.d (.int (i : Nat)))) none none) = some (.nx (rE f g key more (some (.own ((nbs f key (i + 1)).map .int))) (some (.d (.int (key / 2 ^ (i + 1) : Nat)))) (some (.d (.int (i : Nat)))) none none)) := by
      unfold P__law_proof_right_1 rE
      simp only [mkF, sSeq, sSet, sIf, sRet, sRetN, sNext, sBrk, sCont, sDrop, sFrz, freeze, sPar, putAll, putR, outR, sAsg, sApp, sExt, sPop, sSetIx, sAug, sFor, ownAt, eVar, eC, bind1, bind2, bindA, aCons, aNil, op1, tb, tT', tru, isB, bAnd, bOr, bNot, eAnd, eOr, eNot, eIf, eTup, eLst, toD, toDs, eSl, pNo, pAt, eCall, isBor, noLR, fInt, fList, fTuple, unNeg, gNm, gTp, gAll, iRg1, iRg2, iSeq, itsOf, sv, lv, dv, tYesB, List.map_cons, List.map_nil, List.append_eq, List.cons_append, List.nil_append, List.replicate_succ, List.replicate_zero, Option.bind_some, Option.bind_none, Option.map_some, Option.map_none, Option.some_or, Option.none_or, List.getElem?_cons_zero, List.getElem?_cons_succ, List.set_cons_zero, List.set_cons_succ, List.length_cons, List.length_nil, List.any_cons, List.any_nil, if_true, if_false, ite_true, ite_false, Bool.false_eq_true, reduceIte, Nat.reduceAdd, Nat.reduceSub, Nat.reduceLT, Nat.reduceLeDiff, Bool.or_false, Bool.false_or, Bool.or_self, Bool.not_true, Bool.not_false, lx, m2, m1, add_i, sub_i, ix, hdv, hl, hs]
    exact ⟨_, _, rfl, st, _, .inl rfl, _, rfl⟩)
  have s2 : S__law_proof_right_2 (rE f g key more (some (.own [])) (some (.d (.int (key : Nat)))) none none none) = some (.nx (rE f g key more (some (.own ((nbs f key 4).map .int))) (some (.d (.int (key / 2 ^ 4 : Nat)))) l none none)) := by
    unfold S__law_proof_right_2 sFor
    have rg := rg1_c (i := 4) (by omega) (by omega)
    have hi : iRg1 (aCons (eC (.int 4)) (aNil)) (rE f g key more (some (.own [])) (some (.d (.int (key : Nat)))) none none none) = some (rngL 0 4) := rg
    rw [hi, Option.bind_some, e]
  have ik := lev_ix f 0 16 key hk
  let e3 : PV.Env := rE f g key more (some (.d (tuI (nbs f key 4)))) (some (.d (.int (key / 2 ^ 4 : Nat)))) l (some (.d (.int (f key)))) none
  have s3 : S__law_proof_right_3 (rE f g key more (some (.own ((nbs f key 4).map .int))) (some (.d (.int (key / 2 ^ 4 : Nat)))) l none none) = some (.nx (rE f g key more (some (.d (tuI (nbs f key 4)))) (some (.d (.int (key / 2 ^ 4 : Nat)))) l (some (.d (.int (f key)))) none)) := by
    have ik : opIx (.d (tuI (lw f 0 16))) (.d (.int (key : Nat))) = some (.d (.int (f key))) := ik
    unfold S__law_proof_right_3 rE
    simp only [mkF, sSeq, sSet, sIf, sRet, sRetN, sNext, sBrk, sCont, sDrop, sFrz, freeze, sPar, putAll, putR, outR, sAsg, sApp, sExt, sPop, sSetIx, sAug, sFor, ownAt, eVar, eC, bind1, bind2, bindA, aCons, aNil, op1, tb, tT', tru, isB, bAnd, bOr, bNot, eAnd, eOr, eNot, eIf, eTup, eLst, toD, toDs, eSl, pNo, pAt, eCall, isBor, noLR, fInt, fList, fTuple, unNeg, gNm, gTp, gAll, iRg1, iRg2, iSeq, itsOf, sv, lv, dv, tYesB, List.map_cons, List.map_nil, List.append_eq, List.cons_append, List.nil_append, List.replicate_succ, List.replicate_zero, Option.bind_some, Option.bind_none, Option.map_some, Option.map_none, Option.some_or, Option.none_or, List.getElem?_cons_zero, List.getElem?_cons_succ, List.set_cons_zero, List.set_cons_succ, List.length_cons, List.length_nil, List.any_cons, List.any_nil, if_true, if_false, ite_true, ite_false, Bool.false_eq_true, reduceIte, Nat.reduceAdd, Nat.reduceSub, Nat.reduceLT, Nat.reduceLeDiff, Bool.or_false, Bool.false_or, Bool.or_self, Bool.not_true, Bool.not_false, levs_0, ik]
    rfl
  have j1 := judge_ok f key (f key) (V f 4 0)
  have h4 : J f key (f key) 4 = V f 4 0 := by
    rw [J_right, show key / 2 ^ 4 = 0 by rw [Nat.div_eq_zero_iff]; exact .inr hk]
  rw [h4, decide_eq_true rfl] at j1
  have j3 := judge_ok f key (f key) (V g 4 0)
  rw [h4] at j3
  have hw := J_wrong hf (key := key) (x := (f key + more) % 997) (mod_lt (by omega)) (by have := hf key; omega) 4
  rw [h4] at hw
  have j2 := judge_ok f key ((f key + more) % 997) (V f 4 0)
  rw [decide_eq_false hw] at j2
  have p := proof_of_ok f key hk
  have x4 : ∀ f, opIx (.d (levs f)) (.d (.int 4)) = some (.d (tuI (lw f 4 1))) := fun f => rfl
  have x40 : ∀ f, opIx (.d (tuI (lw f 4 1))) (.d (.int 0)) = some (.d (.int (V f 4 0))) := fun f => rfl
  have l1 := like_ok (d := .tuple [tuI (nbs f key 4), .bool true]) (lk_tup (fun x hx => by
    simp only [List.mem_cons, List.not_mem_nil, or_false] at hx
    rcases hx with rfl | rfl
    · exact lk_tuI (by rw [nbs_len]; omega)
    · rfl) (by show 2 ≤ 1000; omega))
  generalize tuI (nbs f key 4) = due at *
  have s4 : S__law_proof_right_4 (rE f g key more (some (.d due)) (some (.d (.int (key / 2 ^ 4 : Nat)))) l (some (.d (.int (f key)))) none) = some (.nx (rE f g key more (some (.d due)) (some (.d (.int (key / 2 ^ 4 : Nat)))) l (some (.d (.int (f key)))) none)) := by
    unfold S__law_proof_right_4 rE
    simp only [mkF, sSeq, sSet, sIf, sRet, sRetN, sNext, sBrk, sCont, sDrop, sFrz, freeze, sPar, putAll, putR, outR, sAsg, sApp, sExt, sPop, sSetIx, sAug, sFor, ownAt, eVar, eC, bind1, bind2, bindA, aCons, aNil, op1, tb, tT', tru, isB, bAnd, bOr, bNot, eAnd, eOr, eNot, eIf, eTup, eLst, toD, toDs, eSl, pNo, pAt, eCall, isBor, noLR, fInt, fList, fTuple, unNeg, gNm, gTp, gAll, iRg1, iRg2, iSeq, itsOf, sv, lv, dv, tYesB, List.map_cons, List.map_nil, List.append_eq, List.cons_append, List.nil_append, List.replicate_succ, List.replicate_zero, Option.bind_some, Option.bind_none, Option.map_some, Option.map_none, Option.some_or, Option.none_or, List.getElem?_cons_zero, List.getElem?_cons_succ, List.set_cons_zero, List.set_cons_succ, List.length_cons, List.length_nil, List.any_cons, List.any_nil, if_true, if_false, ite_true, ite_false, Bool.false_eq_true, reduceIte, Nat.reduceAdd, Nat.reduceSub, Nat.reduceLT, Nat.reduceLeDiff, Bool.or_false, Bool.false_or, Bool.or_self, Bool.not_true, Bool.not_false, x4, x40, j1, p, k2, l1]
  have md := mod_i (i := f key + more) (j := 997) (by omega)
  have s5 : S__law_proof_right_5 (rE f g key more (some (.d due)) (some (.d (.int (key / 2 ^ 4 : Nat)))) l (some (.d (.int (f key)))) none) = some (.nx (rE f g key more (some (.d due)) (some (.d (.int (key / 2 ^ 4 : Nat)))) l (some (.d (.int (f key)))) (some (.d (.int ((f key + more) % 997)))))) := by
    unfold S__law_proof_right_5 rE
    simp only [mkF, sSeq, sSet, sIf, sRet, sRetN, sNext, sBrk, sCont, sDrop, sFrz, freeze, sPar, putAll, putR, outR, sAsg, sApp, sExt, sPop, sSetIx, sAug, sFor, ownAt, eVar, eC, bind1, bind2, bindA, aCons, aNil, op1, tb, tT', tru, isB, bAnd, bOr, bNot, eAnd, eOr, eNot, eIf, eTup, eLst, toD, toDs, eSl, pNo, pAt, eCall, isBor, noLR, fInt, fList, fTuple, unNeg, gNm, gTp, gAll, iRg1, iRg2, iSeq, itsOf, sv, lv, dv, tYesB, List.map_cons, List.map_nil, List.append_eq, List.cons_append, List.nil_append, List.replicate_succ, List.replicate_zero, Option.bind_some, Option.bind_none, Option.map_some, Option.map_none, Option.some_or, Option.none_or, List.getElem?_cons_zero, List.getElem?_cons_succ, List.set_cons_zero, List.set_cons_succ, List.length_cons, List.length_nil, List.any_cons, List.any_nil, if_true, if_false, ite_true, ite_false, Bool.false_eq_true, reduceIte, Nat.reduceAdd, Nat.reduceSub, Nat.reduceLT, Nat.reduceLeDiff, Bool.or_false, Bool.false_or, Bool.or_self, Bool.not_true, Bool.not_false, add_i, md]
  have nb1 : opNotB (.d (.bool false)) (.d (.bool false)) = some (.d (.bool false)) := rfl
  have s6 : S__law_proof_right_6 (rE f g key more (some (.d due)) (some (.d (.int (key / 2 ^ 4 : Nat)))) l (some (.d (.int (f key)))) (some (.d (.int ((f key + more) % 997))))) = some (.nx (rE f g key more (some (.d due)) (some (.d (.int (key / 2 ^ 4 : Nat)))) l (some (.d (.int (f key)))) (some (.d (.int ((f key + more) % 997)))))) := by
    unfold S__law_proof_right_6 rE
    simp only [mkF, sSeq, sSet, sIf, sRet, sRetN, sNext, sBrk, sCont, sDrop, sFrz, freeze, sPar, putAll, putR, outR, sAsg, sApp, sExt, sPop, sSetIx, sAug, sFor, ownAt, eVar, eC, bind1, bind2, bindA, aCons, aNil, op1, tb, tT', tru, isB, bAnd, bOr, bNot, eAnd, eOr, eNot, eIf, eTup, eLst, toD, toDs, eSl, pNo, pAt, eCall, isBor, noLR, fInt, fList, fTuple, unNeg, gNm, gTp, gAll, iRg1, iRg2, iSeq, itsOf, sv, lv, dv, tYesB, List.map_cons, List.map_nil, List.append_eq, List.cons_append, List.nil_append, List.replicate_succ, List.replicate_zero, Option.bind_some, Option.bind_none, Option.map_some, Option.map_none, Option.some_or, Option.none_or, List.getElem?_cons_zero, List.getElem?_cons_succ, List.set_cons_zero, List.set_cons_succ, List.length_cons, List.length_nil, List.any_cons, List.any_nil, if_true, if_false, ite_true, ite_false, Bool.false_eq_true, reduceIte, Nat.reduceAdd, Nat.reduceSub, Nat.reduceLT, Nat.reduceLeDiff, Bool.or_false, Bool.false_or, Bool.or_self, Bool.not_true, Bool.not_false, x4, x40, j2, nb1]
  have l2 := like_ok (d := .bool (decide (V f 4 0 = V g 4 0))) rfl
  have eq4 := eq_tuI (lw f 4 1) (lw g 4 1)
  have ed : decide (lw f 4 1 = lw g 4 1) = decide (V f 4 0 = V g 4 0) := decide_eq_decide.mpr ⟨fun h => by
    have h : [V f 4 0] = [V g 4 0] := h
    exact (List.cons.inj h).1, fun h => by
    show [V f 4 0] = [V g 4 0]
    rw [h]⟩
  rw [ed] at eq4
  have s7 : S__law_proof_right_7 (rE f g key more (some (.d due)) (some (.d (.int (key / 2 ^ 4 : Nat)))) l (some (.d (.int (f key)))) (some (.d (.int ((f key + more) % 997))))) = some (.rt (.d (.bool true))) := by
    unfold S__law_proof_right_7 rE
    simp only [mkF, sSeq, sSet, sIf, sRet, sRetN, sNext, sBrk, sCont, sDrop, sFrz, freeze, sPar, putAll, putR, outR, sAsg, sApp, sExt, sPop, sSetIx, sAug, sFor, ownAt, eVar, eC, bind1, bind2, bindA, aCons, aNil, op1, tb, tT', tru, isB, bAnd, bOr, bNot, eAnd, eOr, eNot, eIf, eTup, eLst, toD, toDs, eSl, pNo, pAt, eCall, isBor, noLR, fInt, fList, fTuple, unNeg, gNm, gTp, gAll, iRg1, iRg2, iSeq, itsOf, sv, lv, dv, tYesB, List.map_cons, List.map_nil, List.append_eq, List.cons_append, List.nil_append, List.replicate_succ, List.replicate_zero, Option.bind_some, Option.bind_none, Option.map_some, Option.map_none, Option.some_or, Option.none_or, List.getElem?_cons_zero, List.getElem?_cons_succ, List.set_cons_zero, List.set_cons_succ, List.length_cons, List.length_nil, List.any_cons, List.any_nil, if_true, if_false, ite_true, ite_false, Bool.false_eq_true, reduceIte, Nat.reduceAdd, Nat.reduceSub, Nat.reduceLT, Nat.reduceLeDiff, Bool.or_false, Bool.false_or, Bool.or_self, Bool.not_true, Bool.not_false, x4, x40, j3, eq4, l2]
  refine F_of rfl rfl ?_ rfl
  show B__law_proof_right (rE f g key more none none none none none) = _
  unfold B__law_proof_right
  rw [seq_nx s1, seq_nx s2, seq_nx s3, seq_nx s4, seq_nx s5, seq_nx s6, s7]
end LW19

namespace LW19
open PySem L2 PV PySem.W
/-! ### order does not count -/
def one (ps : List (Nat × Int)) : Prop := ∀ x ∈ ps, ∀ y ∈ ps, x.1 = y.1 → x = y
theorem put_comm (f : Nat → Int) {x y : Nat × Int} (h : x.1 ≠ y.1) : put (put f x) y = put (put f y) x := by
  funext k
  unfold put
  by_cases e : k = y.1
  · rw [if_pos e, if_neg (fun q => h (q.symm.trans e)), if_pos e]
  · rw [if_neg e]
    by_cases e2 : k = x.1
    · rw [if_pos e2, if_pos e2]
    · rw [if_neg e2, if_neg e2, if_neg e]
theorem row_perm {ps qs : List (Nat × Int)} (h : ps.Perm qs) (ho : one ps) : rowOf ps = rowOf qs := by
  unfold rowOf
  refine h.foldl_eq' (fun x hx y hy z => ?_) _
  by_cases e : x.1 = y.1
  · rw [ho x hx y hy e]
  · exact put_comm z e
def srt (ps : List (Nat × Int)) : List (Nat × Int) := sortK false prD ps
theorem srt_perm (ps : List (Nat × Int)) : (srt ps).Perm ps := List.mergeSort_perm _ _
theorem cSort_ok (ps : List (Nat × Int)) (hl : ps.length ≤ 1000) : cSort (ps.map prD) = true := by
  have e : ps.map prD = (ps.map fun p => ((p.1 : Int), p.2)).map (Datum.toD : Int × Int → PyData) := by
    rw [List.map_map]
    rfl
  have h1 : okDs (ps.map prD) = true := by
    rw [e]
    exact okDs_of _
  have h2 : alikeAllB (ps.map prD) = true := by
    rw [e]
    unfold alikeAllB
    rw [List.all_eq_true]
    intro x hx
    rw [List.all_eq_true]
    intro y hy
    obtain ⟨a, _, rfl⟩ := List.mem_map.mp hx
    obtain ⟨b, _, rfl⟩ := List.mem_map.mp hy
    exact DatumOrd.alike a b
  have h3 : sortableB (ps.map prD) = true := by
    unfold sortableB
    rw [Bool.or_eq_true]
    left
    rw [List.all_eq_true]
    intro x hx
    obtain ⟨a, _, rfl⟩ := List.mem_map.mp hx
    rfl
  have h4 : Nat.ble (ps.map prD).length LIM = true := by
    rw [Nat.ble_eq, List.length_map]
    exact lim_small' hl
  unfold cSort
  rw [h1, h2, h3, h4]
  rfl
theorem sorted_ok (ps : List (Nat × Int)) (hl : ps.length ≤ 1000) : fSorted (.bor (ps.map prD)) = some (.own ((srt ps).map prD)) ∧ fSorted (.own (ps.map prD)) = some (.own ((srt ps).map prD)) := by
  have h := cSort_ok ps hl
  have : (some (ps.map prD)).bind (fun xs => if cSort xs then some (R.own (sortK false id xs)) else none) = some (.own ((srt ps).map prD)) := by
    rw [Option.bind_some, if_pos h]
    unfold srt
    rw [sortK_map]
  exact ⟨this, this⟩
theorem okP_perm {ps qs : List (Nat × Int)} (h : ps.Perm qs) (ho : okP qs) : okP ps := fun p hp => ho p (h.mem_iff.mp hp)
theorem okP_filter {ps : List (Nat × Int)} (h : okP ps) (q : Nat × Int → Bool) : okP (ps.filter q) := fun p hp => h p (List.mem_filter.mp hp).1
theorem one_filter {ps : List (Nat × Int)} (h : one ps) (q : Nat × Int → Bool) : one (ps.filter q) := fun x hx y hy => h x (List.mem_filter.mp hx).1 y (List.mem_filter.mp hy).1
theorem okP_app {ps qs : List (Nat × Int)} (h1 : okP ps) (h2 : okP qs) : okP (ps ++ qs) := fun p hp => by
  rcases List.mem_append.mp hp with h | h
  · exact h1 p h
  · exact h2 p h
theorem one_app {ps qs : List (Nat × Int)} (h1 : one ps) (h2 : one qs) (h : ∀ x ∈ ps, ∀ y ∈ qs, x.1 ≠ y.1) : one (ps ++ qs) := fun x hx y hy e => by
  rcases List.mem_append.mp hx with hx | hx
  · rcases List.mem_append.mp hy with hy | hy
    · exact h1 x hx y hy e
    · exact absurd e (h x hx y hy)
  · rcases List.mem_append.mp hy with hy | hy
    · exact absurd e.symm (h y hy x hx)
    · exact h2 x hx y hy e
theorem one_range (n : Nat) (q : Nat → Bool) (h : Nat → Int) : one (((List.range n).filter q).map fun k => (k, h k)) := fun x hx y hy e => by
  obtain ⟨a, _, rfl⟩ := List.mem_map.mp hx
  obtain ⟨b, _, rfl⟩ := List.mem_map.mp hy
  have e : a = b := e
  rw [e]
theorem okP_range (q : Nat → Bool) (h : Nat → Int) : okP (((List.range 16).filter q).map fun k => (k, h k)) := fun x hx => by
  obtain ⟨a, ha, rfl⟩ := List.mem_map.mp hx
  exact List.mem_range.mp (List.mem_filter.mp ha).1
/-! ### the law -/
def lE (ns : List Int) (row nums : List Int) (ps cs : List (Nat × Int)) (s5 : Option S) (p6 p7 : Option PyData) (s8 s9 s10 s11 : Option S) : PV.Env := [some (.d (.dict (ns.map scrI))), some (.own (row.map .int)), some (.own (nums.map .int)), some (.own (ps.map prD)), some (.own (cs.map prD)), s5, p6.map S.d, p7.map S.d, s8, s9, s10, s11, none]
theorem ne_NI (a b : Nat) : opNe2 (.d (.int (a : Nat))) (.d (.int (b : Nat))) = some (.d (.bool (!decide (a = b)))) := by
  rw [ne_i]
  congr 4
  exact decide_eq_decide.mpr ⟨fun h => by omega, fun h => by omega⟩
theorem noLs_int : ∀ ns : List Int, noLs (ns.map PyData.int) = true
  | [] => rfl
  | n :: ns => by
    rw [List.map_cons, noLs, noLs_int ns]
    rfl
/-- the end, from pairs and changed on -/
theorem law_end (ns row nums : List Int) (ps cs : List (Nat × Int)) (hp : okP ps) (hc : okP cs) (ho : one cs) (hpl : ps.length ≤ 500) (hcl : cs.length ≤ 500) (s5 : Option S) (p6 p7 : Option PyData) (r : Nat → Int) (ix : ∀ i : Int, 0 ≤ i → i < 70 → opIx (.bor (row.map .int)) (.d (.int i)) = some (.d (.int (r i.toNat)))) :
    sSeq S_law_8 (sSeq S_law_9 (sSeq S_law_10 (sSeq S_law_11 S_law_12))) (lE ns row nums ps cs s5 p6 p7 none none none none) = some (.rt (.d (.bool true))) := by
  have k2 : (2 : Nat) ≤ LIM := lim_small' (by omega)
  have hf := row_In ps
  have hg := row_In cs
  have t1 := print_tree_ok ps hp
  have t2 := print_tree_ok (srt cs) (okP_perm (srt_perm cs) hc)
  rw [row_perm (srt_perm cs).symm ho |>.symm] at t2
  have n1 := numbers_ok ps hp
  have n2 := numbers_ok cs hc
  have so := (sorted_ok cs (by omega)).1
  generalize rowOf ps = f at *
  generalize rowOf cs = g at *
  have l1 := law_levels_ok hf
  have l2 := law_levels_ok hg
  have s8 : S_law_8 (lE ns row nums ps cs s5 p6 p7 none none none none) = some (.nx (lE ns row nums ps cs s5 p6 p7 (some (.d (levs f))) (some (.d (levs g))) none none)) := by
    unfold S_law_8 lE
    simp only [mkF, sSeq, sSet, sIf, sRet, sRetN, sNext, sBrk, sCont, sDrop, sFrz, freeze, sPar, putAll, putR, outR, sAsg, sApp, sExt, sPop, sSetIx, sAug, sFor, ownAt, eVar, eC, bind1, bind2, bindA, aCons, aNil, op1, tb, tT', tru, isB, bAnd, bOr, bNot, eAnd, eOr, eNot, eIf, eTup, eLst, toD, toDs, eSl, pNo, pAt, eCall, isBor, noLR, fInt, fList, fTuple, unNeg, gNm, gTp, gAll, iRg1, iRg2, iSeq, itsOf, sv, lv, dv, tYesB, List.map_cons, List.map_nil, List.append_eq, List.cons_append, List.nil_append, List.replicate_succ, List.replicate_zero, Option.bind_some, Option.bind_none, Option.map_some, Option.map_none, Option.some_or, Option.none_or, List.getElem?_cons_zero, List.getElem?_cons_succ, List.set_cons_zero, List.set_cons_succ, List.length_cons, List.length_nil, List.any_cons, List.any_nil, if_true, if_false, ite_true, ite_false, Bool.false_eq_true, reduceIte, Nat.reduceAdd, Nat.reduceSub, Nat.reduceLT, Nat.reduceLeDiff, Bool.or_false, Bool.false_or, Bool.or_self, Bool.not_true, Bool.not_false, t1, t2, so]
  have s9 : S_law_9 (lE ns row nums ps cs s5 p6 p7 (some (.d (levs f))) (some (.d (levs g))) none none) = some (.nx (lE ns row nums ps cs s5 p6 p7 (some (.d (levs f))) (some (.d (levs g))) (some (.d (levs f))) (some (.d (levs g))))) := by
    unfold S_law_9 lE
    simp only [mkF, sSeq, sSet, sIf, sRet, sRetN, sNext, sBrk, sCont, sDrop, sFrz, freeze, sPar, putAll, putR, outR, sAsg, sApp, sExt, sPop, sSetIx, sAug, sFor, ownAt, eVar, eC, bind1, bind2, bindA, aCons, aNil, op1, tb, tT', tru, isB, bAnd, bOr, bNot, eAnd, eOr, eNot, eIf, eTup, eLst, toD, toDs, eSl, pNo, pAt, eCall, isBor, noLR, fInt, fList, fTuple, unNeg, gNm, gTp, gAll, iRg1, iRg2, iSeq, itsOf, sv, lv, dv, tYesB, List.map_cons, List.map_nil, List.append_eq, List.cons_append, List.nil_append, List.replicate_succ, List.replicate_zero, Option.bind_some, Option.bind_none, Option.map_some, Option.map_none, Option.some_or, Option.none_or, List.getElem?_cons_zero, List.getElem?_cons_succ, List.set_cons_zero, List.set_cons_succ, List.length_cons, List.length_nil, List.any_cons, List.any_nil, if_true, if_false, ite_true, ite_false, Bool.false_eq_true, reduceIte, Nat.reduceAdd, Nat.reduceSub, Nat.reduceLT, Nat.reduceLeDiff, Bool.or_false, Bool.false_or, Bool.or_self, Bool.not_true, Bool.not_false, n1, n2, l1, l2, noLs_int]
  have lkl : ∀ f : Nat → Int, lk 7 (levs f) = true := fun f => lk_tup (fun x hx => by
    simp only [List.mem_cons, List.not_mem_nil, or_false] at hx
    rcases hx with rfl | rfl | rfl | rfl | rfl <;> exact lk_tuI (by rw [lw_len]; omega)) (by show 5 ≤ 1000; omega)
  have lk1 := like_ok (d := .tuple [levs f, levs g]) (lk_tup (fun x hx => by
    simp only [List.mem_cons, List.not_mem_nil, or_false] at hx
    rcases hx with rfl | rfl
    · exact lkl f
    · exact lkl g) (by show 2 ≤ 1000; omega))
  have bo := both_ok hf hg
  have s10 : S_law_10 (lE ns row nums ps cs s5 p6 p7 (some (.d (levs f))) (some (.d (levs g))) (some (.d (levs f))) (some (.d (levs g)))) = some (.nx (lE ns row nums ps cs s5 p6 p7 (some (.d (levs f))) (some (.d (levs g))) (some (.d (levs f))) (some (.d (levs g))))) := by
    unfold S_law_10 lE
    simp only [mkF, sSeq, sSet, sIf, sRet, sRetN, sNext, sBrk, sCont, sDrop, sFrz, freeze, sPar, putAll, putR, outR, sAsg, sApp, sExt, sPop, sSetIx, sAug, sFor, ownAt, eVar, eC, bind1, bind2, bindA, aCons, aNil, op1, tb, tT', tru, isB, bAnd, bOr, bNot, eAnd, eOr, eNot, eIf, eTup, eLst, toD, toDs, eSl, pNo, pAt, eCall, isBor, noLR, fInt, fList, fTuple, unNeg, gNm, gTp, gAll, iRg1, iRg2, iSeq, itsOf, sv, lv, dv, tYesB, List.map_cons, List.map_nil, List.append_eq, List.cons_append, List.nil_append, List.replicate_succ, List.replicate_zero, Option.bind_some, Option.bind_none, Option.map_some, Option.map_none, Option.some_or, Option.none_or, List.getElem?_cons_zero, List.getElem?_cons_succ, List.set_cons_zero, List.set_cons_succ, List.length_cons, List.length_nil, List.any_cons, List.any_nil, if_true, if_false, ite_true, ite_false, Bool.false_eq_true, reduceIte, Nat.reduceAdd, Nat.reduceSub, Nat.reduceLT, Nat.reduceLeDiff, Bool.or_false, Bool.false_or, Bool.or_self, Bool.not_true, Bool.not_false, k2, lk1, bo]
  have i65 := ix 65 (by omega) (by omega)
  have i66 := ix 66 (by omega) (by omega)
  have i67 := ix 67 (by omega) (by omega)
  have m65 : opMod (.d (.int (r (65 : Int).toNat))) (.d (.int 16)) = some (.d (.int (r 65 % 16))) := mod_i (by omega)
  have m66 : opMod (.d (.int (r (66 : Int).toNat))) (.d (.int 16)) = some (.d (.int (r 66 % 16))) := mod_i (by omega)
  have m67 : opMod (.d (.int (r (67 : Int).toNat))) (.d (.int 996)) = some (.d (.int (r 67 % 996))) := mod_i (by omega)
  obtain ⟨a1, a2⟩ := mod_lt (a := r 65) (b := 16) (by omega)
  obtain ⟨b1, b2⟩ := mod_lt (a := r 66) (b := 16) (by omega)
  obtain ⟨c1, c2⟩ := mod_lt (a := r 67) (b := 996) (by omega)
  obtain ⟨u, hu⟩ : ∃ u : Nat, r 65 % 16 = (u : Nat) := ⟨(r 65 % 16).toNat, by omega⟩
  obtain ⟨w, hw⟩ : ∃ w : Nat, r 66 % 16 = (w : Nat) := ⟨(r 66 % 16).toNat, by omega⟩
  have st : ∀ v : Nat, v < 16 → P_law_2 (lE ns row nums ps cs s5 (some (.int (v : Nat))) p7 (some (.d (levs f))) (some (.d (levs g))) (some (.d (levs f))) (some (.d (levs g)))) = some (.nx (lE ns row nums ps cs s5 (some (.int (v : Nat))) p7 (some (.d (levs f))) (some (.d (levs g))) (some (.d (levs f))) (some (.d (levs g))))) := fun v hv => by
    have pr := proof_right_ok (g := g) hf v hv (1 + r 67 % 996) (by omega)
    unfold P_law_2 lE
    simp only [mkF, sSeq, sSet, sIf, sRet, sRetN, sNext, sBrk, sCont, sDrop, sFrz, freeze, sPar, putAll, putR, outR, sAsg, sApp, sExt, sPop, sSetIx, sAug, sFor, ownAt, eVar, eC, bind1, bind2, bindA, aCons, aNil, op1, tb, tT', tru, isB, bAnd, bOr, bNot, eAnd, eOr, eNot, eIf, eTup, eLst, toD, toDs, eSl, pNo, pAt, eCall, isBor, noLR, fInt, fList, fTuple, unNeg, gNm, gTp, gAll, iRg1, iRg2, iSeq, itsOf, sv, lv, dv, tYesB, List.map_cons, List.map_nil, List.append_eq, List.cons_append, List.nil_append, List.replicate_succ, List.replicate_zero, Option.bind_some, Option.bind_none, Option.map_some, Option.map_none, Option.some_or, Option.none_or, List.getElem?_cons_zero, List.getElem?_cons_succ, List.set_cons_zero, List.set_cons_succ, List.length_cons, List.length_nil, List.any_cons, List.any_nil, if_true, if_false, ite_true, ite_false, Bool.false_eq_true, reduceIte, Nat.reduceAdd, Nat.reduceSub, Nat.reduceLT, Nat.reduceLeDiff, Bool.or_false, Bool.false_or, Bool.or_self, Bool.not_true, Bool.not_false, i67, m67, add_i, pr]
  have s11 : S_law_11 (lE ns row nums ps cs s5 p6 p7 (some (.d (levs f))) (some (.d (levs g))) (some (.d (levs f))) (some (.d (levs g)))) = some (.nx (lE ns row nums ps cs s5 (some (.int (w : Nat))) p7 (some (.d (levs f))) (some (.d (levs g))) (some (.d (levs f))) (some (.d (levs g))))) := by
    unfold S_law_11 sFor
    have hi : iSeq true (eTup (aCons (bind2 opMod (bindA (op1 fInt) (aCons (bind2 opIx (eVar 1) (eC (.int 65))) (aNil))) (eC (.int 16))) (aCons (bind2 opMod (bindA (op1 fInt) (aCons (bind2 opIx (eVar 1) (eC (.int 66))) (aNil))) (eC (.int 16))) (aNil)))) (lE ns row nums ps cs s5 p6 p7 (some (.d (levs f))) (some (.d (levs g))) (some (.d (levs f))) (some (.d (levs g)))) = some [.int (u : Nat), .int (w : Nat)] := by
      unfold lE
      simp only [mkF, sSeq, sSet, sIf, sRet, sRetN, sNext, sBrk, sCont, sDrop, sFrz, freeze, sPar, putAll, putR, outR, sAsg, sApp, sExt, sPop, sSetIx, sAug, sFor, ownAt, eVar, eC, bind1, bind2, bindA, aCons, aNil, op1, tb, tT', tru, isB, bAnd, bOr, bNot, eAnd, eOr, eNot, eIf, eTup, eLst, toD, toDs, eSl, pNo, pAt, eCall, isBor, noLR, fInt, fList, fTuple, unNeg, gNm, gTp, gAll, iRg1, iRg2, iSeq, itsOf, sv, lv, dv, tYesB, List.map_cons, List.map_nil, List.append_eq, List.cons_append, List.nil_append, List.replicate_succ, List.replicate_zero, Option.bind_some, Option.bind_none, Option.map_some, Option.map_none, Option.some_or, Option.none_or, List.getElem?_cons_zero, List.getElem?_cons_succ, List.set_cons_zero, List.set_cons_succ, List.length_cons, List.length_nil, List.any_cons, List.any_nil, if_true, if_false, ite_true, ite_false, Bool.false_eq_true, reduceIte, Nat.reduceAdd, Nat.reduceSub, Nat.reduceLT, Nat.reduceLeDiff, Bool.or_false, Bool.false_or, Bool.or_self, Bool.not_true, Bool.not_false, i65, i66, m65, m66, hu, hw, k2]
    rw [hi, Option.bind_some]
    have g1 : gNm 6 (.int (u : Nat)) (lE ns row nums ps cs s5 p6 p7 (some (.d (levs f))) (some (.d (levs g))) (some (.d (levs f))) (some (.d (levs g)))) = some (lE ns row nums ps cs s5 (some (.int (u : Nat))) p7 (some (.d (levs f))) (some (.d (levs g))) (some (.d (levs f))) (some (.d (levs g)))) := rfl
    rw [forL_nx g1 (st u (by omega)), forL_nx (by rfl) (st w (by omega))]
    rfl
  rw [seq_nx s8, seq_nx s9, seq_nx s10, seq_nx s11]
  rfl
end LW19

namespace LW19
open PySem L2 PV PySem.W
/-! ### the law's beginning -/
theorem frz6 (ns row nums : List Int) (ps cs : List (Nat × Int)) (s5 : Option S) (p6 p7 : Option PyData) : freeze 6 (lE ns row nums ps cs s5 p6 p7 none none none none) = lE ns row nums ps cs s5 p6 p7 none none none none := by
  cases p6 <;> rfl
def St (row nums : List Int) (ns : List Int) (n : Nat) (env : PV.Env) : Prop := ∃ ps cs s5 p6 p7, env = lE ns row nums ps cs s5 p6 p7 none none none none ∧ okP ps ∧ okP cs ∧ one cs ∧ ps.length ≤ n ∧ cs.length ≤ n
theorem pr_0 (p : Nat × Int) : opIx (.d (prD p)) (.d (.int 0)) = some (.d (.int (p.1 : Nat))) := rfl
section
variable {ns row nums : List Int} {r : Nat → Int}
theorem step5 (hn : nums.length = 16) (ix : ∀ i : Int, 0 ≤ i → i < 70 → opIx (.bor (row.map .int)) (.d (.int i)) = some (.d (.int (r i.toNat)))) (ps cs : List (Nat × Int)) (k : Nat) (hk : k < 5) (hc : okP cs) (ho : one cs) (hl : cs.length ≤ 100) (p6 : Option PyData) : ∃ (cs' : List (Nat × Int)) (p6' : Option PyData), P_law_1 (lE ns row nums ps cs (some (.d (.int (k : Nat)))) p6 none none none none none) = some (.nx (lE ns row nums ps cs' (some (.d (.int (k : Nat)))) p6' none none none none none)) ∧ okP cs' ∧ one cs' ∧ cs'.length ≤ cs.length + 1 := by
  have i34 := ix (34 + (k : Nat)) (by omega) (by omega)
  have i39 := ix (39 + (k : Nat)) (by omega) (by omega)
  have i44 := ix (44 + (k : Nat)) (by omega) (by omega)
  have m34 := mod_i (i := r (34 + (k : Nat) : Int).toNat) (j := 16) (by omega)
  have m39 := mod_i (i := r (39 + (k : Nat) : Int).toNat) (j := 4) (by omega)
  have m44 := mod_i (i := r (44 + (k : Nat) : Int).toNat) (j := 801) (by omega)
  obtain ⟨a1, a2⟩ := mod_lt (a := r (34 + (k : Nat) : Int).toNat) (b := 16) (by omega)
  obtain ⟨u, hu⟩ : ∃ u : Nat, r (34 + (k : Nat) : Int).toNat % 16 = (u : Nat) := ⟨(r (34 + (k : Nat) : Int).toNat % 16).toNat, by omega⟩
  rw [hu] at m34 a1 a2
  have e1 : sSet 6 (bind2 opMod (bindA (op1 fInt) (aCons (bind2 opIx (eVar 1) (bind2 opAdd (eC (.int 34)) (eVar 5))) (aNil))) (eC (.int 16))) (lE ns row nums ps cs (some (.d (.int (k : Nat)))) p6 none none none none none) = some (.nx (lE ns row nums ps cs (some (.d (.int (k : Nat)))) (some (.int (u : Nat))) none none none none none)) := by
    unfold lE
    simp only [mkF, sSeq, sSet, sIf, sRet, sRetN, sNext, sBrk, sCont, sDrop, sFrz, freeze, sPar, putAll, putR, outR, sAsg, sApp, sExt, sPop, sSetIx, sAug, sFor, ownAt, eVar, eC, bind1, bind2, bindA, aCons, aNil, op1, tb, tT', tru, isB, bAnd, bOr, bNot, eAnd, eOr, eNot, eIf, eTup, eLst, toD, toDs, eSl, pNo, pAt, eCall, isBor, noLR, fInt, fList, fTuple, unNeg, gNm, gTp, gAll, iRg1, iRg2, iSeq, itsOf, sv, lv, dv, tYesB, List.map_cons, List.map_nil, List.append_eq, List.cons_append, List.nil_append, List.replicate_succ, List.replicate_zero, Option.bind_some, Option.bind_none, Option.map_some, Option.map_none, Option.some_or, Option.none_or, List.getElem?_cons_zero, List.getElem?_cons_succ, List.set_cons_zero, List.set_cons_succ, List.length_cons, List.length_nil, List.any_cons, List.any_nil, if_true, if_false, ite_true, ite_false, Bool.false_eq_true, reduceIte, Nat.reduceAdd, Nat.reduceSub, Nat.reduceLT, Nat.reduceLeDiff, Bool.or_false, Bool.false_or, Bool.or_self, Bool.not_true, Bool.not_false, add_i, i34, m34, Option.map_none]
  let q : Nat × Int → Bool := fun p => !decide (p.1 = u)
  have e2 : sSet 4 (eLc (iSeq false (eVar 4)) [12] (gNm 12) (tb (bind2 opNe2 (bind2 opIx (eVar 12) (eC (.int 0))) (eVar 6))) (eVar 12)) (lE ns row nums ps cs (some (.d (.int (k : Nat)))) (some (.int (u : Nat))) none none none none none) = some (.nx (lE ns row nums ps (cs.filter q) (some (.d (.int (k : Nat)))) (some (.int (u : Nat))) none none none none none)) := by
    have c1 : eLc (iSeq false (eVar 4)) [12] (gNm 12) (tb (bind2 opNe2 (bind2 opIx (eVar 12) (eC (.int 0))) (eVar 6))) (eVar 12) (lE ns row nums ps cs (some (.d (.int (k : Nat)))) (some (.int (u : Nat))) none none none none none) = some (.own ((cs.filter q).map prD)) := by
      rw [own_xsf prD (xs := cs) (by omega) q prD rfl]
      intro x hx
      refine ⟨_, rfl, ?_, fun _ => rfl⟩
      simp only [lE, wipeE, mkF, sSeq, sSet, sIf, sRet, sRetN, sNext, sBrk, sCont, sDrop, sFrz, freeze, sPar, putAll, putR, outR, sAsg, sApp, sExt, sPop, sSetIx, sAug, sFor, ownAt, eVar, eC, bind1, bind2, bindA, aCons, aNil, op1, tb, tT', tru, isB, bAnd, bOr, bNot, eAnd, eOr, eNot, eIf, eTup, eLst, toD, toDs, eSl, pNo, pAt, eCall, isBor, noLR, fInt, fList, fTuple, unNeg, gNm, gTp, gAll, iRg1, iRg2, iSeq, itsOf, sv, lv, dv, tYesB, List.map_cons, List.map_nil, List.append_eq, List.cons_append, List.nil_append, List.replicate_succ, List.replicate_zero, Option.bind_some, Option.bind_none, Option.map_some, Option.map_none, Option.some_or, Option.none_or, List.getElem?_cons_zero, List.getElem?_cons_succ, List.set_cons_zero, List.set_cons_succ, List.length_cons, List.length_nil, List.any_cons, List.any_nil, if_true, if_false, ite_true, ite_false, Bool.false_eq_true, reduceIte, Nat.reduceAdd, Nat.reduceSub, Nat.reduceLT, Nat.reduceLeDiff, Bool.or_false, Bool.false_or, Bool.or_self, Bool.not_true, Bool.not_false, pr_0, ne_NI]
      rfl
    unfold sSet
    rw [c1]
    rfl
  have hqc : okP (cs.filter q) := okP_filter hc q
  have hqo : one (cs.filter q) := one_filter ho q
  have hql : (cs.filter q).length ≤ cs.length := List.length_filter_le _ _
  by_cases g : 0 < r (39 + (k : Nat) : Int).toNat % 4
  · have hL : ((cs.filter q).map prD).length < LIM := lim_small (by rw [List.length_map]; omega)
    have en : (cs.filter q).map prD ++ [.tuple [.int (u : Nat), .int (r (44 + (k : Nat) : Int).toNat % 801 - 400)]] = (cs.filter q ++ [(u, r (44 + (k : Nat) : Int).toNat % 801 - 400)]).map prD := by
      rw [List.map_append]
      rfl
    have k2 : (2 : Nat) ≤ LIM := lim_small' (by omega)
    refine ⟨cs.filter q ++ [(u, r (44 + (k : Nat) : Int).toNat % 801 - 400)], some (.int (u : Nat)), ?_, okP_app hqc (fun p hp => ?_), one_app hqo (fun x hx y hy _ => ?_) (fun x hx y hy e => ?_), ?_⟩
    · unfold P_law_1
      rw [seq_nx e1, seq_nx e2]
      unfold lE
      simp only [mkF, sSeq, sSet, sIf, sRet, sRetN, sNext, sBrk, sCont, sDrop, sFrz, freeze, sPar, putAll, putR, outR, sAsg, sApp, sExt, sPop, sSetIx, sAug, sFor, ownAt, eVar, eC, bind1, bind2, bindA, aCons, aNil, op1, tb, tT', tru, isB, bAnd, bOr, bNot, eAnd, eOr, eNot, eIf, eTup, eLst, toD, toDs, eSl, pNo, pAt, eCall, isBor, noLR, fInt, fList, fTuple, unNeg, gNm, gTp, gAll, iRg1, iRg2, iSeq, itsOf, sv, lv, dv, tYesB, List.map_cons, List.map_nil, List.append_eq, List.cons_append, List.nil_append, List.replicate_succ, List.replicate_zero, Option.bind_some, Option.bind_none, Option.map_some, Option.map_none, Option.some_or, Option.none_or, List.getElem?_cons_zero, List.getElem?_cons_succ, List.set_cons_zero, List.set_cons_succ, List.length_cons, List.length_nil, List.any_cons, List.any_nil, if_true, if_false, ite_true, ite_false, Bool.false_eq_true, reduceIte, Nat.reduceAdd, Nat.reduceSub, Nat.reduceLT, Nat.reduceLeDiff, Bool.or_false, Bool.false_or, Bool.or_self, Bool.not_true, Bool.not_false, add_i, i39, m39, gt_i, decide_eq_true g, i44, m44, sub_i, k2, hL, en, Option.map_none]
    · rw [List.mem_singleton.mp hp]
      show u < 16
      omega
    · rw [List.mem_singleton.mp hx, List.mem_singleton.mp hy]
    · rw [List.mem_singleton.mp hy] at e
      have hq := (List.mem_filter.mp hx).2
      have e : x.1 = u := e
      have hq : (!decide (x.1 = u)) = true := hq
      rw [decide_eq_true e] at hq
      cases hq
    · rw [List.length_append, List.length_singleton]
      omega
  · refine ⟨cs.filter q, some (.int (u : Nat)), ?_, hqc, hqo, by omega⟩
    unfold P_law_1
    rw [seq_nx e1, seq_nx e2]
    unfold lE
    simp only [mkF, sSeq, sSet, sIf, sRet, sRetN, sNext, sBrk, sCont, sDrop, sFrz, freeze, sPar, putAll, putR, outR, sAsg, sApp, sExt, sPop, sSetIx, sAug, sFor, ownAt, eVar, eC, bind1, bind2, bindA, aCons, aNil, op1, tb, tT', tru, isB, bAnd, bOr, bNot, eAnd, eOr, eNot, eIf, eTup, eLst, toD, toDs, eSl, pNo, pAt, eCall, isBor, noLR, fInt, fList, fTuple, unNeg, gNm, gTp, gAll, iRg1, iRg2, iSeq, itsOf, sv, lv, dv, tYesB, List.map_cons, List.map_nil, List.append_eq, List.cons_append, List.nil_append, List.replicate_succ, List.replicate_zero, Option.bind_some, Option.bind_none, Option.map_some, Option.map_none, Option.some_or, Option.none_or, List.getElem?_cons_zero, List.getElem?_cons_succ, List.set_cons_zero, List.set_cons_succ, List.length_cons, List.length_nil, List.any_cons, List.any_nil, if_true, if_false, ite_true, ite_false, Bool.false_eq_true, reduceIte, Nat.reduceAdd, Nat.reduceSub, Nat.reduceLT, Nat.reduceLeDiff, Bool.or_false, Bool.false_or, Bool.or_self, Bool.not_true, Bool.not_false, add_i, i39, m39, gt_i, decide_eq_false g, Option.map_none]
end
theorem law_true (ns : List Int) (hns : ns.length ≤ 63) : F_law [.dict (ns.map scrI)] = some (.d (.bool true)) := by
  obtain ⟨row, hrow, hpos, erow⟩ := row_ok ns 70 (by omega)
  have erow : F__law_row [.dict (ns.map scrI), .int 70] = some (.own (row.map .int)) := erow
  let r : Nat → Int := fun i => row.getD i 0
  have ix : ∀ i : Int, 0 ≤ i → i < 70 → opIx (.bor (row.map .int)) (.d (.int i)) = some (.d (.int (r i.toNat))) := fun i h1 h2 => by
    refine ix_bor h1 ?_
    rw [List.getElem?_map, List.getElem?_eq_getElem (by omega)]
    show some (PyData.int row[i.toNat]) = some (.int (row.getD i.toNat 0))
    rw [List.getD_eq_getElem?_getD, List.getElem?_eq_getElem (by omega)]
    rfl
  clear_value r
  have s1 : S_law_1 [some (.d (.dict (ns.map scrI))), none, none, none, none, none, none, none, none, none, none, none, none] = some (.nx [some (.d (.dict (ns.map scrI))), some (.own (row.map .int)), none, none, none, none, none, none, none, none, none, none, none]) := by
    unfold S_law_1
    simp only [mkF, sSeq, sSet, sIf, sRet, sRetN, sNext, sBrk, sCont, sDrop, sFrz, freeze, sPar, putAll, putR, outR, sAsg, sApp, sExt, sPop, sSetIx, sAug, sFor, ownAt, eVar, eC, bind1, bind2, bindA, aCons, aNil, op1, tb, tT', tru, isB, bAnd, bOr, bNot, eAnd, eOr, eNot, eIf, eTup, eLst, toD, toDs, eSl, pNo, pAt, eCall, isBor, noLR, fInt, fList, fTuple, unNeg, gNm, gTp, gAll, iRg1, iRg2, iSeq, itsOf, sv, lv, dv, tYesB, List.map_cons, List.map_nil, List.append_eq, List.cons_append, List.nil_append, List.replicate_succ, List.replicate_zero, Option.bind_some, Option.bind_none, Option.map_some, Option.map_none, Option.some_or, Option.none_or, List.getElem?_cons_zero, List.getElem?_cons_succ, List.set_cons_zero, List.set_cons_succ, List.length_cons, List.length_nil, List.any_cons, List.any_nil, if_true, if_false, ite_true, ite_false, Bool.false_eq_true, reduceIte, Nat.reduceAdd, Nat.reduceSub, Nat.reduceLT, Nat.reduceLeDiff, Bool.or_false, Bool.false_or, Bool.or_self, Bool.not_true, Bool.not_false, erow]
  let nums : List Int := (List.range 16).map fun k => r (2 + k) % 801 - 400
  have hn : nums.length = 16 := by show ((List.range 16).map _).length = _; rw [List.length_map, List.length_range]
  have rg := rg1_i (n := 16) (by omega)
  have rg : rgF1 [.d (.int 16)] = some (rngL 0 16) := rg
  have s2 : S_law_2 [some (.d (.dict (ns.map scrI))), some (.own (row.map .int)), none, none, none, none, none, none, none, none, none, none, none] = some (.nx [some (.d (.dict (ns.map scrI))), some (.own (row.map .int)), some (.own (nums.map .int)), none, none, none, none, none, none, none, none, none, none]) := by
    have c1 : eLc (iRg1 (aCons (eC (.int 16)) (aNil))) [5] (gNm 5) (tYesB) (bind2 opSub (bind2 opMod (bindA (op1 fInt) (aCons (bind2 opIx (eVar 1) (bind2 opAdd (eC (.int 2)) (eVar 5))) (aNil))) (eC (.int 801))) (eC (.int 400))) [some (.d (.dict (ns.map scrI))), some (.own (row.map .int)), none, none, none, none, none, none, none, none, none, none, none] = some (.own (nums.map .int)) := by
      rw [own_rg (n := 16) (by omega) (fun k => .int (r (2 + k) % 801 - 400)) rg]
      · show _ = some (R.own (((List.range 16).map _).map _))
        rw [List.map_map]
        rfl
      · intro k hk
        have i2 := ix (2 + (k : Nat)) (by omega) (by omega)
        rw [show ((2 : Int) + (k : Nat)).toNat = 2 + k by omega] at i2
        have md := mod_i (i := r (2 + k)) (j := 801) (by omega)
        refine ⟨_, rfl, ?_⟩
        simp only [wipeE, mkF, sSeq, sSet, sIf, sRet, sRetN, sNext, sBrk, sCont, sDrop, sFrz, freeze, sPar, putAll, putR, outR, sAsg, sApp, sExt, sPop, sSetIx, sAug, sFor, ownAt, eVar, eC, bind1, bind2, bindA, aCons, aNil, op1, tb, tT', tru, isB, bAnd, bOr, bNot, eAnd, eOr, eNot, eIf, eTup, eLst, toD, toDs, eSl, pNo, pAt, eCall, isBor, noLR, fInt, fList, fTuple, unNeg, gNm, gTp, gAll, iRg1, iRg2, iSeq, itsOf, sv, lv, dv, tYesB, List.map_cons, List.map_nil, List.append_eq, List.cons_append, List.nil_append, List.replicate_succ, List.replicate_zero, Option.bind_some, Option.bind_none, Option.map_some, Option.map_none, Option.some_or, Option.none_or, List.getElem?_cons_zero, List.getElem?_cons_succ, List.set_cons_zero, List.set_cons_succ, List.length_cons, List.length_nil, List.any_cons, List.any_nil, if_true, if_false, ite_true, ite_false, Bool.false_eq_true, reduceIte, Nat.reduceAdd, Nat.reduceSub, Nat.reduceLT, Nat.reduceLeDiff, Bool.or_false, Bool.false_or, Bool.or_self, Bool.not_true, Bool.not_false, add_i, i2, md, sub_i]
    generalize hC : eLc (iRg1 (aCons (eC (.int 16)) (aNil))) [5] (gNm 5) (tYesB) (bind2 opSub (bind2 opMod (bindA (op1 fInt) (aCons (bind2 opIx (eVar 1) (bind2 opAdd (eC (.int 2)) (eVar 5))) (aNil))) (eC (.int 801))) (eC (.int 400))) = C1 at c1
    unfold S_law_2
    rw [hC]
    simp only [mkF, sSeq, sSet, sIf, sRet, sRetN, sNext, sBrk, sCont, sDrop, sFrz, freeze, sPar, putAll, putR, outR, sAsg, sApp, sExt, sPop, sSetIx, sAug, sFor, ownAt, eVar, eC, bind1, bind2, bindA, aCons, aNil, op1, tb, tT', tru, isB, bAnd, bOr, bNot, eAnd, eOr, eNot, eIf, eTup, eLst, toD, toDs, eSl, pNo, pAt, eCall, isBor, noLR, fInt, fList, fTuple, unNeg, gNm, gTp, gAll, iRg1, iRg2, iSeq, itsOf, sv, lv, dv, tYesB, List.map_cons, List.map_nil, List.append_eq, List.cons_append, List.nil_append, List.replicate_succ, List.replicate_zero, Option.bind_some, Option.bind_none, Option.map_some, Option.map_none, Option.some_or, Option.none_or, List.getElem?_cons_zero, List.getElem?_cons_succ, List.set_cons_zero, List.set_cons_succ, List.length_cons, List.length_nil, List.any_cons, List.any_nil, if_true, if_false, ite_true, ite_false, Bool.false_eq_true, reduceIte, Nat.reduceAdd, Nat.reduceSub, Nat.reduceLT, Nat.reduceLeDiff, Bool.or_false, Bool.false_or, Bool.or_self, Bool.not_true, Bool.not_false, c1]
  have hix : ∀ k : Nat, k < 16 → opIx (.bor (nums.map .int)) (.d (.int (k : Nat))) = some (.d (.int (nums.getD k 0))) := fun k hk => by
    refine ix_bor (by omega) ?_
    rw [Int.toNat_natCast, List.getElem?_map, List.getElem?_eq_getElem (by omega), List.getD_eq_getElem?_getD, List.getElem?_eq_getElem (by omega)]
    rfl
  clear_value nums
  have k2 : (2 : Nat) ≤ LIM := lim_small' (by omega)
  let q3 : Nat → Bool := fun k => decide (0 < r (18 + k) % 4)
  let ps : List (Nat × Int) := ((List.range 16).filter q3).map fun k => (k, nums.getD k 0)
  have hps : okP ps := okP_range q3 _
  have hpo : one ps := one_range 16 q3 _
  have hpl : ps.length ≤ 16 := by
    show (((List.range 16).filter q3).map _).length ≤ 16
    rw [List.length_map]
    exact Nat.le_trans (List.length_filter_le _ _) (by rw [List.length_range]; exact Nat.le_refl _)
  have s3 : S_law_3 [some (.d (.dict (ns.map scrI))), some (.own (row.map .int)), some (.own (nums.map .int)), none, none, none, none, none, none, none, none, none, none] = some (.nx [some (.d (.dict (ns.map scrI))), some (.own (row.map .int)), some (.own (nums.map .int)), some (.own (ps.map prD)), none, none, none, none, none, none, none, none, none]) := by
    have c1 : eLc (iRg1 (aCons (eC (.int 16)) (aNil))) [6] (gNm 6) (tb (bind2 opGt2 (bind2 opMod (bindA (op1 fInt) (aCons (bind2 opIx (eVar 1) (bind2 opAdd (eC (.int 18)) (eVar 6))) (aNil))) (eC (.int 4))) (eC (.int 0)))) (eTup (aCons (eVar 6) (aCons (bind2 opIx (eVar 2) (eVar 6)) (aNil)))) [some (.d (.dict (ns.map scrI))), some (.own (row.map .int)), some (.own (nums.map .int)), none, none, none, none, none, none, none, none, none, none] = some (.own (ps.map prD)) := by
      rw [own_rgf (n := 16) (by omega) q3 (fun k => prD (k, nums.getD k 0)) rg]
      · show _ = some (R.own ((((List.range 16).filter q3).map _).map _))
        rw [List.map_map]
        rfl
      · intro k hk
        have i2 := ix (18 + (k : Nat)) (by omega) (by omega)
        rw [show ((18 : Int) + (k : Nat)).toNat = 18 + k by omega] at i2
        have md := mod_i (i := r (18 + k)) (j := 4) (by omega)
        have i3 := hix k hk
        refine ⟨_, rfl, ?_, fun _ => ?_⟩
        · simp only [wipeE, mkF, sSeq, sSet, sIf, sRet, sRetN, sNext, sBrk, sCont, sDrop, sFrz, freeze, sPar, putAll, putR, outR, sAsg, sApp, sExt, sPop, sSetIx, sAug, sFor, ownAt, eVar, eC, bind1, bind2, bindA, aCons, aNil, op1, tb, tT', tru, isB, bAnd, bOr, bNot, eAnd, eOr, eNot, eIf, eTup, eLst, toD, toDs, eSl, pNo, pAt, eCall, isBor, noLR, fInt, fList, fTuple, unNeg, gNm, gTp, gAll, iRg1, iRg2, iSeq, itsOf, sv, lv, dv, tYesB, List.map_cons, List.map_nil, List.append_eq, List.cons_append, List.nil_append, List.replicate_succ, List.replicate_zero, Option.bind_some, Option.bind_none, Option.map_some, Option.map_none, Option.some_or, Option.none_or, List.getElem?_cons_zero, List.getElem?_cons_succ, List.set_cons_zero, List.set_cons_succ, List.length_cons, List.length_nil, List.any_cons, List.any_nil, if_true, if_false, ite_true, ite_false, Bool.false_eq_true, reduceIte, Nat.reduceAdd, Nat.reduceSub, Nat.reduceLT, Nat.reduceLeDiff, Bool.or_false, Bool.false_or, Bool.or_self, Bool.not_true, Bool.not_false, add_i, i2, md, gt_i]
          rfl
        · simp only [wipeE, mkF, sSeq, sSet, sIf, sRet, sRetN, sNext, sBrk, sCont, sDrop, sFrz, freeze, sPar, putAll, putR, outR, sAsg, sApp, sExt, sPop, sSetIx, sAug, sFor, ownAt, eVar, eC, bind1, bind2, bindA, aCons, aNil, op1, tb, tT', tru, isB, bAnd, bOr, bNot, eAnd, eOr, eNot, eIf, eTup, eLst, toD, toDs, eSl, pNo, pAt, eCall, isBor, noLR, fInt, fList, fTuple, unNeg, gNm, gTp, gAll, iRg1, iRg2, iSeq, itsOf, sv, lv, dv, tYesB, List.map_cons, List.map_nil, List.append_eq, List.cons_append, List.nil_append, List.replicate_succ, List.replicate_zero, Option.bind_some, Option.bind_none, Option.map_some, Option.map_none, Option.some_or, Option.none_or, List.getElem?_cons_zero, List.getElem?_cons_succ, List.set_cons_zero, List.set_cons_succ, List.length_cons, List.length_nil, List.any_cons, List.any_nil, if_true, if_false, ite_true, ite_false, Bool.false_eq_true, reduceIte, Nat.reduceAdd, Nat.reduceSub, Nat.reduceLT, Nat.reduceLeDiff, Bool.or_false, Bool.false_or, Bool.or_self, Bool.not_true, Bool.not_false, i3, k2]
          rfl
    generalize hC : eLc (iRg1 (aCons (eC (.int 16)) (aNil))) [6] (gNm 6) (tb (bind2 opGt2 (bind2 opMod (bindA (op1 fInt) (aCons (bind2 opIx (eVar 1) (bind2 opAdd (eC (.int 18)) (eVar 6))) (aNil))) (eC (.int 4))) (eC (.int 0)))) (eTup (aCons (eVar 6) (aCons (bind2 opIx (eVar 2) (eVar 6)) (aNil)))) = C1 at c1
    unfold S_law_3
    rw [hC]
    simp only [mkF, sSeq, sSet, sIf, sRet, sRetN, sNext, sBrk, sCont, sDrop, sFrz, freeze, sPar, putAll, putR, outR, sAsg, sApp, sExt, sPop, sSetIx, sAug, sFor, ownAt, eVar, eC, bind1, bind2, bindA, aCons, aNil, op1, tb, tT', tru, isB, bAnd, bOr, bNot, eAnd, eOr, eNot, eIf, eTup, eLst, toD, toDs, eSl, pNo, pAt, eCall, isBor, noLR, fInt, fList, fTuple, unNeg, gNm, gTp, gAll, iRg1, iRg2, iSeq, itsOf, sv, lv, dv, tYesB, List.map_cons, List.map_nil, List.append_eq, List.cons_append, List.nil_append, List.replicate_succ, List.replicate_zero, Option.bind_some, Option.bind_none, Option.map_some, Option.map_none, Option.some_or, Option.none_or, List.getElem?_cons_zero, List.getElem?_cons_succ, List.set_cons_zero, List.set_cons_succ, List.length_cons, List.length_nil, List.any_cons, List.any_nil, if_true, if_false, ite_true, ite_false, Bool.false_eq_true, reduceIte, Nat.reduceAdd, Nat.reduceSub, Nat.reduceLT, Nat.reduceLeDiff, Bool.or_false, Bool.false_or, Bool.or_self, Bool.not_true, Bool.not_false, c1]
  clear_value ps
  have s4 : S_law_4 [some (.d (.dict (ns.map scrI))), some (.own (row.map .int)), some (.own (nums.map .int)), some (.own (ps.map prD)), none, none, none, none, none, none, none, none, none] = some (.nx (lE ns row nums ps ps none none none none none none none)) := by
    have c1 : eLc (iSeq false (eVar 3)) [12] (gNm 12) (tYesB) (eVar 12) [some (.d (.dict (ns.map scrI))), some (.own (row.map .int)), some (.own (nums.map .int)), some (.own (ps.map prD)), none, none, none, none, none, none, none, none, none] = some (.own (ps.map prD)) := own_xs prD (by omega) prD rfl fun x _ => ⟨_, rfl, rfl⟩
    generalize hC : eLc (iSeq false (eVar 3)) [12] (gNm 12) (tYesB) (eVar 12) = C1 at c1
    unfold S_law_4
    rw [hC]
    simp only [mkF, sSeq, sSet, sIf, sRet, sRetN, sNext, sBrk, sCont, sDrop, sFrz, freeze, sPar, putAll, putR, outR, sAsg, sApp, sExt, sPop, sSetIx, sAug, sFor, ownAt, eVar, eC, bind1, bind2, bindA, aCons, aNil, op1, tb, tT', tru, isB, bAnd, bOr, bNot, eAnd, eOr, eNot, eIf, eTup, eLst, toD, toDs, eSl, pNo, pAt, eCall, isBor, noLR, fInt, fList, fTuple, unNeg, gNm, gTp, gAll, iRg1, iRg2, iSeq, itsOf, sv, lv, dv, tYesB, List.map_cons, List.map_nil, List.append_eq, List.cons_append, List.nil_append, List.replicate_succ, List.replicate_zero, Option.bind_some, Option.bind_none, Option.map_some, Option.map_none, Option.some_or, Option.none_or, List.getElem?_cons_zero, List.getElem?_cons_succ, List.set_cons_zero, List.set_cons_succ, List.length_cons, List.length_nil, List.any_cons, List.any_nil, if_true, if_false, ite_true, ite_false, Bool.false_eq_true, reduceIte, Nat.reduceAdd, Nat.reduceSub, Nat.reduceLT, Nat.reduceLeDiff, Bool.or_false, Bool.false_or, Bool.or_self, Bool.not_true, Bool.not_false, c1]
    rfl
  have i0 := ix 0 (by omega) (by omega)
  have i1 := ix 1 (by omega) (by omega)
  have m0 : opMod (.d (.int (r (0 : Int).toNat))) (.d (.int 5)) = some (.d (.int (r 0 % 5))) := mod_i (by omega)
  have m1 : opMod (.d (.int (r (1 : Int).toNat))) (.d (.int 8)) = some (.d (.int (r 1 % 8))) := mod_i (by omega)
  obtain ⟨a1, a2⟩ := mod_lt (a := r 0) (b := 5) (by omega)
  obtain ⟨u, hu⟩ : ∃ u : Nat, r 0 % 5 = (u : Nat) := ⟨(r 0 % 5).toNat, by omega⟩
  rw [hu] at m0 a1 a2
  obtain ⟨env5, e5, cs, x5, p6, rfl, hc, ho, hcl⟩ := for_rg (tg := gNm 5) (body := P_law_1) (fun k env => ∃ cs x5 p6, env = lE ns row nums ps cs x5 p6 none none none none none ∧ okP cs ∧ one cs ∧ cs.length ≤ 16 + k) u (env := lE ns row nums ps ps none none none none none none none) ⟨ps, none, none, rfl, hps, hpo, hpl⟩ (by
    rintro k env hk ⟨cs, x5, p6, rfl, hc, ho, hcl⟩
    obtain ⟨cs', p6', e, h1, h2, h3⟩ := step5 (ns := ns) hn ix ps cs k (by omega) hc ho (by omega) p6
    exact ⟨_, _, rfl, e, _, .inl rfl, cs', _, p6', rfl, h1, h2, by omega⟩)
  have s5 : S_law_5 (lE ns row nums ps ps none none none none none none none) = some (.nx (lE ns row nums ps cs x5 p6 none none none none none)) := by
    have hi : iRg1 (aCons (bind2 opMod (bindA (op1 fInt) (aCons (bind2 opIx (eVar 1) (eC (.int 0))) (aNil))) (eC (.int 5))) (aNil)) (lE ns row nums ps ps none none none none none none none) = some (rngL 0 u) := by
      have rgu := rg1_i (n := u) (by omega)
      unfold lE
      simp only [mkF, sSeq, sSet, sIf, sRet, sRetN, sNext, sBrk, sCont, sDrop, sFrz, freeze, sPar, putAll, putR, outR, sAsg, sApp, sExt, sPop, sSetIx, sAug, sFor, ownAt, eVar, eC, bind1, bind2, bindA, aCons, aNil, op1, tb, tT', tru, isB, bAnd, bOr, bNot, eAnd, eOr, eNot, eIf, eTup, eLst, toD, toDs, eSl, pNo, pAt, eCall, isBor, noLR, fInt, fList, fTuple, unNeg, gNm, gTp, gAll, iRg1, iRg2, iSeq, itsOf, sv, lv, dv, tYesB, List.map_cons, List.map_nil, List.append_eq, List.cons_append, List.nil_append, List.replicate_succ, List.replicate_zero, Option.bind_some, Option.bind_none, Option.map_some, Option.map_none, Option.some_or, Option.none_or, List.getElem?_cons_zero, List.getElem?_cons_succ, List.set_cons_zero, List.set_cons_succ, List.length_cons, List.length_nil, List.any_cons, List.any_nil, if_true, if_false, ite_true, ite_false, Bool.false_eq_true, reduceIte, Nat.reduceAdd, Nat.reduceSub, Nat.reduceLT, Nat.reduceLeDiff, Bool.or_false, Bool.false_or, Bool.or_self, Bool.not_true, Bool.not_false, i0, m0, rgu]
    unfold S_law_5 sFor
    rw [hi, Option.bind_some, e5]
  -- another row of pairs
  obtain ⟨cs6, s6, hc6, ho6, hcl6⟩ : ∃ cs6, S_law_6 (lE ns row nums ps cs x5 p6 none none none none none) = some (.nx (lE ns row nums ps cs6 x5 p6 none none none none none)) ∧ okP cs6 ∧ one cs6 ∧ cs6.length ≤ 100 := by
    by_cases g : r 1 % 8 = 1
    · let c6 : List (Nat × Int) := ((List.range 16).filter fun _ => true).map fun k => (k, r (49 + k) % 801 - 400)
      have e6 : c6 = (List.range 16).map fun k => (k, r (49 + k) % 801 - 400) := by
        show ((List.range 16).filter fun _ => true).map _ = _
        rw [List.filter_eq_self.mpr (fun _ _ => rfl)]
      refine ⟨c6, ?_, okP_range _ _, one_range 16 _ _, by rw [e6, List.length_map, List.length_range]; omega⟩
      have c1 : eLc (iRg1 (aCons (eC (.int 16)) (aNil))) [6] (gNm 6) (tYesB) (eTup (aCons (eVar 6) (aCons (bind2 opSub (bind2 opMod (bindA (op1 fInt) (aCons (bind2 opIx (eVar 1) (bind2 opAdd (eC (.int 49)) (eVar 6))) (aNil))) (eC (.int 801))) (eC (.int 400))) (aNil)))) (lE ns row nums ps cs x5 p6 none none none none none) = some (.own (c6.map prD)) := by
        rw [e6, own_rg (n := 16) (by omega) (fun k => prD (k, r (49 + k) % 801 - 400)) rg]
        · rw [List.map_map]
          rfl
        · intro k hk
          have i2 := ix (49 + (k : Nat)) (by omega) (by omega)
          rw [show ((49 : Int) + (k : Nat)).toNat = 49 + k by omega] at i2
          have md := mod_i (i := r (49 + k)) (j := 801) (by omega)
          refine ⟨_, rfl, ?_⟩
          simp only [lE, wipeE, mkF, sSeq, sSet, sIf, sRet, sRetN, sNext, sBrk, sCont, sDrop, sFrz, freeze, sPar, putAll, putR, outR, sAsg, sApp, sExt, sPop, sSetIx, sAug, sFor, ownAt, eVar, eC, bind1, bind2, bindA, aCons, aNil, op1, tb, tT', tru, isB, bAnd, bOr, bNot, eAnd, eOr, eNot, eIf, eTup, eLst, toD, toDs, eSl, pNo, pAt, eCall, isBor, noLR, fInt, fList, fTuple, unNeg, gNm, gTp, gAll, iRg1, iRg2, iSeq, itsOf, sv, lv, dv, tYesB, List.map_cons, List.map_nil, List.append_eq, List.cons_append, List.nil_append, List.replicate_succ, List.replicate_zero, Option.bind_some, Option.bind_none, Option.map_some, Option.map_none, Option.some_or, Option.none_or, List.getElem?_cons_zero, List.getElem?_cons_succ, List.set_cons_zero, List.set_cons_succ, List.length_cons, List.length_nil, List.any_cons, List.any_nil, if_true, if_false, ite_true, ite_false, Bool.false_eq_true, reduceIte, Nat.reduceAdd, Nat.reduceSub, Nat.reduceLT, Nat.reduceLeDiff, Bool.or_false, Bool.false_or, Bool.or_self, Bool.not_true, Bool.not_false, add_i, i2, md, sub_i, k2]
          rfl
      clear_value c6
      have gg : opEq2 (.d (.int (r 1 % 8))) (.d (.int 1)) = some (.d (.bool true)) := by rw [eq_i, decide_eq_true g]
      have ec : tb (bind2 opEq2 (bind2 opMod (bindA (op1 fInt) (aCons (bind2 opIx (eVar 1) (eC (.int 1))) (aNil))) (eC (.int 8))) (eC (.int 1))) (lE ns row nums ps cs x5 p6 none none none none none) = some true := by
        unfold lE
        simp only [mkF, sSeq, sSet, sIf, sRet, sRetN, sNext, sBrk, sCont, sDrop, sFrz, freeze, sPar, putAll, putR, outR, sAsg, sApp, sExt, sPop, sSetIx, sAug, sFor, ownAt, eVar, eC, bind1, bind2, bindA, aCons, aNil, op1, tb, tT', tru, isB, bAnd, bOr, bNot, eAnd, eOr, eNot, eIf, eTup, eLst, toD, toDs, eSl, pNo, pAt, eCall, isBor, noLR, fInt, fList, fTuple, unNeg, gNm, gTp, gAll, iRg1, iRg2, iSeq, itsOf, sv, lv, dv, tYesB, List.map_cons, List.map_nil, List.append_eq, List.cons_append, List.nil_append, List.replicate_succ, List.replicate_zero, Option.bind_some, Option.bind_none, Option.map_some, Option.map_none, Option.some_or, Option.none_or, List.getElem?_cons_zero, List.getElem?_cons_succ, List.set_cons_zero, List.set_cons_succ, List.length_cons, List.length_nil, List.any_cons, List.any_nil, if_true, if_false, ite_true, ite_false, Bool.false_eq_true, reduceIte, Nat.reduceAdd, Nat.reduceSub, Nat.reduceLT, Nat.reduceLeDiff, Bool.or_false, Bool.false_or, Bool.or_self, Bool.not_true, Bool.not_false, i1, m1, gg]
      unfold S_law_6 sIf
      rw [ec, Option.bind_some, if_pos rfl, sFrz, frz6, sSet, c1]
      rfl
    · have gg : opEq2 (.d (.int (r 1 % 8))) (.d (.int 1)) = some (.d (.bool false)) := by rw [eq_i, decide_eq_false g]
      refine ⟨cs, ?_, hc, ho, by omega⟩
      unfold S_law_6 lE
      simp only [mkF, sSeq, sSet, sIf, sRet, sRetN, sNext, sBrk, sCont, sDrop, sFrz, freeze, sPar, putAll, putR, outR, sAsg, sApp, sExt, sPop, sSetIx, sAug, sFor, ownAt, eVar, eC, bind1, bind2, bindA, aCons, aNil, op1, tb, tT', tru, isB, bAnd, bOr, bNot, eAnd, eOr, eNot, eIf, eTup, eLst, toD, toDs, eSl, pNo, pAt, eCall, isBor, noLR, fInt, fList, fTuple, unNeg, gNm, gTp, gAll, iRg1, iRg2, iSeq, itsOf, sv, lv, dv, tYesB, List.map_cons, List.map_nil, List.append_eq, List.cons_append, List.nil_append, List.replicate_succ, List.replicate_zero, Option.bind_some, Option.bind_none, Option.map_some, Option.map_none, Option.some_or, Option.none_or, List.getElem?_cons_zero, List.getElem?_cons_succ, List.set_cons_zero, List.set_cons_succ, List.length_cons, List.length_nil, List.any_cons, List.any_nil, if_true, if_false, ite_true, ite_false, Bool.false_eq_true, reduceIte, Nat.reduceAdd, Nat.reduceSub, Nat.reduceLT, Nat.reduceLeDiff, Bool.or_false, Bool.false_or, Bool.or_self, Bool.not_true, Bool.not_false, i1, m1, gg]
  obtain ⟨ps7, cs7, p7, s7, hp7, hc7, ho7, hpl7, hcl7⟩ : ∃ ps7 cs7 p7, S_law_7 (lE ns row nums ps cs6 x5 p6 none none none none none) = some (.nx (lE ns row nums ps7 cs7 x5 p6 p7 none none none none)) ∧ okP ps7 ∧ okP cs7 ∧ one cs7 ∧ ps7.length ≤ 500 ∧ cs7.length ≤ 500 := by
    by_cases g : r 1 % 8 = 2
    · have gg : opEq2 (.d (.int (r 1 % 8))) (.d (.int 2)) = some (.d (.bool true)) := by rw [eq_i, decide_eq_true g]
      have i34 := ix 34 (by omega) (by omega)
      have m34 : opMod (.d (.int (r (34 : Int).toNat))) (.d (.int 8)) = some (.d (.int (r 34 % 8))) := mod_i (by omega)
      obtain ⟨b1, b2⟩ := mod_lt (a := r 34) (b := 8) (by omega)
      obtain ⟨w, hw⟩ : ∃ w : Nat, 2 * (r 34 % 8) = (w : Nat) := ⟨(2 * (r 34 % 8)).toNat, by omega⟩
      have mm := mulI 2 (r 34 % 8) (by omega)
      rw [hw] at mm
      let q : Nat × Int → Bool := fun p => !decide (((p.1 : Nat) : Int) ∈ [((w : Nat) : Int), (w : Nat) + 1])
      have e1 : sSet 7 (bind2 opMul2 (eC (.int 2)) (bind2 opMod (bindA (op1 fInt) (aCons (bind2 opIx (eVar 1) (eC (.int 34))) (aNil))) (eC (.int 8)))) (lE ns row nums ps cs6 x5 p6 none none none none none) = some (.nx (lE ns row nums ps cs6 x5 p6 (some (.int (w : Nat))) none none none none)) := by
        unfold lE
        simp only [mkF, sSeq, sSet, sIf, sRet, sRetN, sNext, sBrk, sCont, sDrop, sFrz, freeze, sPar, putAll, putR, outR, sAsg, sApp, sExt, sPop, sSetIx, sAug, sFor, ownAt, eVar, eC, bind1, bind2, bindA, aCons, aNil, op1, tb, tT', tru, isB, bAnd, bOr, bNot, eAnd, eOr, eNot, eIf, eTup, eLst, toD, toDs, eSl, pNo, pAt, eCall, isBor, noLR, fInt, fList, fTuple, unNeg, gNm, gTp, gAll, iRg1, iRg2, iSeq, itsOf, sv, lv, dv, tYesB, List.map_cons, List.map_nil, List.append_eq, List.cons_append, List.nil_append, List.replicate_succ, List.replicate_zero, Option.bind_some, Option.bind_none, Option.map_some, Option.map_none, Option.some_or, Option.none_or, List.getElem?_cons_zero, List.getElem?_cons_succ, List.set_cons_zero, List.set_cons_succ, List.length_cons, List.length_nil, List.any_cons, List.any_nil, if_true, if_false, ite_true, ite_false, Bool.false_eq_true, reduceIte, Nat.reduceAdd, Nat.reduceSub, Nat.reduceLT, Nat.reduceLeDiff, Bool.or_false, Bool.false_or, Bool.or_self, Bool.not_true, Bool.not_false, i34, m34, mm]
      have c1 : eLc (iSeq false (eVar 3)) [12] (gNm 12) (tb (bind2 opNotIn (bind2 opIx (eVar 12) (eC (.int 0))) (eTup (aCons (eVar 7) (aCons (bind2 opAdd (eVar 7) (eC (.int 1))) (aNil)))))) (eVar 12) (lE ns row nums ps cs6 x5 p6 (some (.int (w : Nat))) none none none none) = some (.own ((ps.filter q).map prD)) := by
        rw [own_xsf prD (xs := ps) (by omega) q prD rfl]
        intro x hx
        have ni : opNotIn (.d (.int (x.1 : Nat))) (.d (.tuple [.int (w : Nat), .int ((w : Nat) + 1)])) = some (.d (.bool (q x))) := notIn_of (α := Int) (x.1 : Nat) [((w : Nat) : Int), (w : Nat) + 1] rfl (.inr rfl)
        refine ⟨_, rfl, ?_, fun _ => rfl⟩
        simp only [lE, wipeE, mkF, sSeq, sSet, sIf, sRet, sRetN, sNext, sBrk, sCont, sDrop, sFrz, freeze, sPar, putAll, putR, outR, sAsg, sApp, sExt, sPop, sSetIx, sAug, sFor, ownAt, eVar, eC, bind1, bind2, bindA, aCons, aNil, op1, tb, tT', tru, isB, bAnd, bOr, bNot, eAnd, eOr, eNot, eIf, eTup, eLst, toD, toDs, eSl, pNo, pAt, eCall, isBor, noLR, fInt, fList, fTuple, unNeg, gNm, gTp, gAll, iRg1, iRg2, iSeq, itsOf, sv, lv, dv, tYesB, List.map_cons, List.map_nil, List.append_eq, List.cons_append, List.nil_append, List.replicate_succ, List.replicate_zero, Option.bind_some, Option.bind_none, Option.map_some, Option.map_none, Option.some_or, Option.none_or, List.getElem?_cons_zero, List.getElem?_cons_succ, List.set_cons_zero, List.set_cons_succ, List.length_cons, List.length_nil, List.any_cons, List.any_nil, if_true, if_false, ite_true, ite_false, Bool.false_eq_true, reduceIte, Nat.reduceAdd, Nat.reduceSub, Nat.reduceLT, Nat.reduceLeDiff, Bool.or_false, Bool.false_or, Bool.or_self, Bool.not_true, Bool.not_false, pr_0, add_i, k2, ni]
      have hq := okP_filter hps q
      have hqo := one_filter hpo q
      have hql : (ps.filter q).length ≤ ps.length := List.length_filter_le _ _
      have qn : ∀ x ∈ ps.filter q, x.1 ≠ w ∧ x.1 ≠ w + 1 := fun x hx => by
        have h := (List.mem_filter.mp hx).2
        have h : (!decide (((x.1 : Nat) : Int) ∈ [((w : Nat) : Int), (w : Nat) + 1])) = true := h
        rw [Bool.not_eq_true', decide_eq_false_iff_not] at h
        simp only [List.mem_cons, List.not_mem_nil, or_false, not_or] at h
        omega
      generalize ps.filter q = qs at *
      have e2 : sFrz 7 (sSet 4 (eLc (iSeq false (eVar 3)) [12] (gNm 12) (tb (bind2 opNotIn (bind2 opIx (eVar 12) (eC (.int 0))) (eTup (aCons (eVar 7) (aCons (bind2 opAdd (eVar 7) (eC (.int 1))) (aNil)))))) (eVar 12))) (lE ns row nums ps cs6 x5 p6 (some (.int (w : Nat))) none none none none) = some (.nx (lE ns row nums ps qs x5 p6 (some (.int (w : Nat))) none none none none)) := by
        show sSet 4 _ (lE ns row nums ps cs6 x5 p6 (some (.int (w : Nat))) none none none none) = _
        unfold sSet
        rw [c1]
        rfl
      have app : ∀ a b : Int, qs.map prD ++ [.tuple [.int (w : Nat), .int a], .tuple [.int ((w : Nat) + 1), .int b]] = (qs ++ [(w, a), (w + 1, b)]).map prD := fun a b => by
        rw [List.map_append]
        rfl
      have ok2 : ∀ a b : Int, okP (qs ++ [(w, a), (w + 1, b)]) ∧ one (qs ++ [(w, a), (w + 1, b)]) := fun a b => by
        refine ⟨okP_app hq fun p hp => ?_, one_app hqo (fun x hx y hy e => ?_) fun x hx y hy e => ?_⟩
        · simp only [List.mem_cons, List.not_mem_nil, or_false] at hp
          rcases hp with rfl | rfl
          · show w < 16
            omega
          · show w + 1 < 16
            omega
        · simp only [List.mem_cons, List.not_mem_nil, or_false] at hx hy
          rcases hx with rfl | rfl <;> rcases hy with rfl | rfl
          · rfl
          · exact absurd e (by show ¬ (w = w + 1); omega)
          · exact absurd e (by show ¬ (w + 1 = w); omega)
          · rfl
        · have := qn x hx
          simp only [List.mem_cons, List.not_mem_nil, or_false] at hy
          rcases hy with rfl | rfl
          · exact this.1 e
          · exact this.2 e
      have ll : ∀ a b : Int, (qs ++ [(w, a), (w + 1, b)]).length ≤ 100 := fun a b => by
        rw [List.length_append]
        show qs.length + 2 ≤ 100
        omega
      have ct1 : opAdd (.bor (qs.map prD)) (.own [.tuple [.int (w : Nat), .int 10], .tuple [.int ((w : Nat) + 1), .int 20]]) = some (.own ((qs ++ [(w, 10), (w + 1, 20)]).map prD)) := by
        rw [← app]
        have : (qs.map prD).length + 2 ≤ LIM := lim_small' (by rw [List.length_map]; omega)
        show (Option.or (none : Option R) (Option.or (none : Option R) (Option.or (if (qs.map prD).length + 2 ≤ LIM then some (R.own _) else none) _))) = _
        rw [if_pos this]
        rfl
      have ct2 : opAdd (.bor (qs.map prD)) (.own [.tuple [.int (w : Nat), .int 15], .tuple [.int ((w : Nat) + 1), .int 3]]) = some (.own ((qs ++ [(w, 15), (w + 1, 3)]).map prD)) := by
        rw [← app]
        have : (qs.map prD).length + 2 ≤ LIM := lim_small' (by rw [List.length_map]; omega)
        show (Option.or (none : Option R) (Option.or (none : Option R) (Option.or (if (qs.map prD).length + 2 ≤ LIM then some (R.own _) else none) _))) = _
        rw [if_pos this]
        rfl
      have so := (sorted_ok (qs ++ [(w, 10), (w + 1, 20)]) (by have := ll 10 20; omega)).2
      refine ⟨srt (qs ++ [(w, 10), (w + 1, 20)]), qs ++ [(w, 15), (w + 1, 3)], some (.int (w : Nat)), ?_, okP_perm (srt_perm _) (ok2 10 20).1, (ok2 15 3).1, (ok2 15 3).2, by rw [(srt_perm _).length_eq]; have := ll 10 20; omega, by have := ll 15 3; omega⟩
      have ec : tb (bind2 opEq2 (bind2 opMod (bindA (op1 fInt) (aCons (bind2 opIx (eVar 1) (eC (.int 1))) (aNil))) (eC (.int 8))) (eC (.int 2))) (lE ns row nums ps cs6 x5 p6 none none none none none) = some true := by
        unfold lE
        simp only [mkF, sSeq, sSet, sIf, sRet, sRetN, sNext, sBrk, sCont, sDrop, sFrz, freeze, sPar, putAll, putR, outR, sAsg, sApp, sExt, sPop, sSetIx, sAug, sFor, ownAt, eVar, eC, bind1, bind2, bindA, aCons, aNil, op1, tb, tT', tru, isB, bAnd, bOr, bNot, eAnd, eOr, eNot, eIf, eTup, eLst, toD, toDs, eSl, pNo, pAt, eCall, isBor, noLR, fInt, fList, fTuple, unNeg, gNm, gTp, gAll, iRg1, iRg2, iSeq, itsOf, sv, lv, dv, tYesB, List.map_cons, List.map_nil, List.append_eq, List.cons_append, List.nil_append, List.replicate_succ, List.replicate_zero, Option.bind_some, Option.bind_none, Option.map_some, Option.map_none, Option.some_or, Option.none_or, List.getElem?_cons_zero, List.getElem?_cons_succ, List.set_cons_zero, List.set_cons_succ, List.length_cons, List.length_nil, List.any_cons, List.any_nil, if_true, if_false, ite_true, ite_false, Bool.false_eq_true, reduceIte, Nat.reduceAdd, Nat.reduceSub, Nat.reduceLT, Nat.reduceLeDiff, Bool.or_false, Bool.false_or, Bool.or_self, Bool.not_true, Bool.not_false, i1, m1, gg]
      unfold S_law_7 sIf
      rw [ec, Option.bind_some, if_pos rfl, seq_nx e1, seq_nx e2]
      unfold lE
      simp only [mkF, sSeq, sSet, sIf, sRet, sRetN, sNext, sBrk, sCont, sDrop, sFrz, freeze, sPar, putAll, putR, outR, sAsg, sApp, sExt, sPop, sSetIx, sAug, sFor, ownAt, eVar, eC, bind1, bind2, bindA, aCons, aNil, op1, tb, tT', tru, isB, bAnd, bOr, bNot, eAnd, eOr, eNot, eIf, eTup, eLst, toD, toDs, eSl, pNo, pAt, eCall, isBor, noLR, fInt, fList, fTuple, unNeg, gNm, gTp, gAll, iRg1, iRg2, iSeq, itsOf, sv, lv, dv, tYesB, List.map_cons, List.map_nil, List.append_eq, List.cons_append, List.nil_append, List.replicate_succ, List.replicate_zero, Option.bind_some, Option.bind_none, Option.map_some, Option.map_none, Option.some_or, Option.none_or, List.getElem?_cons_zero, List.getElem?_cons_succ, List.set_cons_zero, List.set_cons_succ, List.length_cons, List.length_nil, List.any_cons, List.any_nil, if_true, if_false, ite_true, ite_false, Bool.false_eq_true, reduceIte, Nat.reduceAdd, Nat.reduceSub, Nat.reduceLT, Nat.reduceLeDiff, Bool.or_false, Bool.false_or, Bool.or_self, Bool.not_true, Bool.not_false, k2, add_i, ct1, ct2, so]
    · have gg : opEq2 (.d (.int (r 1 % 8))) (.d (.int 2)) = some (.d (.bool false)) := by rw [eq_i, decide_eq_false g]
      refine ⟨ps, cs6, none, ?_, hps, hc6, ho6, by omega, by omega⟩
      unfold S_law_7 lE
      simp only [mkF, sSeq, sSet, sIf, sRet, sRetN, sNext, sBrk, sCont, sDrop, sFrz, freeze, sPar, putAll, putR, outR, sAsg, sApp, sExt, sPop, sSetIx, sAug, sFor, ownAt, eVar, eC, bind1, bind2, bindA, aCons, aNil, op1, tb, tT', tru, isB, bAnd, bOr, bNot, eAnd, eOr, eNot, eIf, eTup, eLst, toD, toDs, eSl, pNo, pAt, eCall, isBor, noLR, fInt, fList, fTuple, unNeg, gNm, gTp, gAll, iRg1, iRg2, iSeq, itsOf, sv, lv, dv, tYesB, List.map_cons, List.map_nil, List.append_eq, List.cons_append, List.nil_append, List.replicate_succ, List.replicate_zero, Option.bind_some, Option.bind_none, Option.map_some, Option.map_none, Option.some_or, Option.none_or, List.getElem?_cons_zero, List.getElem?_cons_succ, List.set_cons_zero, List.set_cons_succ, List.length_cons, List.length_nil, List.any_cons, List.any_nil, if_true, if_false, ite_true, ite_false, Bool.false_eq_true, reduceIte, Nat.reduceAdd, Nat.reduceSub, Nat.reduceLT, Nat.reduceLeDiff, Bool.or_false, Bool.false_or, Bool.or_self, Bool.not_true, Bool.not_false, i1, m1, gg]
  have fin := law_end ns row nums ps7 cs7 hp7 hc7 ho7 hpl7 hcl7 x5 p6 p7 r ix
  refine F_of rfl rfl ?_ rfl
  show B_law [some (.d (.dict (ns.map scrI))), none, none, none, none, none, none, none, none, none, none, none, none] = _
  unfold B_law
  rw [seq_nx s1, seq_nx s2, seq_nx s3, seq_nx s4, seq_nx s5, seq_nx s6, seq_nx s7, fin]
end LW19

/-! the walk -/
namespace LW19
open PySem PySem.Spec L2 PV
def topS (i : Nat) : Stmt := PySem.Challenge.pw_farkept_k19_whole_prints_summed.main.body.getD i (.Pass ⟨0, 0, 0, 0⟩)
/-- what the top has written -/
structure Top (K : PySem.W.Frag) (mg : Str → Option Value) : Prop where
  t__law_is_int : TF K mg "_law_is_int" (topS 12) ["value"]
  t__law_like : TF K mg "_law_like" (topS 13) ["value", "due"]
  t__law_unlike : TF K mg "_law_unlike" (topS 17) ["one", "other"]
  t_unlike_keys : TF K mg "unlike_keys" (topS 5) ["first", "second"]
  t_is_found : TF K mg "is_found" (topS 6) ["first", "second"]
  t__law_both_right : TF K mg "_law_both_right" (topS 18) ["first", "second", "one", "other"]
  t__law_sum : TF K mg "_law_sum" (topS 15) ["numbers"]
  t__law_levels : TF K mg "_law_levels" (topS 16) ["numbers"]
  t__law_numbers : TF K mg "_law_numbers" (topS 14) ["pairs"]
  t__print_of : TF K mg "_print_of" (topS 3) ["low", "high"]
  t_judge_proof : TF K mg "judge_proof" (topS 8) ["key", "number", "neighbours", "last"]
  t_proof_of : TF K mg "proof_of" (topS 7) ["levels", "key"]
  t__law_proof_right : TF K mg "_law_proof_right" (topS 19) ["first", "one", "second", "other", "key", "more"]
  t__law_mixed : TF K mg "_law_mixed" (topS 10) ["script", "k"]
  t__law_row : TF K mg "_law_row" (topS 11) ["script", "many"]
  t_print_tree : TF K mg "print_tree" (topS 4) ["pairs"]
  t_law : TF K mg "law" (topS 20) ["script"]
  z_all : mg "all" = none
  z_bool : mg "bool" = none
  z_int : mg "int" = none
  z_isinstance : mg "isinstance" = none
  z_len : mg "len" = none
  z_range : mg "range" = none
  z_sorted : mg "sorted" = none
  z_str : mg "str" = none
  z_sum : mg "sum" = none
  z_tuple : mg "tuple" = none
  g_PRINTED_KEYS : ∃ u, mg "PRINTED_KEYS" = some u ∧ L2.RelV (.int 16) u
  g_PRINT_RANGE : ∃ u, mg "PRINT_RANGE" = some u ∧ L2.RelV (.int 997) u
section
variable {P : Program} {w : World} {K : PySem.W.Frag} {mg : Str → Option Value}
theorem sc__law_is_int : FnScope ["value"] ["value"] (defScope (topS 12)) := ⟨rfl, rfl, rfl, by decide +kernel, rfl, by decide +kernel, by decide +kernel⟩
theorem ok__law_is_int (T : Top K mg) : Has P w K mg 1 "_law_is_int" ["value"] 1 F__law_is_int := fnH (k := 0) T.t__law_is_int sc__law_is_int rfl fun base f cdv A outer s H E hr => by
  exact sb_one (ss_ret (se_and (se_isi (by rfl) T.z_isinstance (by rfl) T.z_int (by decide +kernel) (se_var 0)) (se_bool1 (se_not (se_isi (by rfl) T.z_isinstance (by rfl) T.z_bool (by decide +kernel) (se_var 0))))))
theorem sc__law_like : FnScope ["value", "due", "k"] ["value", "due"] (defScope (topS 13)) := ⟨rfl, rfl, rfl, by decide +kernel, rfl, by decide +kernel, by decide +kernel⟩
theorem ok__law_like (T : Top K mg) : ∀ n, Has P w K mg (n + 2) "_law_like" ["value", "due"] 2 (F__law_like n)
  | 0 => hasZero T.t__law_like
  | n + 1 => fnH T.t__law_like sc__law_like rfl fun base f cdv A outer s H E hr => by
    have ih := ok__law_like T n
    exact sb_cons (ss_if (st_cmp (os_isN) (se_var 1) (se_non) (nomark _)) (sb_one (ss_ret (se_cmp (os_isN) (se_var 0) (se_non) (nomark _)))) (sb_nil)) (sb_cons (ss_if (st_truth (se_isi (by rfl) T.z_isinstance (by rfl) T.z_bool (by decide +kernel) (se_var 1))) (sb_one (ss_ret (se_and (se_isi (by rfl) T.z_isinstance (by rfl) T.z_bool (by decide +kernel) (se_var 0)) (se_bool1 (se_cmp (os_eq2 hr) (se_var 0) (se_var 1) (nomark _)))))) (sb_nil)) (sb_cons (ss_if (st_truth (se_isi (by rfl) T.z_isinstance (by rfl) T.z_tuple (by decide +kernel) (se_var 1))) (sb_cons (ss_if (st_of (sw_or (st_not (st_truth (se_isi (by rfl) T.z_isinstance (by rfl) T.z_tuple (by decide +kernel) (se_var 0)))) (sw_or1 (st_cmp (os_ne2 hr) (se_callB cs_len (by rfl) T.z_len (by decide +kernel) (sa_cons (se_var 0) (sa_nil))) (se_callB cs_len (by rfl) T.z_len (by decide +kernel) (sa_cons (se_var 1) (sa_nil))) (nomark _))))) (sb_one (ss_ret (se_bl))) (sb_nil)) (sb_one (ss_ret (se_callB (cs_all rfl) (by rfl) T.z_all (by decide +kernel) (sa_cons (se_lc (own := [("k", 2)]) rfl sc__law_like.nd (si_rg1 false (by rfl) T.z_range (sa_cons (se_callB cs_len (by rfl) T.z_len (by decide +kernel) (sa_cons (se_var 1) (sa_nil))) (sa_nil))) (by kernel_rfl) (fun _ _ _ _ _ => sg_nm 2 sc__law_like.nd) (fun _ _ _ _ _ => sts_nil) (fun _ _ _ _ _ => se_callH ih hr (by rfl) (sa_cons (se_ix (se_var 0) (se_var 2)) (sa_cons (se_ix (se_var 1) (se_var 2)) (sa_nil))))) (sa_nil)))))) (sb_nil)) (sb_cons (ss_if (st_truth (se_isi (by rfl) T.z_isinstance (by rfl) T.z_str (by decide +kernel) (se_var 1))) (sb_one (ss_ret (se_and (se_isi (by rfl) T.z_isinstance (by rfl) T.z_str (by decide +kernel) (se_var 0)) (se_bool1 (se_cmp (os_eq2 hr) (se_var 0) (se_var 1) (nomark _)))))) (sb_nil)) (sb_one (ss_ret (se_and (se_callH (ok__law_is_int T) (hr.mono (by omega)) (by rfl) (sa_cons (se_var 0) (sa_nil))) (se_bool1 (se_cmp (os_eq2 hr) (se_var 0) (se_var 1) (nomark _)))))))))
theorem sc__law_unlike : FnScope ["one", "other", "reached", "looked", "level", "differ", "place"] ["one", "other"] (defScope (topS 17)) := ⟨rfl, rfl, rfl, by decide +kernel, rfl, by decide +kernel, by decide +kernel⟩
theorem ok__law_unlike (T : Top K mg) : Has P w K mg 1 "_law_unlike" ["one", "other"] 2 F__law_unlike := fnH (k := 0) T.t__law_unlike sc__law_unlike rfl fun base f cdv A outer s H E hr => by
  exact sb_cons (ss_par2 2 3 rfl sc__law_unlike.nd (sa_cons (se_lst (sa_cons (se_int) (sa_nil))) (sa_cons (se_int) (sa_nil)))) (sb_cons (ss_for PassesOwn.never rfl (si_rg3 true (by rfl) T.z_range (sa_cons (se_int) (sa_cons (se_neg (se_int)) (sa_cons (se_neg (se_int)) (sa_nil))))) (sg_nm 4 sc__law_unlike.nd) (sb_cons (ss_frz 6 (ss_setLc 5 (own := [("place", 6)]) rfl sc__law_unlike.nd (si_seq false (se_var 2)) (by kernel_rfl) (fun _ _ _ _ _ => sg_nm 6 sc__law_unlike.nd) (fun _ _ _ _ _ => sts_one (st_cmp (os_ne2 hr) (se_ix (se_ix (se_var 0) (se_var 4)) (se_var 6)) (se_ix (se_ix (se_var 1) (se_var 4)) (se_var 6)) (nomark _))) (fun _ _ _ _ _ => se_var 6))) (sb_cons (ss_if (st_cmp (os_eq2 hr) (se_var 4) (se_int) (nomark _)) (sb_one (ss_frz 3 (ss_ret (se_tup (sa_cons (se_callTy cs_tuple (by rfl) T.z_tuple (by decide +kernel) (sa_cons (se_var 5) (sa_nil))) (sa_cons (se_var 3) (sa_nil))))))) (sb_nil)) (sb_cons (ss_par2 2 3 rfl sc__law_unlike.nd (sa_cons (se_lst (sa_nil)) (sa_cons (se_op os_add (se_var 3) (se_op os_mul2 (se_int) (se_callB cs_len (by rfl) T.z_len (by decide +kernel) (sa_cons (se_var 5) (sa_nil))))) (sa_nil)))) (sb_one (ss_frz 5 (ss_for PassesOwn.never rfl (si_seq true (se_var 5)) (sg_nm 6 sc__law_unlike.nd) (sb_one (ss_ext 2 (se_lst (sa_cons (se_op os_mul2 (se_int) (se_var 6)) (sa_cons (se_op os_add (se_op os_mul2 (se_int) (se_var 6)) (se_int)) (sa_nil))))))))))))) (sb_one (ss_ret (se_non))))
theorem sc_unlike_keys : FnScope ["first", "second", "looked", "places", "unlike", "level", "place", "above"] ["first", "second"] (defScope (topS 5)) := ⟨rfl, rfl, rfl, by decide +kernel, rfl, by decide +kernel, by decide +kernel⟩
theorem ok_unlike_keys (T : Top K mg) : Has P w K mg 1 "unlike_keys" ["first", "second"] 2 F_unlike_keys := fnH (k := 0) T.t_unlike_keys sc_unlike_keys rfl fun base f cdv A outer s H E hr => by
  exact sb_cons (ss_set 2 sc_unlike_keys.nd (se_int)) (sb_cons (ss_set 3 sc_unlike_keys.nd (se_lst (sa_cons (se_int) (sa_nil)))) (sb_cons (ss_set 4 sc_unlike_keys.nd (se_lst (sa_nil))) (sb_cons (ss_for PassesOwn.never rfl (si_rg3 true (by rfl) T.z_range (sa_cons (se_op os_sub (se_callB cs_len (by rfl) T.z_len (by decide +kernel) (sa_cons (se_var 0) (sa_nil))) (se_int)) (sa_cons (se_neg (se_int)) (sa_cons (se_neg (se_int)) (sa_nil))))) (sg_nm 5 sc_unlike_keys.nd) (sb_cons (ss_aug 2 is_add sc_unlike_keys.nd (se_callB cs_len (by rfl) T.z_len (by decide +kernel) (sa_cons (se_var 3) (sa_nil)))) (sb_cons (ss_setLc 4 (own := [("place", 6)]) rfl sc_unlike_keys.nd (si_seq false (se_var 3)) (by kernel_rfl) (fun _ _ _ _ _ => sg_nm 6 sc_unlike_keys.nd) (fun _ _ _ _ _ => sts_one (st_cmp (os_ne2 hr) (se_ix (se_ix (se_var 0) (se_var 5)) (se_var 6)) (se_ix (se_ix (se_var 1) (se_var 5)) (se_var 6)) (nomark _))) (fun _ _ _ _ _ => se_var 6)) (sb_one (ss_setLc2 3 (own := [("above", 7), ("place", 6)]) (vs1 := [6]) rfl sc_unlike_keys.nd (si_seq false (se_var 4)) (by kernel_rfl) (fun _ _ _ _ _ => sg_nm 7 sc_unlike_keys.nd) (fun _ _ _ _ _ => sts_nil) (fun _ _ _ _ _ => si_seq true (se_tup (sa_cons (se_op os_mul2 (se_int) (se_var 7)) (sa_cons (se_op os_add (se_op os_mul2 (se_int) (se_var 7)) (se_int)) (sa_nil))))) (fun _ _ _ _ _ => sg_nm 6 sc_unlike_keys.nd) (fun _ _ _ _ _ => sts_nil) (fun _ _ _ _ _ => se_var 6)))))) (sb_one (ss_frz 2 (ss_ret (se_tup (sa_cons (se_callTy cs_tuple (by rfl) T.z_tuple (by decide +kernel) (sa_cons (se_var 4) (sa_nil))) (sa_cons (se_var 2) (sa_nil))))))))))
theorem sc_is_found : FnScope ["first", "second", "unlike", "key"] ["first", "second"] (defScope (topS 6)) := ⟨rfl, rfl, rfl, by decide +kernel, rfl, by decide +kernel, by decide +kernel⟩
theorem ok_is_found (T : Top K mg) : Has P w K mg 2 "is_found" ["first", "second"] 2 F_is_found := fnH (k := 1) T.t_is_found sc_is_found rfl fun base f cdv A outer s H E hr => by
  exact sb_cons (ss_setLc 2 (own := [("key", 3)]) rfl sc_is_found.nd (si_rg1 false (by rfl) T.z_range (sa_cons (se_callB cs_len (by rfl) T.z_len (by decide +kernel) (sa_cons (se_ix (se_var 0) (se_int)) (sa_nil))) (sa_nil))) (by kernel_rfl) (fun _ _ _ _ _ => sg_nm 3 sc_is_found.nd) (fun _ _ _ _ _ => sts_one (st_cmp (os_ne2 hr) (se_ix (se_ix (se_var 0) (se_int)) (se_var 3)) (se_ix (se_ix (se_var 1) (se_int)) (se_var 3)) (nomark _))) (fun _ _ _ _ _ => se_var 3)) (sb_one (ss_ret (se_cmp (os_eq2 hr) (se_ix (se_callH (ok_unlike_keys T) (hr.mono (by decide)) (by rfl) (sa_cons (se_var 0) (sa_cons (se_var 1) (sa_nil)))) (se_int)) (se_callTy cs_tuple (by rfl) T.z_tuple (by decide +kernel) (sa_cons (se_var 2) (sa_nil))) (nomark _))))
theorem sc__law_both_right : FnScope ["first", "second", "one", "other", "due", "differ", "told", "key"] ["first", "second", "one", "other"] (defScope (topS 18)) := ⟨rfl, rfl, rfl, by decide +kernel, rfl, by decide +kernel, by decide +kernel⟩
theorem ok__law_both_right (T : Top K mg) : Has P w K mg 11 "_law_both_right" ["first", "second", "one", "other"] 4 F__law_both_right := fnH (k := 10) T.t__law_both_right sc__law_both_right rfl fun base f cdv A outer s H E hr => by
  exact sb_cons (ss_set 4 sc__law_both_right.nd (se_callH (ok__law_unlike T) (hr.mono (by decide)) (by rfl) (sa_cons (se_var 2) (sa_cons (se_var 3) (sa_nil))))) (sb_cons (ss_frz 4 (ss_if (st_not (st_truth (se_callH (ok__law_like T 8) (hr.mono (by decide)) (by rfl) (sa_cons (se_tup (sa_cons (se_callH (ok_unlike_keys T) (hr.mono (by decide)) (by rfl) (sa_cons (se_var 0) (sa_cons (se_var 1) (sa_nil)))) (sa_cons (se_callH (ok_unlike_keys T) (hr.mono (by decide)) (by rfl) (sa_cons (se_var 1) (sa_cons (se_var 0) (sa_nil)))) (sa_nil)))) (sa_cons (se_tup (sa_cons (se_var 4) (sa_cons (se_var 4) (sa_nil)))) (sa_nil)))))) (sb_one (ss_ret (se_bl))) (sb_nil))) (sb_cons (ss_set 5 sc__law_both_right.nd (se_callTy cs_tuple (by rfl) T.z_tuple (by decide +kernel) (sa_cons (se_lc (own := [("key", 7)]) rfl sc__law_both_right.nd (si_rg1 false (by rfl) T.z_range (sa_cons (se_int) (sa_nil))) (by kernel_rfl) (fun _ _ _ _ _ => sg_nm 7 sc__law_both_right.nd) (fun _ _ _ _ _ => sts_one (st_cmp (os_ne2 hr) (se_ix (se_ix (se_var 2) (se_int)) (se_var 7)) (se_ix (se_ix (se_var 3) (se_int)) (se_var 7)) (nomark _))) (fun _ _ _ _ _ => se_var 7)) (sa_nil)))) (sb_cons (ss_frz 5 (ss_if (st_of (sw_or (st_not (st_truth (se_callB (cs_all rfl) (by rfl) T.z_all (by decide +kernel) (sa_cons (se_lc (own := [("key", 7)]) rfl sc__law_both_right.nd (si_seq false (se_ix (se_var 4) (se_int))) (by kernel_rfl) (fun _ _ _ _ _ => sg_nm 7 sc__law_both_right.nd) (fun _ _ _ _ _ => sts_nil) (fun _ _ _ _ _ => se_cmp (os_in hr) (se_var 7) (se_var 5) (by with_unfolding_all rfl))) (sa_nil))))) (sw_or1 (st_of (sw_and (st_cmp (os_eq2 hr) (se_callB cs_len (by rfl) T.z_len (by decide +kernel) (sa_cons (se_var 5) (sa_nil))) (se_int) (nomark _)) (sw_and1 (st_cmp (os_ne2 hr) (se_var 4) (se_tup (sa_cons (se_var 5) (sa_cons (se_int) (sa_nil)))) (nomark _)))))))) (sb_one (ss_ret (se_bl))) (sb_nil))) (sb_cons (ss_set 6 sc__law_both_right.nd (se_tup (sa_cons (se_callH (ok_is_found T) (hr.mono (by decide)) (by rfl) (sa_cons (se_var 0) (sa_cons (se_var 1) (sa_nil)))) (sa_cons (se_callH (ok_is_found T) (hr.mono (by decide)) (by rfl) (sa_cons (se_var 1) (sa_cons (se_var 0) (sa_nil)))) (sa_cons (se_callH (ok_unlike_keys T) (hr.mono (by decide)) (by rfl) (sa_cons (se_var 0) (sa_cons (se_var 0) (sa_nil)))) (sa_cons (se_callH (ok_is_found T) (hr.mono (by decide)) (by rfl) (sa_cons (se_var 0) (sa_cons (se_var 0) (sa_nil)))) (sa_nil))))))) (sb_one (ss_ret (se_callH (ok__law_like T 8) (hr.mono (by decide)) (by rfl) (sa_cons (se_var 6) (sa_cons (se_tup (sa_cons (se_cmp (os_eq2 hr) (se_ix (se_var 4) (se_int)) (se_var 5) (nomark _)) (sa_cons (se_cmp (os_eq2 hr) (se_ix (se_var 4) (se_int)) (se_var 5) (nomark _)) (sa_cons (se_tup (sa_cons (se_tup (sa_nil)) (sa_cons (se_int) (sa_nil)))) (sa_cons (se_bl) (sa_nil)))))) (sa_nil))))))))))
theorem sc__law_sum : FnScope ["numbers", "weights", "rest", "turn", "one", "k"] ["numbers"] (defScope (topS 15)) := ⟨rfl, rfl, rfl, by decide +kernel, rfl, by decide +kernel, by decide +kernel⟩
theorem ok__law_sum (T : Top K mg) : Has P w K mg 1 "_law_sum" ["numbers"] 1 F__law_sum := fnH (k := 0) T.t__law_sum sc__law_sum rfl fun base f cdv A outer s H E hr => by
  exact sb_cons (ss_parN [1, 2] rfl (sa_cons (se_lst (sa_cons (se_int) (sa_nil))) (sa_cons (se_int) (sa_nil))) (pgs_nm 1 sc__law_sum.nd (pgs_nm 2 sc__law_sum.nd (pgs_nm0)))) (sb_cons (ss_for PassesOwn.never rfl (si_rg1 true (by rfl) T.z_range (sa_cons (se_int) (sa_nil))) (sg_nm 3 sc__law_sum.nd) (sb_one (ss_if (st_cmp (os_lt2 hr) (se_callB cs_len (by rfl) T.z_len (by decide +kernel) (sa_cons (se_var 1) (sa_nil))) (se_callB cs_len (by rfl) T.z_len (by decide +kernel) (sa_cons (se_var 0) (sa_nil))) (nomark _)) (sb_one (ss_parN [1, 2] rfl (sa_cons (se_op os_add (se_lc (own := [("one", 4)]) rfl sc__law_sum.nd (si_seq false (se_var 1)) (by kernel_rfl) (fun _ _ _ _ _ => sg_nm 4 sc__law_sum.nd) (fun _ _ _ _ _ => sts_nil) (fun _ _ _ _ _ => se_op os_mul2 (se_int) (se_var 4))) (se_lc (own := [("one", 4)]) rfl sc__law_sum.nd (si_seq false (se_var 1)) (by kernel_rfl) (fun _ _ _ _ _ => sg_nm 4 sc__law_sum.nd) (fun _ _ _ _ _ => sts_nil) (fun _ _ _ _ _ => se_op os_mul2 (se_int) (se_var 4)))) (sa_cons (se_op os_add (se_op os_mul2 (se_int) (se_var 2)) (se_int)) (sa_nil))) (pgs_nm 1 sc__law_sum.nd (pgs_nm 2 sc__law_sum.nd (pgs_nm0))))) (sb_nil)))) (sb_one (ss_ret (se_op os_mod (se_callTy cs_int (by rfl) T.z_int (by decide +kernel) (sa_cons (se_op os_add (se_var 2) (se_callB (cs_sum rfl) (by rfl) T.z_sum (by decide +kernel) (sa_cons (se_lc (own := [("k", 5)]) rfl sc__law_sum.nd (si_rg1 false (by rfl) T.z_range (sa_cons (se_callB cs_len (by rfl) T.z_len (by decide +kernel) (sa_cons (se_var 0) (sa_nil))) (sa_nil))) (by kernel_rfl) (fun _ _ _ _ _ => sg_nm 5 sc__law_sum.nd) (fun _ _ _ _ _ => sts_nil) (fun _ _ _ _ _ => se_op os_mul2 (se_ix (se_var 1) (se_var 5)) (se_ix (se_var 0) (se_var 5)))) (sa_nil)))) (sa_nil))) (se_int)))))
theorem sc__law_levels : FnScope ["numbers", "found", "size", "turn", "k"] ["numbers"] (defScope (topS 16)) := ⟨rfl, rfl, rfl, by decide +kernel, rfl, by decide +kernel, by decide +kernel⟩
theorem ok__law_levels (T : Top K mg) : Has P w K mg 2 "_law_levels" ["numbers"] 1 F__law_levels := fnH (k := 1) T.t__law_levels sc__law_levels rfl fun base f cdv A outer s H E hr => by
  exact sb_cons (ss_parN [1, 2] rfl (sa_cons (se_lst (sa_cons (se_callTy cs_tuple (by rfl) T.z_tuple (by decide +kernel) (sa_cons (se_var 0) (sa_nil))) (sa_nil))) (sa_cons (se_int) (sa_nil))) (pgs_nm 1 sc__law_levels.nd (pgs_nm 2 sc__law_levels.nd (pgs_nm0)))) (sb_cons (ss_for PassesOwn.never rfl (si_rg1 true (by rfl) T.z_range (sa_cons (se_int) (sa_nil))) (sg_nm 3 sc__law_levels.nd) (sb_cons (ss_app 1 (se_callTy cs_tuple (by rfl) T.z_tuple (by decide +kernel) (sa_cons (se_lc (own := [("k", 4)]) rfl sc__law_levels.nd (si_rg1 false (by rfl) T.z_range (sa_cons (se_op os_fdiv (se_int) (se_var 2)) (sa_nil))) (by kernel_rfl) (fun _ _ _ _ _ => sg_nm 4 sc__law_levels.nd) (fun _ _ _ _ _ => sts_nil) (fun _ _ _ _ _ => se_callH (ok__law_sum T) (hr.mono (by decide)) (by rfl) (sa_cons (se_sl (se_var 0) (so_some (se_op os_mul2 (se_var 2) (se_var 4))) (so_some (se_op os_add (se_op os_mul2 (se_var 2) (se_var 4)) (se_var 2)))) (sa_nil)))) (sa_nil)))) (sb_one (ss_set 2 sc__law_levels.nd (se_op os_mul2 (se_int) (se_var 2)))))) (sb_one (ss_ret (se_callTy cs_tuple (by rfl) T.z_tuple (by decide +kernel) (sa_cons (se_var 1) (sa_nil))))))
theorem sc__law_numbers : FnScope ["pairs", "found", "key", "value"] ["pairs"] (defScope (topS 14)) := ⟨rfl, rfl, rfl, by decide +kernel, rfl, by decide +kernel, by decide +kernel⟩
theorem ok__law_numbers (T : Top K mg) : Has P w K mg 1 "_law_numbers" ["pairs"] 1 F__law_numbers := fnH (k := 0) T.t__law_numbers sc__law_numbers rfl fun base f cdv A outer s H E hr => by
  exact sb_cons (ss_set 1 sc__law_numbers.nd (se_op os_mul2 (se_lst (sa_cons (se_int) (sa_nil))) (se_int))) (sb_cons (ss_frz 0 (ss_for PassesOwn.never rfl (si_seq true (se_var 0)) (sg_tp rfl (sgs_cons (sg_nm 2 sc__law_numbers.nd) (sgs_cons (sg_nm 3 sc__law_numbers.nd) (sgs_nil)))) (sb_one (ss_setIx 1 (se_var 2) (se_op os_mod (se_callTy cs_int (by rfl) T.z_int (by decide +kernel) (sa_cons (se_op os_add (se_op os_mul2 (se_int) (se_var 2)) (se_var 3)) (sa_nil))) (se_int)))))) (sb_one (ss_ret (se_var 1))))
theorem sc__print_of : FnScope ["low", "high"] ["low", "high"] (defScope (topS 3)) := ⟨rfl, rfl, rfl, by decide +kernel, rfl, by decide +kernel, by decide +kernel⟩
theorem ok__print_of (T : Top K mg) : Has P w K mg 1 "_print_of" ["low", "high"] 2 F__print_of := fnH (k := 0) T.t__print_of sc__print_of rfl fun base f cdv A outer s H E hr => by
  exact sb_one (ss_ret (se_op os_mod (se_op os_add (se_op os_add (se_op os_mul2 (se_int) (se_var 0)) (se_op os_mul2 (se_int) (se_var 1))) (se_int)) (se_gint T.g_PRINT_RANGE (by rfl))))
theorem sc_judge_proof : FnScope ["key", "number", "neighbours", "last", "place", "neighbour"] ["key", "number", "neighbours", "last"] (defScope (topS 8)) := ⟨rfl, rfl, rfl, by decide +kernel, rfl, by decide +kernel, by decide +kernel⟩
theorem ok_judge_proof (T : Top K mg) : Has P w K mg 2 "judge_proof" ["key", "number", "neighbours", "last"] 4 F_judge_proof := fnH (k := 1) T.t_judge_proof sc_judge_proof rfl fun base f cdv A outer s H E hr => by
  exact sb_cons (ss_frz 0 (ss_set 4 sc_judge_proof.nd (se_var 0))) (sb_cons (ss_frz 2 (ss_for PassesOwn.never rfl (si_seq true (se_var 2)) (sg_nm 5 sc_judge_proof.nd) (sb_cons (ss_if (st_cmp (os_eq2 hr) (se_op os_mod (se_var 4) (se_int)) (se_int) (nomark _)) (sb_one (ss_set 1 sc_judge_proof.nd (se_callH (ok__print_of T) (hr.mono (by decide)) (by rfl) (sa_cons (se_var 1) (sa_cons (se_var 5) (sa_nil)))))) (sb_one (ss_set 1 sc_judge_proof.nd (se_callH (ok__print_of T) (hr.mono (by decide)) (by rfl) (sa_cons (se_var 5) (sa_cons (se_var 1) (sa_nil))))))) (sb_one (ss_set 4 sc_judge_proof.nd (se_op os_fdiv (se_var 4) (se_int))))))) (sb_one (ss_ret (se_cmp (os_eq2 hr) (se_var 1) (se_var 3) (nomark _)))))
theorem sc_proof_of : FnScope ["levels", "key", "neighbours", "place", "level"] ["levels", "key"] (defScope (topS 7)) := ⟨rfl, rfl, rfl, by decide +kernel, rfl, by decide +kernel, by decide +kernel⟩
theorem ok_proof_of (T : Top K mg) : Has P w K mg 1 "proof_of" ["levels", "key"] 2 F_proof_of := fnH (k := 0) T.t_proof_of sc_proof_of rfl fun base f cdv A outer s H E hr => by
  exact sb_cons (ss_set 2 sc_proof_of.nd (se_lst (sa_nil))) (sb_cons (ss_frz 1 (ss_set 3 sc_proof_of.nd (se_var 1))) (sb_cons (ss_for PassesOwn.never rfl (si_seq true (se_sl (se_var 0) (so_none) (so_some (se_neg (se_int))))) (sg_nm 4 sc_proof_of.nd) (sb_cons (ss_app 2 (se_ix (se_var 4) (se_op os_sub (se_op os_add (se_var 3) (se_int)) (se_op os_mul2 (se_int) (se_op os_mod (se_var 3) (se_int)))))) (sb_one (ss_set 3 sc_proof_of.nd (se_op os_fdiv (se_var 3) (se_int)))))) (sb_one (ss_ret (se_callTy cs_tuple (by rfl) T.z_tuple (by decide +kernel) (sa_cons (se_var 2) (sa_nil)))))))
theorem sc__law_proof_right : FnScope ["first", "one", "second", "other", "key", "more", "due", "place", "level", "number", "wrong"] ["first", "one", "second", "other", "key", "more"] (defScope (topS 19)) := ⟨rfl, rfl, rfl, by decide +kernel, rfl, by decide +kernel, by decide +kernel⟩
theorem ok__law_proof_right (T : Top K mg) : Has P w K mg 11 "_law_proof_right" ["first", "one", "second", "other", "key", "more"] 6 F__law_proof_right := fnH (k := 10) T.t__law_proof_right sc__law_proof_right rfl fun base f cdv A outer s H E hr => by
  exact sb_cons (ss_frz 4 (ss_par2 6 7 rfl sc__law_proof_right.nd (sa_cons (se_lst (sa_nil)) (sa_cons (se_var 4) (sa_nil))))) (sb_cons (ss_for PassesOwn.never rfl (si_rg1 true (by rfl) T.z_range (sa_cons (se_int) (sa_nil))) (sg_nm 8 sc__law_proof_right.nd) (sb_cons (ss_app 6 (se_ix (se_ix (se_var 1) (se_var 8)) (se_op os_sub (se_op os_add (se_var 7) (se_int)) (se_op os_mul2 (se_int) (se_op os_mod (se_callTy cs_int (by rfl) T.z_int (by decide +kernel) (sa_cons (se_var 7) (sa_nil))) (se_int)))))) (sb_one (ss_set 7 sc__law_proof_right.nd (se_op os_fdiv (se_var 7) (se_int)))))) (sb_cons (ss_par2 6 9 rfl sc__law_proof_right.nd (sa_cons (se_callTy cs_tuple (by rfl) T.z_tuple (by decide +kernel) (sa_cons (se_var 6) (sa_nil))) (sa_cons (se_ix (se_ix (se_var 1) (se_int)) (se_var 4)) (sa_nil)))) (sb_cons (ss_frz 6 (ss_if (st_not (st_truth (se_callH (ok__law_like T 8) (hr.mono (by decide)) (by rfl) (sa_cons (se_tup (sa_cons (se_callH (ok_proof_of T) (hr.mono (by decide)) (by rfl) (sa_cons (se_var 0) (sa_cons (se_var 4) (sa_nil)))) (sa_cons (se_callH (ok_judge_proof T) (hr.mono (by decide)) (by rfl) (sa_cons (se_var 4) (sa_cons (se_var 9) (sa_cons (se_var 6) (sa_cons (se_ix (se_ix (se_var 1) (se_int)) (se_int)) (sa_nil)))))) (sa_nil)))) (sa_cons (se_tup (sa_cons (se_var 6) (sa_cons (se_bl) (sa_nil)))) (sa_nil)))))) (sb_one (ss_ret (se_bl))) (sb_nil))) (sb_cons (ss_set 10 sc__law_proof_right.nd (se_op os_mod (se_callTy cs_int (by rfl) T.z_int (by decide +kernel) (sa_cons (se_op os_add (se_var 9) (se_var 5)) (sa_nil))) (se_int))) (sb_cons (ss_if (st_cmp (os_notB) (se_callH (ok_judge_proof T) (hr.mono (by decide)) (by rfl) (sa_cons (se_var 4) (sa_cons (se_var 10) (sa_cons (se_var 6) (sa_cons (se_ix (se_ix (se_var 1) (se_int)) (se_int)) (sa_nil)))))) (se_bl) (nomark _)) (sb_one (ss_ret (se_bl))) (sb_nil)) (sb_one (ss_ret (se_callH (ok__law_like T 8) (hr.mono (by decide)) (by rfl) (sa_cons (se_callH (ok_judge_proof T) (hr.mono (by decide)) (by rfl) (sa_cons (se_var 4) (sa_cons (se_var 9) (sa_cons (se_var 6) (sa_cons (se_ix (se_ix (se_var 3) (se_int)) (se_int)) (sa_nil)))))) (sa_cons (se_cmp (os_eq2 hr) (se_ix (se_var 1) (se_int)) (se_ix (se_var 3) (se_int)) (nomark _)) (sa_nil)))))))))))
theorem sc__law_mixed : FnScope ["script", "k", "cell", "first", "second", "third"] ["script", "k"] (defScope (topS 10)) := ⟨rfl, rfl, rfl, by decide +kernel, rfl, by decide +kernel, by decide +kernel⟩
theorem ok__law_mixed (T : Top K mg) : Has P w K mg 1 "_law_mixed" ["script", "k"] 2 F__law_mixed := fnH (k := 0) T.t__law_mixed sc__law_mixed rfl fun base f cdv A outer s H E hr => by
  exact sb_cons (ss_set 2 sc__law_mixed.nd (se_int)) (sb_cons (ss_if (st_cmp (os_gt2 hr) (se_callB cs_len (by rfl) T.z_len (by decide +kernel) (sa_cons (se_var 0) (sa_nil))) (se_int) (nomark _)) (sb_one (ss_set 2 sc__law_mixed.nd (se_ix (se_var 0) (se_op os_mod (se_var 1) (se_callB cs_len (by rfl) T.z_len (by decide +kernel) (sa_cons (se_var 0) (sa_nil))))))) (sb_nil)) (sb_cons (ss_set 3 sc__law_mixed.nd (se_op os_mod (se_callTy cs_int (by rfl) T.z_int (by decide +kernel) (sa_cons (se_op os_add (se_op os_add (se_op os_mul2 (se_var 2) (se_int)) (se_op os_mul2 (se_var 1) (se_int))) (se_int)) (sa_nil))) (se_int))) (sb_cons (ss_set 4 sc__law_mixed.nd (se_op os_mod (se_callTy cs_int (by rfl) T.z_int (by decide +kernel) (sa_cons (se_op os_add (se_op os_add (se_op os_mul2 (se_var 3) (se_var 3)) (se_op os_fdiv (se_var 3) (se_int))) (se_op os_mul2 (se_var 1) (se_int))) (sa_nil))) (se_int))) (sb_cons (ss_set 5 sc__law_mixed.nd (se_op os_mod (se_callTy cs_int (by rfl) T.z_int (by decide +kernel) (sa_cons (se_op os_add (se_op os_add (se_op os_mul2 (se_var 4) (se_var 4)) (se_op os_fdiv (se_var 4) (se_int))) (se_int)) (sa_nil))) (se_int))) (sb_one (ss_ret (se_op os_mod (se_op os_fdiv (se_var 5) (se_int)) (se_int))))))))
theorem sc__law_row : FnScope ["script", "many", "big", "row", "k"] ["script", "many"] (defScope (topS 11)) := ⟨rfl, rfl, rfl, by decide +kernel, rfl, by decide +kernel, by decide +kernel⟩
theorem ok__law_row (T : Top K mg) : Has P w K mg 2 "_law_row" ["script", "many"] 2 F__law_row := fnH (k := 1) T.t__law_row sc__law_row rfl fun base f cdv A outer s H E hr => by
  exact sb_cons (ss_set 2 sc__law_row.nd (se_int)) (sb_cons (ss_if (st_of (sw_and (st_cmp (os_gt2 hr) (se_callB cs_len (by rfl) T.z_len (by decide +kernel) (sa_cons (se_var 0) (sa_nil))) (se_int) (nomark _)) (sw_and1 (st_cmp (os_ge2 hr) (se_ix (se_var 0) (se_int)) (se_op os_pow (se_int) (se_int)) (nomark _))))) (sb_one (ss_set 2 sc__law_row.nd (se_ix (se_var 0) (se_int)))) (sb_nil)) (sb_cons (ss_set 3 sc__law_row.nd (se_lst (sa_nil))) (sb_cons (ss_for PassesOwn.never rfl (si_rg1 true (by rfl) T.z_range (sa_cons (se_var 1) (sa_nil))) (sg_nm 4 sc__law_row.nd) (sb_one (ss_if (st_cmp (os_gt2 hr) (se_var 2) (se_int) (nomark _)) (sb_cons (ss_app 3 (se_op os_mod (se_callTy cs_int (by rfl) T.z_int (by decide +kernel) (sa_cons (se_var 2) (sa_nil))) (se_int))) (sb_one (ss_set 2 sc__law_row.nd (se_op os_fdiv (se_var 2) (se_int))))) (sb_one (ss_app 3 (se_callH (ok__law_mixed T) (hr.mono (by decide)) (by rfl) (sa_cons (se_var 0) (sa_cons (se_var 4) (sa_nil))))))))) (sb_one (ss_ret (se_var 3))))))
theorem sc_print_tree : FnScope ["pairs", "row", "key", "value", "levels", "at"] ["pairs"] (defScope (topS 4)) := ⟨rfl, rfl, rfl, by decide +kernel, rfl, by decide +kernel, by decide +kernel⟩
theorem ok_print_tree (T : Top K mg) : Has P w K mg 2 "print_tree" ["pairs"] 1 F_print_tree := fnH (k := 1) T.t_print_tree sc_print_tree rfl fun base f cdv A outer s H E hr => by
  exact sb_cons (ss_set 1 sc_print_tree.nd (se_op os_mul2 (se_lst (sa_cons (se_int) (sa_nil))) (se_gint T.g_PRINTED_KEYS (by rfl)))) (sb_cons (ss_frz 0 (ss_for PassesOwn.never rfl (si_seq true (se_var 0)) (sg_tp rfl (sgs_cons (sg_nm 2 sc_print_tree.nd) (sgs_cons (sg_nm 3 sc_print_tree.nd) (sgs_nil)))) (sb_one (ss_setIx 1 (se_var 2) (se_op os_mod (se_op os_add (se_op os_mul2 (se_int) (se_var 2)) (se_var 3)) (se_gint T.g_PRINT_RANGE (by rfl))))))) (sb_cons (ss_set 4 sc_print_tree.nd (se_lst (sa_cons (se_callTy cs_tuple (by rfl) T.z_tuple (by decide +kernel) (sa_cons (se_var 1) (sa_nil))) (sa_nil)))) (sb_cons (ss_while 10000 PassesOwn.never (st_cmp (os_gt2 hr) (se_callB cs_len (by rfl) T.z_len (by decide +kernel) (sa_cons (se_var 1) (sa_nil))) (se_int) (nomark _)) (sb_cons (ss_set 1 sc_print_tree.nd (se_lc (own := [("at", 5)]) rfl sc_print_tree.nd (si_rg1 false (by rfl) T.z_range (sa_cons (se_op os_fdiv (se_callB cs_len (by rfl) T.z_len (by decide +kernel) (sa_cons (se_var 1) (sa_nil))) (se_int)) (sa_nil))) (by kernel_rfl) (fun _ _ _ _ _ => sg_nm 5 sc_print_tree.nd) (fun _ _ _ _ _ => sts_nil) (fun _ _ _ _ _ => se_callH (ok__print_of T) (hr.mono (by decide)) (by rfl) (sa_cons (se_ix (se_var 1) (se_op os_mul2 (se_int) (se_var 5))) (sa_cons (se_ix (se_var 1) (se_op os_add (se_op os_mul2 (se_int) (se_var 5)) (se_int))) (sa_nil)))))) (sb_one (ss_app 4 (se_callTy cs_tuple (by rfl) T.z_tuple (by decide +kernel) (sa_cons (se_var 1) (sa_nil))))))) (sb_one (ss_ret (se_callTy cs_tuple (by rfl) T.z_tuple (by decide +kernel) (sa_cons (se_var 4) (sa_nil))))))))
theorem sc_law : FnScope ["script", "row", "numbers", "pairs", "changed", "k", "key", "spot", "first", "second", "one", "other", "pair"] ["script"] (defScope (topS 20)) := ⟨rfl, rfl, rfl, by decide +kernel, rfl, by decide +kernel, by decide +kernel⟩
theorem ok_law (T : Top K mg) : Has P w K mg 12 "law" ["script"] 1 F_law := fnH (k := 11) T.t_law sc_law rfl fun base f cdv A outer s H E hr => by
  exact sb_cons (ss_set 1 sc_law.nd (se_callH (ok__law_row T) (hr.mono (by decide)) (by rfl) (sa_cons (se_var 0) (sa_cons (se_int) (sa_nil))))) (sb_cons (ss_set 2 sc_law.nd (se_lc (own := [("k", 5)]) rfl sc_law.nd (si_rg1 false (by rfl) T.z_range (sa_cons (se_int) (sa_nil))) (by kernel_rfl) (fun _ _ _ _ _ => sg_nm 5 sc_law.nd) (fun _ _ _ _ _ => sts_nil) (fun _ _ _ _ _ => se_op os_sub (se_op os_mod (se_callTy cs_int (by rfl) T.z_int (by decide +kernel) (sa_cons (se_ix (se_var 1) (se_op os_add (se_int) (se_var 5))) (sa_nil))) (se_int)) (se_int)))) (sb_cons (ss_frz 6 (ss_setLc 3 (own := [("key", 6)]) rfl sc_law.nd (si_rg1 false (by rfl) T.z_range (sa_cons (se_int) (sa_nil))) (by kernel_rfl) (fun _ _ _ _ _ => sg_nm 6 sc_law.nd) (fun _ _ _ _ _ => sts_one (st_cmp (os_gt2 hr) (se_op os_mod (se_callTy cs_int (by rfl) T.z_int (by decide +kernel) (sa_cons (se_ix (se_var 1) (se_op os_add (se_int) (se_var 6))) (sa_nil))) (se_int)) (se_int) (nomark _))) (fun _ _ _ _ _ => se_tup (sa_cons (se_var 6) (sa_cons (se_ix (se_var 2) (se_var 6)) (sa_nil)))))) (sb_cons (ss_setLc 4 (own := [("pair", 12)]) rfl sc_law.nd (si_seq false (se_var 3)) (by kernel_rfl) (fun _ _ _ _ _ => sg_nm 12 sc_law.nd) (fun _ _ _ _ _ => sts_nil) (fun _ _ _ _ _ => se_var 12)) (sb_cons (ss_for PassesOwn.never rfl (si_rg1 true (by rfl) T.z_range (sa_cons (se_op os_mod (se_callTy cs_int (by rfl) T.z_int (by decide +kernel) (sa_cons (se_ix (se_var 1) (se_int)) (sa_nil))) (se_int)) (sa_nil))) (sg_nm 5 sc_law.nd) (sb_cons (ss_set 6 sc_law.nd (se_op os_mod (se_callTy cs_int (by rfl) T.z_int (by decide +kernel) (sa_cons (se_ix (se_var 1) (se_op os_add (se_int) (se_var 5))) (sa_nil))) (se_int))) (sb_cons (ss_setLc 4 (own := [("pair", 12)]) rfl sc_law.nd (si_seq false (se_var 4)) (by kernel_rfl) (fun _ _ _ _ _ => sg_nm 12 sc_law.nd) (fun _ _ _ _ _ => sts_one (st_cmp (os_ne2 hr) (se_ix (se_var 12) (se_int)) (se_var 6) (nomark _))) (fun _ _ _ _ _ => se_var 12)) (sb_one (ss_if (st_cmp (os_gt2 hr) (se_op os_mod (se_callTy cs_int (by rfl) T.z_int (by decide +kernel) (sa_cons (se_ix (se_var 1) (se_op os_add (se_int) (se_var 5))) (sa_nil))) (se_int)) (se_int) (nomark _)) (sb_one (ss_frz 6 (ss_app 4 (se_tup (sa_cons (se_var 6) (sa_cons (se_op os_sub (se_op os_mod (se_callTy cs_int (by rfl) T.z_int (by decide +kernel) (sa_cons (se_ix (se_var 1) (se_op os_add (se_int) (se_var 5))) (sa_nil))) (se_int)) (se_int)) (sa_nil))))))) (sb_nil)))))) (sb_cons (ss_if (st_cmp (os_eq2 hr) (se_op os_mod (se_callTy cs_int (by rfl) T.z_int (by decide +kernel) (sa_cons (se_ix (se_var 1) (se_int)) (sa_nil))) (se_int)) (se_int) (nomark _)) (sb_one (ss_frz 6 (ss_setLc 4 (own := [("key", 6)]) rfl sc_law.nd (si_rg1 false (by rfl) T.z_range (sa_cons (se_int) (sa_nil))) (by kernel_rfl) (fun _ _ _ _ _ => sg_nm 6 sc_law.nd) (fun _ _ _ _ _ => sts_nil) (fun _ _ _ _ _ => se_tup (sa_cons (se_var 6) (sa_cons (se_op os_sub (se_op os_mod (se_callTy cs_int (by rfl) T.z_int (by decide +kernel) (sa_cons (se_ix (se_var 1) (se_op os_add (se_int) (se_var 6))) (sa_nil))) (se_int)) (se_int)) (sa_nil))))))) (sb_nil)) (sb_cons (ss_if (st_cmp (os_eq2 hr) (se_op os_mod (se_callTy cs_int (by rfl) T.z_int (by decide +kernel) (sa_cons (se_ix (se_var 1) (se_int)) (sa_nil))) (se_int)) (se_int) (nomark _)) (sb_cons (ss_set 7 sc_law.nd (se_op os_mul2 (se_int) (se_op os_mod (se_callTy cs_int (by rfl) T.z_int (by decide +kernel) (sa_cons (se_ix (se_var 1) (se_int)) (sa_nil))) (se_int)))) (sb_cons (ss_frz 7 (ss_setLc 4 (own := [("pair", 12)]) rfl sc_law.nd (si_seq false (se_var 3)) (by kernel_rfl) (fun _ _ _ _ _ => sg_nm 12 sc_law.nd) (fun _ _ _ _ _ => sts_one (st_cmp (os_notIn hr) (se_ix (se_var 12) (se_int)) (se_tup (sa_cons (se_var 7) (sa_cons (se_op os_add (se_var 7) (se_int)) (sa_nil)))) (by with_unfolding_all rfl))) (fun _ _ _ _ _ => se_var 12))) (sb_cons (ss_frz 7 (ss_set 3 sc_law.nd (se_callB (cs_sorted hr) (by rfl) T.z_sorted (by decide +kernel) (sa_cons (se_op os_add (se_var 4) (se_lst (sa_cons (se_tup (sa_cons (se_var 7) (sa_cons (se_int) (sa_nil)))) (sa_cons (se_tup (sa_cons (se_op os_add (se_var 7) (se_int)) (sa_cons (se_int) (sa_nil)))) (sa_nil))))) (sa_nil))))) (sb_one (ss_frz 7 (ss_set 4 sc_law.nd (se_op os_add (se_var 4) (se_lst (sa_cons (se_tup (sa_cons (se_var 7) (sa_cons (se_int) (sa_nil)))) (sa_cons (se_tup (sa_cons (se_op os_add (se_var 7) (se_int)) (sa_cons (se_int) (sa_nil)))) (sa_nil))))))))))) (sb_nil)) (sb_cons (ss_par2 8 9 rfl sc_law.nd (sa_cons (se_callH (ok_print_tree T) (hr.mono (by decide)) (by rfl) (sa_cons (se_callTy cs_tuple (by rfl) T.z_tuple (by decide +kernel) (sa_cons (se_var 3) (sa_nil))) (sa_nil))) (sa_cons (se_callH (ok_print_tree T) (hr.mono (by decide)) (by rfl) (sa_cons (se_callTy cs_tuple (by rfl) T.z_tuple (by decide +kernel) (sa_cons (se_callB (cs_sorted hr) (by rfl) T.z_sorted (by decide +kernel) (sa_cons (se_var 4) (sa_nil))) (sa_nil))) (sa_nil))) (sa_nil)))) (sb_cons (ss_par2 10 11 rfl sc_law.nd (sa_cons (se_callH (ok__law_levels T) (hr.mono (by decide)) (by rfl) (sa_cons (se_callH (ok__law_numbers T) (hr.mono (by decide)) (by rfl) (sa_cons (se_var 3) (sa_nil))) (sa_nil))) (sa_cons (se_callH (ok__law_levels T) (hr.mono (by decide)) (by rfl) (sa_cons (se_callH (ok__law_numbers T) (hr.mono (by decide)) (by rfl) (sa_cons (se_var 4) (sa_nil))) (sa_nil))) (sa_nil)))) (sb_cons (ss_frz 11 (ss_frz 10 (ss_frz 9 (ss_frz 8 (ss_if (st_of (sw_or (st_not (st_truth (se_callH (ok__law_like T 8) (hr.mono (by decide)) (by rfl) (sa_cons (se_tup (sa_cons (se_var 8) (sa_cons (se_var 9) (sa_nil)))) (sa_cons (se_tup (sa_cons (se_var 10) (sa_cons (se_var 11) (sa_nil)))) (sa_nil)))))) (sw_or1 (st_not (st_truth (se_callH (ok__law_both_right T) (hr.mono (by decide)) (by rfl) (sa_cons (se_var 8) (sa_cons (se_var 9) (sa_cons (se_var 10) (sa_cons (se_var 11) (sa_nil))))))))))) (sb_one (ss_ret (se_bl))) (sb_nil)))))) (sb_cons (ss_for PassesOwn.never rfl (si_seq true (se_tup (sa_cons (se_op os_mod (se_callTy cs_int (by rfl) T.z_int (by decide +kernel) (sa_cons (se_ix (se_var 1) (se_int)) (sa_nil))) (se_int)) (sa_cons (se_op os_mod (se_callTy cs_int (by rfl) T.z_int (by decide +kernel) (sa_cons (se_ix (se_var 1) (se_int)) (sa_nil))) (se_int)) (sa_nil))))) (sg_nm 6 sc_law.nd) (sb_one (ss_if (st_not (st_truth (se_callH (ok__law_proof_right T) (hr.mono (by decide)) (by rfl) (sa_cons (se_var 8) (sa_cons (se_var 10) (sa_cons (se_var 9) (sa_cons (se_var 11) (sa_cons (se_var 6) (sa_cons (se_op os_add (se_int) (se_op os_mod (se_callTy cs_int (by rfl) T.z_int (by decide +kernel) (sa_cons (se_ix (se_var 1) (se_int)) (sa_nil))) (se_int))) (sa_nil)))))))))) (sb_one (ss_ret (se_bl))) (sb_nil)))) (sb_one (ss_ret (se_bl)))))))))))))
end
theorem all_mk {K : PySem.W.Frag} {h : Heap} {mg : Str → Option Value} (X : K.In h) (G : h.Ns mainGlobals mg)
    {f0 : Addr} {od0 an0 : Option Addr} {sl0 : Array (Option Value)} {oc0 kV0 dc0 pm0 cd0 ct0 : Value}
    {f1 : Addr} {od1 an1 : Option Addr} {sl1 : Array (Option Value)} {oc1 kV1 dc1 pm1 cd1 ct1 : Value}
    {f2 : Addr} {od2 an2 : Option Addr} {sl2 : Array (Option Value)} {oc2 kV2 dc2 pm2 cd2 ct2 : Value}
    {f3 : Addr} {od3 an3 : Option Addr} {sl3 : Array (Option Value)} {oc3 kV3 dc3 pm3 cd3 ct3 : Value}
    {f4 : Addr} {od4 an4 : Option Addr} {sl4 : Array (Option Value)} {oc4 kV4 dc4 pm4 cd4 ct4 : Value}
    {f5 : Addr} {od5 an5 : Option Addr} {sl5 : Array (Option Value)} {oc5 kV5 dc5 pm5 cd5 ct5 : Value}
    {f6 : Addr} {od6 an6 : Option Addr} {sl6 : Array (Option Value)} {oc6 kV6 dc6 pm6 cd6 ct6 : Value}
    {f7 : Addr} {od7 an7 : Option Addr} {sl7 : Array (Option Value)} {oc7 kV7 dc7 pm7 cd7 ct7 : Value}
    {f8 : Addr} {od8 an8 : Option Addr} {sl8 : Array (Option Value)} {oc8 kV8 dc8 pm8 cd8 ct8 : Value}
    {f9 : Addr} {od9 an9 : Option Addr} {sl9 : Array (Option Value)} {oc9 kV9 dc9 pm9 cd9 ct9 : Value}
    {f10 : Addr} {od10 an10 : Option Addr} {sl10 : Array (Option Value)} {oc10 kV10 dc10 pm10 cd10 ct10 : Value}
    {f11 : Addr} {od11 an11 : Option Addr} {sl11 : Array (Option Value)} {oc11 kV11 dc11 pm11 cd11 ct11 : Value}
    {f12 : Addr} {od12 an12 : Option Addr} {sl12 : Array (Option Value)} {oc12 kV12 dc12 pm12 cd12 ct12 : Value}
    {f13 : Addr} {od13 an13 : Option Addr} {sl13 : Array (Option Value)} {oc13 kV13 dc13 pm13 cd13 ct13 : Value}
    {f14 : Addr} {od14 an14 : Option Addr} {sl14 : Array (Option Value)} {oc14 kV14 dc14 pm14 cd14 ct14 : Value}
    {f15 : Addr} {od15 an15 : Option Addr} {sl15 : Array (Option Value)} {oc15 kV15 dc15 pm15 cd15 ct15 : Value}
    {f16 : Addr} {od16 an16 : Option Addr} {sl16 : Array (Option Value)} {oc16 kV16 dc16 pm16 cd16 ct16 : Value}
    (a0 : PySem.W.nsIn K mainGlobals "_law_is_int" = some (some (.ref f0))) (l0 : K.lookup f0 = some ⟨oc0, od0, .func (PySem.W.fnOf "_law_is_int" "_law_is_int" (defArgs (topS 12)) (defBody (topS 12)) (defScope (topS 12)) .none kV0 dc0 pm0 an0 cd0 ct0), sl0⟩) (c0 : PySem.W.codeIn K cd0 "_law_is_int" = true) (k0 : PySem.W.keepIn K (.ref f0) = true)
    (a1 : PySem.W.nsIn K mainGlobals "_law_like" = some (some (.ref f1))) (l1 : K.lookup f1 = some ⟨oc1, od1, .func (PySem.W.fnOf "_law_like" "_law_like" (defArgs (topS 13)) (defBody (topS 13)) (defScope (topS 13)) .none kV1 dc1 pm1 an1 cd1 ct1), sl1⟩) (c1 : PySem.W.codeIn K cd1 "_law_like" = true) (k1 : PySem.W.keepIn K (.ref f1) = true)
    (a2 : PySem.W.nsIn K mainGlobals "_law_unlike" = some (some (.ref f2))) (l2 : K.lookup f2 = some ⟨oc2, od2, .func (PySem.W.fnOf "_law_unlike" "_law_unlike" (defArgs (topS 17)) (defBody (topS 17)) (defScope (topS 17)) .none kV2 dc2 pm2 an2 cd2 ct2), sl2⟩) (c2 : PySem.W.codeIn K cd2 "_law_unlike" = true) (k2 : PySem.W.keepIn K (.ref f2) = true)
    (a3 : PySem.W.nsIn K mainGlobals "unlike_keys" = some (some (.ref f3))) (l3 : K.lookup f3 = some ⟨oc3, od3, .func (PySem.W.fnOf "unlike_keys" "unlike_keys" (defArgs (topS 5)) (defBody (topS 5)) (defScope (topS 5)) .none kV3 dc3 pm3 an3 cd3 ct3), sl3⟩) (c3 : PySem.W.codeIn K cd3 "unlike_keys" = true) (k3 : PySem.W.keepIn K (.ref f3) = true)
    (a4 : PySem.W.nsIn K mainGlobals "is_found" = some (some (.ref f4))) (l4 : K.lookup f4 = some ⟨oc4, od4, .func (PySem.W.fnOf "is_found" "is_found" (defArgs (topS 6)) (defBody (topS 6)) (defScope (topS 6)) .none kV4 dc4 pm4 an4 cd4 ct4), sl4⟩) (c4 : PySem.W.codeIn K cd4 "is_found" = true) (k4 : PySem.W.keepIn K (.ref f4) = true)
    (a5 : PySem.W.nsIn K mainGlobals "_law_both_right" = some (some (.ref f5))) (l5 : K.lookup f5 = some ⟨oc5, od5, .func (PySem.W.fnOf "_law_both_right" "_law_both_right" (defArgs (topS 18)) (defBody (topS 18)) (defScope (topS 18)) .none kV5 dc5 pm5 an5 cd5 ct5), sl5⟩) (c5 : PySem.W.codeIn K cd5 "_law_both_right" = true) (k5 : PySem.W.keepIn K (.ref f5) = true)
    (a6 : PySem.W.nsIn K mainGlobals "_law_sum" = some (some (.ref f6))) (l6 : K.lookup f6 = some ⟨oc6, od6, .func (PySem.W.fnOf "_law_sum" "_law_sum" (defArgs (topS 15)) (defBody (topS 15)) (defScope (topS 15)) .none kV6 dc6 pm6 an6 cd6 ct6), sl6⟩) (c6 : PySem.W.codeIn K cd6 "_law_sum" = true) (k6 : PySem.W.keepIn K (.ref f6) = true)
    (a7 : PySem.W.nsIn K mainGlobals "_law_levels" = some (some (.ref f7))) (l7 : K.lookup f7 = some ⟨oc7, od7, .func (PySem.W.fnOf "_law_levels" "_law_levels" (defArgs (topS 16)) (defBody (topS 16)) (defScope (topS 16)) .none kV7 dc7 pm7 an7 cd7 ct7), sl7⟩) (c7 : PySem.W.codeIn K cd7 "_law_levels" = true) (k7 : PySem.W.keepIn K (.ref f7) = true)
    (a8 : PySem.W.nsIn K mainGlobals "_law_numbers" = some (some (.ref f8))) (l8 : K.lookup f8 = some ⟨oc8, od8, .func (PySem.W.fnOf "_law_numbers" "_law_numbers" (defArgs (topS 14)) (defBody (topS 14)) (defScope (topS 14)) .none kV8 dc8 pm8 an8 cd8 ct8), sl8⟩) (c8 : PySem.W.codeIn K cd8 "_law_numbers" = true) (k8 : PySem.W.keepIn K (.ref f8) = true)
    (a9 : PySem.W.nsIn K mainGlobals "_print_of" = some (some (.ref f9))) (l9 : K.lookup f9 = some ⟨oc9, od9, .func (PySem.W.fnOf "_print_of" "_print_of" (defArgs (topS 3)) (defBody (topS 3)) (defScope (topS 3)) .none kV9 dc9 pm9 an9 cd9 ct9), sl9⟩) (c9 : PySem.W.codeIn K cd9 "_print_of" = true) (k9 : PySem.W.keepIn K (.ref f9) = true)
    (a10 : PySem.W.nsIn K mainGlobals "judge_proof" = some (some (.ref f10))) (l10 : K.lookup f10 = some ⟨oc10, od10, .func (PySem.W.fnOf "judge_proof" "judge_proof" (defArgs (topS 8)) (defBody (topS 8)) (defScope (topS 8)) .none kV10 dc10 pm10 an10 cd10 ct10), sl10⟩) (c10 : PySem.W.codeIn K cd10 "judge_proof" = true) (k10 : PySem.W.keepIn K (.ref f10) = true)
    (a11 : PySem.W.nsIn K mainGlobals "proof_of" = some (some (.ref f11))) (l11 : K.lookup f11 = some ⟨oc11, od11, .func (PySem.W.fnOf "proof_of" "proof_of" (defArgs (topS 7)) (defBody (topS 7)) (defScope (topS 7)) .none kV11 dc11 pm11 an11 cd11 ct11), sl11⟩) (c11 : PySem.W.codeIn K cd11 "proof_of" = true) (k11 : PySem.W.keepIn K (.ref f11) = true)
    (a12 : PySem.W.nsIn K mainGlobals "_law_proof_right" = some (some (.ref f12))) (l12 : K.lookup f12 = some ⟨oc12, od12, .func (PySem.W.fnOf "_law_proof_right" "_law_proof_right" (defArgs (topS 19)) (defBody (topS 19)) (defScope (topS 19)) .none kV12 dc12 pm12 an12 cd12 ct12), sl12⟩) (c12 : PySem.W.codeIn K cd12 "_law_proof_right" = true) (k12 : PySem.W.keepIn K (.ref f12) = true)
    (a13 : PySem.W.nsIn K mainGlobals "_law_mixed" = some (some (.ref f13))) (l13 : K.lookup f13 = some ⟨oc13, od13, .func (PySem.W.fnOf "_law_mixed" "_law_mixed" (defArgs (topS 10)) (defBody (topS 10)) (defScope (topS 10)) .none kV13 dc13 pm13 an13 cd13 ct13), sl13⟩) (c13 : PySem.W.codeIn K cd13 "_law_mixed" = true) (k13 : PySem.W.keepIn K (.ref f13) = true)
    (a14 : PySem.W.nsIn K mainGlobals "_law_row" = some (some (.ref f14))) (l14 : K.lookup f14 = some ⟨oc14, od14, .func (PySem.W.fnOf "_law_row" "_law_row" (defArgs (topS 11)) (defBody (topS 11)) (defScope (topS 11)) .none kV14 dc14 pm14 an14 cd14 ct14), sl14⟩) (c14 : PySem.W.codeIn K cd14 "_law_row" = true) (k14 : PySem.W.keepIn K (.ref f14) = true)
    (a15 : PySem.W.nsIn K mainGlobals "print_tree" = some (some (.ref f15))) (l15 : K.lookup f15 = some ⟨oc15, od15, .func (PySem.W.fnOf "print_tree" "print_tree" (defArgs (topS 4)) (defBody (topS 4)) (defScope (topS 4)) .none kV15 dc15 pm15 an15 cd15 ct15), sl15⟩) (c15 : PySem.W.codeIn K cd15 "print_tree" = true) (k15 : PySem.W.keepIn K (.ref f15) = true)
    (a16 : PySem.W.nsIn K mainGlobals "law" = some (some (.ref f16))) (l16 : K.lookup f16 = some ⟨oc16, od16, .func (PySem.W.fnOf "law" "law" (defArgs (topS 20)) (defBody (topS 20)) (defScope (topS 20)) .none kV16 dc16 pm16 an16 cd16 ct16), sl16⟩) (c16 : PySem.W.codeIn K cd16 "law" = true) (k16 : PySem.W.keepIn K (.ref f16) = true)
    (zall : PySem.W.nsIn K mainGlobals "all" = some none)
    (zbool : PySem.W.nsIn K mainGlobals "bool" = some none)
    (zint : PySem.W.nsIn K mainGlobals "int" = some none)
    (zisinstance : PySem.W.nsIn K mainGlobals "isinstance" = some none)
    (zlen : PySem.W.nsIn K mainGlobals "len" = some none)
    (zrange : PySem.W.nsIn K mainGlobals "range" = some none)
    (zsorted : PySem.W.nsIn K mainGlobals "sorted" = some none)
    (zstr : PySem.W.nsIn K mainGlobals "str" = some none)
    (zsum : PySem.W.nsIn K mainGlobals "sum" = some none)
    (ztuple : PySem.W.nsIn K mainGlobals "tuple" = some none)
    {tkPRINTED_KEYS : Tok} (gPRINTED_KEYS : PySem.W.nsIn K mainGlobals "PRINTED_KEYS" = some (some (.int 16 tkPRINTED_KEYS)))
    {tkPRINT_RANGE : Tok} (gPRINT_RANGE : PySem.W.nsIn K mainGlobals "PRINT_RANGE" = some (some (.int 997 tkPRINT_RANGE))) : Top K mg :=
  ⟨tf_mk X G a0 l0 c0 k0 fun _ _ _ _ _ _ us hl => match us, hl with | [_], _ => rfl, tf_mk X G a1 l1 c1 k1 fun _ _ _ _ _ _ us hl => match us, hl with | [_, _], _ => rfl, tf_mk X G a2 l2 c2 k2 fun _ _ _ _ _ _ us hl => match us, hl with | [_, _], _ => rfl, tf_mk X G a3 l3 c3 k3 fun _ _ _ _ _ _ us hl => match us, hl with | [_, _], _ => rfl, tf_mk X G a4 l4 c4 k4 fun _ _ _ _ _ _ us hl => match us, hl with | [_, _], _ => rfl, tf_mk X G a5 l5 c5 k5 fun _ _ _ _ _ _ us hl => match us, hl with | [_, _, _, _], _ => rfl, tf_mk X G a6 l6 c6 k6 fun _ _ _ _ _ _ us hl => match us, hl with | [_], _ => rfl, tf_mk X G a7 l7 c7 k7 fun _ _ _ _ _ _ us hl => match us, hl with | [_], _ => rfl, tf_mk X G a8 l8 c8 k8 fun _ _ _ _ _ _ us hl => match us, hl with | [_], _ => rfl, tf_mk X G a9 l9 c9 k9 fun _ _ _ _ _ _ us hl => match us, hl with | [_, _], _ => rfl, tf_mk X G a10 l10 c10 k10 fun _ _ _ _ _ _ us hl => match us, hl with | [_, _, _, _], _ => rfl, tf_mk X G a11 l11 c11 k11 fun _ _ _ _ _ _ us hl => match us, hl with | [_, _], _ => rfl, tf_mk X G a12 l12 c12 k12 fun _ _ _ _ _ _ us hl => match us, hl with | [_, _, _, _, _, _], _ => rfl, tf_mk X G a13 l13 c13 k13 fun _ _ _ _ _ _ us hl => match us, hl with | [_, _], _ => rfl, tf_mk X G a14 l14 c14 k14 fun _ _ _ _ _ _ us hl => match us, hl with | [_, _], _ => rfl, tf_mk X G a15 l15 c15 k15 fun _ _ _ _ _ _ us hl => match us, hl with | [_], _ => rfl, tf_mk X G a16 l16 c16 k16 fun _ _ _ _ _ _ us hl => match us, hl with | [_], _ => rfl, PySem.W.mg_none_of X G zall, PySem.W.mg_none_of X G zbool, PySem.W.mg_none_of X G zint, PySem.W.mg_none_of X G zisinstance, PySem.W.mg_none_of X G zlen, PySem.W.mg_none_of X G zrange, PySem.W.mg_none_of X G zsorted, PySem.W.mg_none_of X G zstr, PySem.W.mg_none_of X G zsum, PySem.W.mg_none_of X G ztuple, ⟨_, PySem.W.mg_of X G gPRINTED_KEYS, ⟨_, rfl⟩⟩, ⟨_, PySem.W.mg_of X G gPRINT_RANGE, ⟨_, rfl⟩⟩⟩
end LW19

open PySem PySem.W PyProof.Rows
set_option maxHeartbeats 0 in
theorem PySem.Challenge.cw_farkept_k19_whole_prints_summed_holds : PySem.Challenge.rw_farkept_k19_whole_prints_summed.Holds := by
  w_on; o_law; k_head; (case hw => w_witness2)
  k_fill
  refine L2.walk_of (l := PySem.Challenge.rw_farkept_k19_whole_prints_summed) (n := 63) (k := 12) (x := "script") (CX := fun _ => L2.CX0) (sp := fun w => PV.spF _ 1 LW19.F_law) rfl (by decide) rfl ⟨rfl, by decide, by decide⟩ (fun w h Y => PySem.W.kIn_of Y) ?F (fun _ H a ns hl ho hS => PV.script_ok LW19.law_true hl ho hS) (fun _ _ _ _ _ h => h)
  case F =>
    intro w mg fa h KX G hmg
    refine' PV.law_has hmg (LW19.ok_law (LW19.all_mk KX G ?a0 ?l0 ?c0 ?k0 ?a1 ?l1 ?c1 ?k1 ?a2 ?l2 ?c2 ?k2 ?a3 ?l3 ?c3 ?k3 ?a4 ?l4 ?c4 ?k4 ?a5 ?l5 ?c5 ?k5 ?a6 ?l6 ?c6 ?k6 ?a7 ?l7 ?c7 ?k7 ?a8 ?l8 ?c8 ?k8 ?a9 ?l9 ?c9 ?k9 ?a10 ?l10 ?c10 ?k10 ?a11 ?l11 ?c11 ?k11 ?a12 ?l12 ?c12 ?k12 ?a13 ?l13 ?c13 ?k13 ?a14 ?l14 ?c14 ?k14 ?a15 ?l15 ?c15 ?k15 ?a16 ?l16 ?c16 ?k16 ?zall ?zbool ?zint ?zisinstance ?zlen ?zrange ?zsorted ?zstr ?zsum ?ztuple ?gPRINTED_KEYS ?gPRINT_RANGE))
    (case a0 => k_is); (case l0 => k_is); (case c0 => k_is); (case k0 => k_is); (case a1 => k_is); (case l1 => k_is); (case c1 => k_is); (case k1 => k_is); (case a2 => k_is); (case l2 => k_is); (case c2 => k_is); (case k2 => k_is); (case a3 => k_is); (case l3 => k_is); (case c3 => k_is); (case k3 => k_is); (case a4 => k_is); (case l4 => k_is); (case c4 => k_is); (case k4 => k_is); (case a5 => k_is); (case l5 => k_is); (case c5 => k_is); (case k5 => k_is); (case a6 => k_is); (case l6 => k_is); (case c6 => k_is); (case k6 => k_is); (case a7 => k_is); (case l7 => k_is); (case c7 => k_is); (case k7 => k_is); (case a8 => k_is); (case l8 => k_is); (case c8 => k_is); (case k8 => k_is); (case a9 => k_is); (case l9 => k_is); (case c9 => k_is); (case k9 => k_is); (case a10 => k_is); (case l10 => k_is); (case c10 => k_is); (case k10 => k_is); (case a11 => k_is); (case l11 => k_is); (case c11 => k_is); (case k11 => k_is); (case a12 => k_is); (case l12 => k_is); (case c12 => k_is); (case k12 => k_is); (case a13 => k_is); (case l13 => k_is); (case c13 => k_is); (case k13 => k_is); (case a14 => k_is); (case l14 => k_is); (case c14 => k_is); (case k14 => k_is); (case a15 => k_is); (case l15 => k_is); (case c15 => k_is); (case k15 => k_is); (case a16 => k_is); (case l16 => k_is); (case c16 => k_is); (case k16 => k_is); (case zall => k_is); (case zbool => k_is); (case zint => k_is); (case zisinstance => k_is); (case zlen => k_is); (case zrange => k_is); (case zsorted => k_is); (case zstr => k_is); (case zsum => k_is); (case ztuple => k_is); (case gPRINTED_KEYS => k_is); (case gPRINT_RANGE => k_is)

