import PyProof.Rows.All
import Wide.All
import OpenK.AllK
import Wide.FinOn
import HandS.ForMost
import HandS.Exc
import HandS.ExcOwn
import HandS.List
import PyProof.StrOps2
import HandS.Deep
import HandS.Strs
import HandS.TupAny
import HandS.Rev
import HandS.IsInst
import HandS.Sort
import HandS.More
import HandS.Remove
import HandS.Text
import HandS.Style
import HandS.Conv
import HandS.Comp
import HandS.Flow
import HandS.TryMany
import HandS.ExcIs
import HandS.ExcField
import HandS.ExcInit
import HandS.FStr
import KE.KExcSuper
import KE.KSuper
import HandS.HeadHook2
import HandS.Ends
import HandS.HeadEnd
import HandS.Head0
import HandS.Head1
import HandS.Head2
import PySem.Challenge.RW_swapsenough_k25_one_peak_or_breaker
set_option autoImplicit true
set_option Elab.async false
set_option linter.all false
set_option maxRecDepth 100000
set_option maxHeartbeats 4000000
namespace VI
open PySem PySem.Spec PyProof.Rows L2
inductive D where
  | non
  | bl (b : Bool)
  | int (i : Int)
  | str (s : Str)
  | tup (xs : List D)
  | lst (xs : List D)
  | dct (kvs : List (D × D))
  | ins (c : Str) (fs : List (Str × D))
  | arg (ns : List Int)
  deriving Inhabited
mutual
def D.flat : D → Bool
  | .non => true
  | .bl _ => true
  | .int _ => true
  | .str _ => true
  | .tup xs => D.flats xs
  | .lst _ => false
  | .dct _ => false
  | .ins _ _ => false
  | .arg _ => true
def D.flats : List D → Bool
  | [] => true
  | x :: xs => x.flat && D.flats xs
end
mutual
def D.within : Nat → D → Bool
  | _, .non => true
  | _, .bl _ => true
  | _, .int _ => true
  | _, .str _ => true
  | k, .tup xs => D.withins k xs
  | 0, .lst _ => false
  | k + 1, .lst xs => D.withins k xs
  | _, .dct _ => false
  | _, .ins _ _ => false
  | _, .arg _ => true
def D.withins : Nat → List D → Bool
  | _, [] => true
  | k, x :: xs => D.within k x && D.withins k xs
end
def ArgAt (K : PySem.W.Frag) (H : Hp) (a : Addr) (ns : List Int) : Prop := (∃ o, H a = some (.frz o (.lst (ns.map V.int)))) ∨
  ∃ (o : Obj) (its : Array Value) (n : Nat), K.lookup a = some o ∧ o.cls = .type "list" ∧ o.dict = none ∧ o.data = .seq its n ∧ its.size ≤ sizeLine ∧ Vals (ns.map V.int) its.toList
theorem ArgAt.sq {K : PySem.W.Frag} {H : Hp} {a : Addr} {ns : List Int} (h : ArgAt K H a ns) : SqL K H a (ns.map V.int) := by
  rcases h with ⟨o, h⟩ | h
  · exact .inl (.inr ⟨o, h⟩)
  · exact .inr h
mutual
inductive Rep (K : PySem.W.Frag) (H : Hp) (F : Addr → Prop) : Nat → V → D → List Addr → Prop
  | non {k} : Rep K H F k .non .non []
  | bl {k} (b : Bool) : Rep K H F k (.bl b) (.bl b) []
  | int {k} (i : Int) : Rep K H F k (.int i) (.int i) []
  | str {k} (s : Str) : Rep K H F k (.str s) (.str s) []
  | arg {k a} {ns : List Int} : ArgAt K H a ns → Rep K H F k (.ref a) (.arg ns) []
  | tup {k a o xs ds fp} : H a = some (.frz o (.tup xs)) → o.dict = none → Reps K H F k xs ds fp → Rep K H F k (.ref a) (.tup ds) fp
  | lst0 {a xs ds fp} : H a = some (.lst xs) → F a → Reps K H F 0 xs ds fp → Rep K H F 0 (.ref a) (.lst ds) fp
  | lst1 {k a xs ds fp} : H a = some (.lst xs) → Reps K H F k xs ds fp → Rep K H F (k + 1) (.ref a) (.lst ds) (a :: fp)
inductive Reps (K : PySem.W.Frag) (H : Hp) (F : Addr → Prop) : Nat → List V → List D → List Addr → Prop
  | nil {k} : Reps K H F k [] [] []
  | cons {k v vs d ds fp fq} : Rep K H F k v d fp → Reps K H F k vs ds fq → Reps K H F k (v :: vs) (d :: ds) (fp ++ fq)
end
def Keeps (W : Addr → Prop) (H H' : Hp) : Prop := ∀ a o, H a = some o → ¬ W a → H' a = some o
def Lists (W : Addr → Prop) (H : Hp) : Prop := ∀ a, W a → ∀ o, H a = some o → ∃ xs, o = .lst xs
section
variable {K : PySem.W.Frag} {H H' : Hp} {F F' W : Addr → Prop}
mutual
theorem Rep.keep (kp : Keeps W H H') (nt : Lists W H) (hF : ∀ a, F a → ¬ W a) (m : ∀ a, F a → F' a) : ∀ {k : Nat} {v : V} {d : D} {fp : List Addr}, Rep K H F k v d fp → (∀ a ∈ fp, ¬ W a) → Rep K H' F' k v d fp
  | _, _, _, _, .non, _ => .non
  | _, _, _, _, .bl b, _ => .bl b
  | _, _, _, _, .int i, _ => .int i
  | _, _, _, _, .str s, _ => .str s
  | _, _, _, _, .arg h, _ => .arg (h.imp (fun ⟨o, h⟩ => ⟨o, kp _ _ h fun w => by obtain ⟨ys, q⟩ := nt _ w _ h; cases q⟩) id)
  | _, _, _, _, .tup h n r, hf => .tup (kp _ _ h fun w => by obtain ⟨ys, q⟩ := nt _ w _ h; cases q) n (Reps.keep kp nt hF m r hf)
  | _, _, _, _, .lst0 h f r, hf => .lst0 (kp _ _ h (hF _ f)) (m _ f) (Reps.keep kp nt hF m r hf)
  | _, _, _, _, .lst1 h r, hf => .lst1 (kp _ _ h (hf _ List.mem_cons_self)) (Reps.keep kp nt hF m r fun a ha => hf a (List.mem_cons_of_mem _ ha))
theorem Reps.keep (kp : Keeps W H H') (nt : Lists W H) (hF : ∀ a, F a → ¬ W a) (m : ∀ a, F a → F' a) : ∀ {k : Nat} {vs : List V} {ds : List D} {fp : List Addr}, Reps K H F k vs ds fp → (∀ a ∈ fp, ¬ W a) → Reps K H' F' k vs ds fp
  | _, _, _, _, .nil, _ => .nil
  | _, _, _, _, .cons h r, hf => .cons (Rep.keep kp nt hF m h fun a ha => hf a (List.mem_append_left _ ha)) (Reps.keep kp nt hF m r fun a ha => hf a (List.mem_append_right _ ha))
end
theorem Rep.mono (m : ∀ a, F a → F' a) {k : Nat} {v : V} {d : D} {fp : List Addr} (r : Rep K H F k v d fp) : Rep K H F' k v d fp :=
  Rep.keep (W := fun _ => False) (fun _ _ e _ => e) (fun _ z => z.elim) (fun _ _ z => z) m r fun _ _ z => z
theorem Reps.mono (m : ∀ a, F a → F' a) {k : Nat} {v : List V} {d : List D} {fp : List Addr} (r : Reps K H F k v d fp) : Reps K H F' k v d fp :=
  Reps.keep (W := fun _ => False) (fun _ _ e _ => e) (fun _ z => z.elim) (fun _ _ z => z) m r fun _ _ z => z
mutual
theorem Rep.fp0 : ∀ {v : V} {d : D} {fp : List Addr}, Rep K H F 0 v d fp → fp = []
  | _, _, _, .non => rfl
  | _, _, _, .bl _ => rfl
  | _, _, _, .int _ => rfl
  | _, _, _, .str _ => rfl
  | _, _, _, .arg _ => rfl
  | _, _, _, .tup _ _ r => Reps.fp0 r
  | _, _, _, .lst0 _ _ r => Reps.fp0 r
theorem Reps.fp0 : ∀ {vs : List V} {ds : List D} {fp : List Addr}, Reps K H F 0 vs ds fp → fp = []
  | _, _, _, .nil => rfl
  | _, _, _, .cons h r => by rw [Rep.fp0 h, Reps.fp0 r]; rfl
end
mutual
theorem Rep.of_flat : ∀ {k : Nat} {v : V} {d : D} {fp : List Addr}, Rep K H F k v d fp → d.flat = true → fp = [] ∧ ∀ j F', Rep K H F' j v d []
  | _, _, _, _, .non, _ => ⟨rfl, fun _ _ => .non⟩
  | _, _, _, _, .bl b, _ => ⟨rfl, fun _ _ => .bl b⟩
  | _, _, _, _, .int i, _ => ⟨rfl, fun _ _ => .int i⟩
  | _, _, _, _, .str s, _ => ⟨rfl, fun _ _ => .str s⟩
  | _, _, _, _, .arg h, _ => ⟨rfl, fun _ _ => .arg h⟩
  | _, _, _, _, .tup (ds := ds) h n r, hf => by
    obtain ⟨e, q⟩ := Reps.of_flat r (by simpa [D.flat] using hf)
    exact ⟨e, fun j F' => .tup h n (q j F')⟩
  | _, _, _, _, .lst0 _ _ _, hf => by simp [D.flat] at hf
  | _, _, _, _, .lst1 _ _, hf => by simp [D.flat] at hf
theorem Reps.of_flat : ∀ {k : Nat} {vs : List V} {ds : List D} {fp : List Addr}, Reps K H F k vs ds fp → D.flats ds = true → fp = [] ∧ ∀ j F', Reps K H F' j vs ds []
  | _, _, _, _, .nil, _ => ⟨rfl, fun _ _ => .nil⟩
  | _, _, _, _, .cons h r, hf => by
    rw [D.flats, Bool.and_eq_true] at hf
    obtain ⟨e1, q1⟩ := Rep.of_flat h hf.1
    obtain ⟨e2, q2⟩ := Reps.of_flat r hf.2
    exact ⟨by rw [e1, e2]; rfl, fun j F' => by have := Reps.cons (q1 j F') (q2 j F'); simpa using this⟩
end
mutual
theorem Rep.of_within : ∀ {k : Nat} {v : V} {d : D} {fp : List Addr}, Rep K H F k v d fp → D.within k d = true → ∀ F', Rep K H F' k v d fp
  | _, _, _, _, .non, _, _ => .non
  | _, _, _, _, .bl b, _, _ => .bl b
  | _, _, _, _, .int i, _, _ => .int i
  | _, _, _, _, .str s, _, _ => .str s
  | _, _, _, _, .arg h, _, _ => .arg h
  | _, _, _, _, .tup (ds := ds) h n r, hf, F' => .tup h n (Reps.of_within r (by simpa [D.within] using hf) F')
  | _, _, _, _, .lst0 _ _ _, hf, _ => by simp [D.within] at hf
  | _, _, _, _, .lst1 h r, hf, F' => .lst1 h (Reps.of_within r (by simpa [D.within] using hf) F')
theorem Reps.of_within : ∀ {k : Nat} {vs : List V} {ds : List D} {fp : List Addr}, Reps K H F k vs ds fp → D.withins k ds = true → ∀ F', Reps K H F' k vs ds fp
  | _, _, _, _, .nil, _, _ => .nil
  | _, _, _, _, .cons h r, hf, F' => by
    rw [D.withins, Bool.and_eq_true] at hf
    exact .cons (Rep.of_within h hf.1 F') (Reps.of_within r hf.2 F')
end
mutual
theorem Rep.weak : ∀ {k : Nat} {v : V} {d : D} {fp : List Addr}, Rep K H F k v d fp → fp.Nodup → ∀ j, j ≤ k → ∃ fq, fq.Sublist fp ∧ Rep K H (fun a => F a ∨ (a ∈ fp ∧ a ∉ fq)) j v d fq
  | _, _, _, _, .non, _, _, _ => ⟨[], .slnil, .non⟩
  | _, _, _, _, .bl b, _, _, _ => ⟨[], .slnil, .bl b⟩
  | _, _, _, _, .int i, _, _, _ => ⟨[], .slnil, .int i⟩
  | _, _, _, _, .str s, _, _, _ => ⟨[], .slnil, .str s⟩
  | _, _, _, _, .arg h, _, _, _ => ⟨[], .slnil, .arg h⟩
  | _, _, _, _, .tup h n r, nd, j, hj => by
    obtain ⟨fq, s, q⟩ := Reps.weak r nd j hj
    exact ⟨fq, s, .tup h n q⟩
  | _, _, _, _, .lst0 h f r, nd, j, hj => by
    obtain rfl : j = 0 := by omega
    obtain ⟨fq, s, q⟩ := Reps.weak r nd 0 hj
    exact ⟨fq, s, .lst0 h (.inl f) q⟩
  | _, _, _, _, .lst1 (k := k) (a := a) (fp := fp) h r, nd, j, hj => by
    have nd2 := (List.nodup_cons.mp nd)
    cases j with
    | zero =>
      obtain ⟨fq, s, q⟩ := Reps.weak r nd2.2 0 (Nat.zero_le _)
      have e := Reps.fp0 q
      subst e
      refine ⟨[], List.nil_sublist _, ?_⟩
      exact .lst0 h (.inr ⟨List.mem_cons_self, by simp⟩) (Reps.mono (fun b hb => hb.imp id fun z => ⟨List.mem_cons_of_mem _ z.1, by simp⟩) q)
    | succ j =>
      obtain ⟨fq, s, q⟩ := Reps.weak r nd2.2 j (by omega)
      refine ⟨a :: fq, List.Sublist.cons_cons _ s, .lst1 h (Reps.mono (fun b hb => hb.imp id fun z => ⟨List.mem_cons_of_mem _ z.1, fun m => ?_⟩) q)⟩
      rcases List.mem_cons.mp m with e | m
      · rw [e] at z; exact nd2.1 z.1
      · exact z.2 m
theorem Reps.weak : ∀ {k : Nat} {vs : List V} {ds : List D} {fp : List Addr}, Reps K H F k vs ds fp → fp.Nodup → ∀ j, j ≤ k → ∃ fq, fq.Sublist fp ∧ Reps K H (fun a => F a ∨ (a ∈ fp ∧ a ∉ fq)) j vs ds fq
  | _, _, _, _, .nil, _, _, _ => ⟨[], .slnil, .nil⟩
  | _, _, _, _, .cons (fp := fp) (fq := fq) h r, nd, j, hj => by
    obtain ⟨n1, n2, n3⟩ := List.nodup_append.mp nd
    obtain ⟨f1, s1, q1⟩ := Rep.weak h n1 j hj
    obtain ⟨f2, s2, q2⟩ := Reps.weak r n2 j hj
    refine ⟨f1 ++ f2, List.Sublist.append s1 s2, .cons (Rep.mono (fun b hb => hb.imp id fun z => ⟨List.mem_append_left _ z.1, fun m => ?_⟩) q1) (Reps.mono (fun b hb => hb.imp id fun z => ⟨List.mem_append_right _ z.1, fun m => ?_⟩) q2)⟩
    · rcases List.mem_append.mp m with m | m
      · exact z.2 m
      · exact n3 b z.1 b (s2.subset m) rfl
    · rcases List.mem_append.mp m with m | m
      · exact n3 b (s1.subset m) b z.1 rfl
      · exact z.2 m
end
mutual
theorem Rep.there : ∀ {k : Nat} {v : V} {d : D} {fp : List Addr}, Rep K H F k v d fp → ∀ a ∈ fp, ∃ xs, H a = some (.lst xs)
  | _, _, _, _, .non, _, h => by simp at h
  | _, _, _, _, .bl _, _, h => by simp at h
  | _, _, _, _, .int _, _, h => by simp at h
  | _, _, _, _, .str _, _, h => by simp at h
  | _, _, _, _, .arg _, _, h => by simp at h
  | _, _, _, _, .tup _ _ r, a, h => Reps.there r a h
  | _, _, _, _, .lst0 _ _ r, a, h => Reps.there r a h
  | _, _, _, _, .lst1 e r, b, h => by
    rcases List.mem_cons.mp h with z | z
    · rw [z]; exact ⟨_, e⟩
    · exact Reps.there r b z
theorem Reps.there : ∀ {k : Nat} {vs : List V} {ds : List D} {fp : List Addr}, Reps K H F k vs ds fp → ∀ a ∈ fp, ∃ xs, H a = some (.lst xs)
  | _, _, _, _, .nil, _, h => by simp at h
  | _, _, _, _, .cons q r, a, h => by
    rcases List.mem_append.mp h with z | z
    · exact Rep.there q a z
    · exact Reps.there r a z
end
end
end VI
set_option autoImplicit true
set_option Elab.async false
set_option linter.all false
set_option maxRecDepth 100000
set_option maxHeartbeats 4000000
namespace VI
open PySem PySem.Spec PyProof.Rows L2
inductive Tg where
  | own (k : Nat)
  | bor (i b : Nat)
  deriving DecidableEq, Inhabited, Repr
inductive CT where
  | name (i : Nat)
  | two (a b : CT)
  | three (a b c : CT)
  deriving Inhabited
mutual
inductive CE where
  | var (i : Nat) | mv (i : Nat) | fz (i k : Nat)
  | int (n : Int) | str (s : Str) | bl (b : Bool) | non
  | cst (x : Str)
  | bin (op : Operator) (a b : CE)
  | neg (a : CE)
  | cmp (op : CmpOp) (a b : CE)
  | chn (o1 o2 : CmpOp) (a b c : CE)
  | and (a r : CE) | or (a r : CE) | not (a : CE)
  | ite (c a b : CE)
  | tup (es : CEs) | lst (es : CEs)
  | sub (a i : CE) | slc (a lo hi : CE) | rev (a : CE) | nop
  | bi (f : Str) (es : CEs)
  | fn (f : Str) (es : CEs)
  | met (m : Str) (o : CE) (es : CEs)
  | mut (m : Str) (o : CE) (es : CEs)
  | lc (e : CE) (g : CT) (it : CI) (c : CE) (vs : List Nat)
  | lc2 (e : CE) (g : CT) (it : CI) (c : CE) (g2 : CT) (it2 : CI) (c2 : CE) (vs vs2 : List Nat)
  | isi (a : CE) (ts : List Str)
  | sp (k : Nat) (es : CEs)
  | bad
inductive CEs where
  | nil | cons (e : CE) (r : CEs)
inductive CI where
  | seq (e : CE) | rng (a : CE) | rng2 (a b : CE) | enm (e : CE) | zip (a b : CE) | rvd (e : CE)
end
inductive XE where
  | int (n : Int) | str (s : Str) | bl (b : Bool) | non
  | attr (f : Str) | isE (ts : List Str) | is1 (t : Str)
  | not (a : XE) | and (a b : XE) | or (a b : XE)
  | lnil | lcons (a r : XE)
  deriving Inhabited
mutual
inductive CS where
  | set (i : Nat) (e : CE)
  | set2 (i j : Nat) (e : CE)
  | unp (g : CT) (e : CE)
  | par (i j : Nat) (a b : CE)
  | six (o i e : CE)
  | aug (i : Nat) (op : Operator) (e : CE)
  | augx (o i : CE) (op : Operator) (e : CE)
  | exp (e : CE)
  | ret (e : CE) | retN
  | ite (c : CE) (a b : CSs)
  | for (g : CT) (it : CI) (b : CSs)
  | whl (c : CE) (b : CSs)
  | brk | cnt | pas
  | rai (c : Str) (es : CEs)
  | try (b : CSs) (hs : List (Str × Nat × List XE))
  | bad
inductive CSs where
  | nil | cons (s : CS) (r : CSs)
end
abbrev Env := List (Option (Nat × D))
inductive R (α : Type) where
  | ok (a : α)
  | exn (c : Str) (xs : List D) (e : Env)
  | bad
  deriving Inhabited
def R.bind {α β : Type} (x : R α) (f : α → R β) : R β := match x with
  | .ok a => f a
  | .exn c xs e => .exn c xs e
  | .bad => .bad
inductive R0 where
  | ok (k : Nat) (d : D) (out : Option (Nat × D))
  | exn (c : Str) (xs : List D)
  | bad
  deriving Inhabited
inductive RS where
  | nx (e : Env)
  | rt (k : Nat) (d : D) (e : Env)
  | bk (e : Env)
  | ct (e : Env)
  | exn (c : Str) (xs : List D) (e : Env)
  | bad
  deriving Inhabited
structure Sm where
  call : Str → List (Nat × D) → R0
  ino : Str → Bool
  cst : Str → Option D
  whl : (Env → R (Bool × Env)) → (Env → RS) → Env → RS
def Tg.ret : Tg → Option Nat
  | .own k => some k
  | .bor _ _ => none
def nrm (t : Tg) (d : D) : Tg := if d.flat then .own 9 else t
def Tg.slots : Tg → List Nat
  | .own _ => []
  | .bor i _ => [i]
def Tg.item : Tg → Tg
  | .own 0 => .own 0
  | .own (k + 1) => .own k
  | .bor _ 0 => .own 0
  | .bor i (b + 1) => .bor i b
def D.items (t : Tg) : D → Option (Tg × List D)
  | .lst xs => some (t.item, xs)
  | .tup xs => some (t, xs)
  | _ => none
def keepK (t : Tg) (xs : List D) : Option Nat := if D.flats xs then some 9 else t.ret
def minK : List (Tg × D) → Option Nat
  | [] => some 9
  | (t, d) :: r => match minK r with
    | none => none
    | some k => if d.flat then some k else match t with
      | .own j => some (min j k)
      | .bor _ _ => none
def Env.get (e : Env) (i : Nat) : Option (Nat × D) := (e[i]?).getD none
def varTg (i k : Nat) : Tg := match k with
  | 0 => .own 0
  | b + 1 => .bor i b
def okM {α : Type} (o : Option α) : R α := match o with
  | some a => .ok a
  | none => .bad
def guardR {α : Type} (b : Bool) (x : R α) : R α := if b then x else .bad
def lim (n : Nat) : Bool := Nat.ble n 16777216
def mulOk (i j : Int) : Bool := decide (-(2 ^ 64) < i ∧ i < 2 ^ 64) || decide (-(2 ^ 64) < j ∧ j < 2 ^ 64) || (decide (i.natAbs < 2 ^ 8000) && decide (j.natAbs < 2 ^ 8000))
def divOk (i j : Int) : Bool := decide (0 < j) && decide (j < 1073741824)
def mulS (x : Str) (n : Int) : Str := if n < 1 then Str.empty else if n = 1 then x else if x.length = 0 then x else ⟨(List.replicate n.toNat x.cps).foldl (· ++ ·) #[]⟩
def binI (op : Operator) (i j : Int) : Option Int := match op with
  | .Add => some (i + j)
  | .Sub => some (i - j)
  | .Mult => if mulOk i j then some (i * j) else none
  | .FloorDiv => if divOk i j then some (i / j) else none
  | .Mod => if 0 < j then some (i % j) else none
  | .Pow => if 0 ≤ j ∧ j ≤ 1000000 ∧ i.natAbs < 2 ^ 64 then some (i ^ j.toNat) else none
  | .LShift => if 0 ≤ j ∧ j ≤ 1000000 ∧ i.natAbs < 2 ^ 64 then some (i * 2 ^ j.toNat) else none
  | _ => none
def binV (op : Operator) (a b : Tg × D) : Option (Tg × D) := match a.2, b.2 with
  | .int i, .int j => (binI op i j).map fun n => (.own 9, .int n)
  | .str x, .str y => match op with
    | .Add => if lim (x.length + y.length) then some (.own 9, .str (x ++ y)) else none
    | _ => none
  | .str x, .int n => match op with
    | .Mult => if 0 ≤ n ∧ n ≤ 16777216 ∧ lim (x.length * n.toNat) ∧ lim (mulS x n).length then some (.own 9, .str (mulS x n)) else none
    | _ => none
  | .lst xs, .lst ys => match op with
    | .Add => match keepK a.1.item xs, keepK b.1.item ys with
      | some j, some k => if lim (xs.length + ys.length) then some (.own (min j k + 1), .lst (xs ++ ys)) else none
      | _, _ => none
    | _ => none
  | .lst xs, .int n => match op with
    | .Mult => match keepK a.1.item xs with
      | some _ => if -(2 ^ 63) ≤ n ∧ n < 2 ^ 63 ∧ lim (xs.length * n.toNat) then some (.own (if D.flats xs then 10 else 1), .lst (List.replicate n.toNat xs).flatten) else none
      | none => none
    | _ => none
  | _, _ => none
mutual
def D.py : D → Option PyData
  | .non => some .none
  | .bl b => some (.bool b)
  | .int i => some (.int i)
  | .str s => some (.str s)
  | .tup xs => (D.pys xs).map .tuple
  | .lst xs => (D.pys xs).map .list
  | .dct _ => none
  | .ins _ _ => none
  | .arg _ => none
def D.pys : List D → Option (List PyData)
  | [] => some []
  | x :: xs => match x.py, D.pys xs with
    | some a, some as => some (a :: as)
    | _, _ => none
end
def eqV (a b : D) : Option Bool := match a.py, b.py with
  | some x, some y => if SeqAt.shaped x && SeqAt.shaped y then some (PyData.eqv x y) else none
  | _, _ => none
def inV (a : D) (xs : List D) : Option Bool := match a.py, D.pys xs with
  | some x, some ys => if SeqAt.shaped x && SeqAt.shaped (.list ys) then some (ys.any fun z => PyData.eqv z x) else none
  | _, _ => none
def cmpV (op : CmpOp) (a b : D) : Option Bool := match op with
  | .Eq => eqV a b
  | .NotEq => (eqV a b).map not
  | .Lt => match a, b with | .int i, .int j => some (decide (i < j)) | _, _ => none
  | .LtE => match a, b with | .int i, .int j => some (decide (i ≤ j)) | _, _ => none
  | .Gt => match a, b with | .int i, .int j => some (decide (j < i)) | _, _ => none
  | .GtE => match a, b with | .int i, .int j => some (decide (j ≤ i)) | _, _ => none
  | .Is => match b with | .non => some (match a with | .non => true | _ => false) | _ => none
  | .IsNot => match b with | .non => some (match a with | .non => false | _ => true) | _ => none
  | .In => match b with | .lst xs => inV a xs | .str y => (match a with | .str x => some (!(Builtin.Str.occurrences y x 0 y.length 1).isEmpty) | _ => none) | _ => none
  | .NotIn => match b with | .lst xs => (inV a xs).map not | .str y => (match a with | .str x => some (!(!(Builtin.Str.occurrences y x 0 y.length 1).isEmpty)) | _ => none) | _ => none
def truV : D → Option Bool
  | .non => some false
  | .bl b => some b
  | .int i => some (i != 0)
  | .str s => if lim s.length then some (s.length != 0) else none
  | .lst xs => some (!xs.isEmpty)
  | .tup xs => some (!xs.isEmpty)
  | _ => none
def subV (a : Tg × D) (i : D) : Option (Tg × D) := match i with
  | .int n => match a.2 with
    | .str s => if lim s.length then (atI s.cps.toList n).map fun c => (.own 9, .str ⟨#[c]⟩) else none
    | _ => match a.2.items a.1 with
      | some (t, xs) => (atI xs n).map fun x => (nrm t x, x)
      | none => none
  | _ => none
def cutD (xs : List D) (lo hi : Option Int) : List D := (xs.drop (HT.sIx xs.length 0 lo)).take (HT.sIx xs.length xs.length hi - HT.sIx xs.length 0 lo)
def slcV (a : Tg × D) (lo hi : Option Int) : Option (Tg × D) := match a.2 with
  | .lst xs => (keepK a.1.item (cutD xs lo hi)).map fun k => (.own (k + 1), .lst (cutD xs lo hi))
  | .tup xs => if HT.sIx xs.length 0 lo = 0 ∧ HT.sIx xs.length xs.length hi = xs.length then some (a.1, .tup xs) else (keepK a.1 (cutD xs lo hi)).map fun k => (nrm (.own k) (.tup (cutD xs lo hi)), .tup (cutD xs lo hi))
  | _ => none
def tyName : D → Str
  | .non => "NoneType" | .bl _ => "bool" | .int _ => "int" | .str _ => "str" | .tup _ => "tuple" | .lst _ => "list" | .dct _ => "dict" | .ins c _ => c | .arg _ => "list"
def isiV (d : D) (ts : List Str) : Bool := ts.any fun t => tyName d == t || (t == ("int" : Str) && tyName d == ("bool" : Str))
def intsD : List D → Option (List Int)
  | [] => some []
  | .int i :: r => (intsD r).map (i :: ·)
  | _ => none
def boolsD : List D → Option (List Bool)
  | [] => some []
  | .bl i :: r => (boolsD r).map (i :: ·)
  | _ => none
def strsD : List D → Option (List Str)
  | [] => some []
  | .str i :: r => (strsD r).map (i :: ·)
  | _ => none
def biV (f : Str) (as : List (Tg × D)) : Option (Tg × D) :=
  if f == ("len" : Str) then match as with
    | [(_, .str s)] => if lim s.length then some (.own 9, .int s.length) else none
    | [(_, .lst xs)] => some (.own 9, .int xs.length)
    | [(_, .tup xs)] => some (.own 9, .int xs.length)
    | _ => none
  else if f == ("int" : Str) then match as with
    | [(_, .int n)] => some (.own 9, .int n)
    | [(_, .bl b)] => some (.own 9, .int (if b then 1 else 0))
    | _ => none
  else if f == ("str" : Str) then match as with
    | [(_, .int n)] => if n.natAbs.log2 < 1920 then some (.own 9, .str (toString n)) else none
    | _ => none
  else if f == ("list" : Str) then match as with
    | [(_, .arg ns)] => some (.own 10, .lst (ns.map .int))
    | [(t, d)] => match d.items t with
      | some (t', xs) => (keepK t' xs).map fun k => (.own (k + 1), .lst xs)
      | none => none
    | _ => none
  else if f == ("tuple" : Str) then match as with
    | [(t, .lst xs)] => (keepK t.item xs).map fun k => (nrm (.own k) (.tup xs), .tup xs)
    | [(t, .tup xs)] => some (t, .tup xs)
    | _ => none
  else if f == ("min" : Str) then match as with
    | [(_, .int a), (_, .int b)] => some (.own 9, .int (if b < a then b else a))
    | _ => none
  else if f == ("max" : Str) then match as with
    | [(_, .int a), (_, .int b)] => some (.own 9, .int (if b > a then b else a))
    | _ => none
  else if f == ("abs" : Str) then match as with
    | [(_, .int a)] => some (.own 9, .int (if a < 0 then -a else a))
    | _ => none
  else if f == ("sum" : Str) then match as with
    | [(_, .lst xs)] => (intsD xs).map fun ns => (.own 9, .int ns.sum)
    | _ => none
  else if f == ("all" : Str) then match as with
    | [(_, .lst xs)] => (boolsD xs).map fun bs => (.own 9, .bl (bs.all id))
    | _ => none
  else if f == ("any" : Str) then match as with
    | [(_, .lst xs)] => (boolsD xs).map fun bs => (.own 9, .bl (bs.any id))
    | _ => none
  else if f == ("sorted" : Str) then match as with
    | [(_, .lst xs)] => match intsD xs with
      | some ns => if xs.length < 64 then some (.own 10, .lst ((ns.mergeSort (fun a b => decide (a ≤ b))).map .int)) else none
      | none => none
    | _ => none
  else none
def idxOf (xs : List D) (y : D) : Nat → Option Nat
  | i => match xs with
    | [] => none
    | x :: r => match eqV x y with
      | some true => some i
      | some false => idxOf r y (i + 1)
      | none => none
def metV (m : Str) (o : Tg × D) (as : List (Tg × D)) : Option (Tg × D) :=
  if m == ("index" : Str) then match o.2, as with
    | .lst xs, [(_, .int y)] => match intsD xs with
      | some ns => if ns.contains y then some (.own 9, .int (ns.idxOf y)) else none
      | none => none
    | .tup xs, [(_, .int y)] => match intsD xs with
      | some ns => if ns.contains y then some (.own 9, .int (ns.idxOf y)) else none
      | none => none
    | _, _ => none
  else if m == ("join" : Str) then match o.2, as with
    | .str s, [(_, .lst xs)] => match strsD xs with
      | some ys => if lim (s.length * ys.length + (ys.map (·.length)).sum) then some (.own 9, .str (Txt.join s ys)) else none
      | none => none
    | _, _ => none
  else none
def mutV (m : Str) (xs : List D) (as : List (Tg × D)) : Option (Bool × D × List D × List (Tg × D)) :=
  if m == ("append" : Str) then match as with
    | [y] => if lim (xs.length + 1) then some (false, .non, xs ++ [y.2], [y]) else none
    | _ => none
  else if m == ("pop" : Str) then match as with
    | [] => (xs[xs.length - 1]?).map fun y => (true, y, xs.dropLast, [])
    | [(_, .int i)] => if -(2 ^ 63) ≤ i ∧ i < 2 ^ 63 then match seqIndex? i xs.length with
        | some k => (xs[k]?).map fun y => (true, y, xs.eraseIdx k, [])
        | none => none
      else none
    | _ => none
  else if m == ("insert" : Str) then match as with
    | [(_, .int i), y] => if 0 ≤ i ∧ i < 2 ^ 63 ∧ lim (xs.length + 1) then some (false, .non, xs.take i.toNat ++ y.2 :: xs.drop i.toNat, [y]) else none
    | _ => none
  else if m == ("remove" : Str) then match as with
    | [(_, .int y)] => match intsD xs with
      | some ns => if ns.contains y then some (false, .non, xs.eraseIdx (ns.idxOf y), []) else none
      | none => none
    | _ => none
  else none
def atP : List Nat → D → Option (List D)
  | [], .lst xs => some xs
  | i :: p, .lst xs => match xs[i]? with
    | some x => atP p x
    | none => none
  | _, _ => none
def putP : List Nat → List D → D → D
  | [], ys, .lst _ => .lst ys
  | i :: p, ys, .lst xs => match xs[i]? with
    | some x => .lst (xs.set i (putP p ys x))
    | none => .lst xs
  | _, _, d => d
def Env.bindE (e : Env) (bs : List Nat) (i : Nat) (t : Tg) (d : D) : Option Env := if bs.contains i || !(decide (i < e.length)) then none else (t.ret).map fun k => e.set i (some (if d.flat then 9 else k, d))
def bindT : CT → Env → List Nat → Tg → D → Option Env
  | .name i, e, bs, t, d => e.bindE bs i t d
  | .two a b, e, bs, t, d => match d with
    | .tup [x, y] => match bindT a e bs (nrm t x) x with
      | some e1 => bindT b e1 bs (nrm t y) y
      | none => none
    | _ => none
  | .three _ _ _, _, _, _, _ => none
def wipeE (e : Env) : List Nat → Env
  | [] => e
  | v :: vs => (wipeE e vs).set v none
structure Its where
  t : Tg
  xs : List D
  os : List Nat
  deriving Inhabited
def rngI (a b : Int) : List D := (List.range (b - a).toNat).map fun (i : Nat) => D.int (a + i)
def rngOk (a b : Int) : Bool := decide (-(2 ^ 62) ≤ a ∧ a < 2 ^ 62 ∧ -(2 ^ 62) ≤ b ∧ b < 2 ^ 62)
def froz : Tg → Tg
  | .own _ => .own 0
  | t => t
def enumD : Nat → List D → List D
  | _, [] => []
  | i, x :: r => .tup [.int i, x] :: enumD (i + 1) r
def seqI (t : Tg) (d : D) : Option Its := match d with
  | .lst xs => some ⟨(froz t).item, xs, (froz t).slots⟩
  | .tup xs => some ⟨froz t, xs, (froz t).slots⟩
  | _ => none
def lcLoop (f : Tg × D → Env → R (Option (Tg × D) × Env)) (t : Tg) : List D → Env → R (List (Tg × D) × Env)
  | [], e => .ok ([], e)
  | x :: r, e => (f (nrm t x, x) e).bind fun p => (lcLoop f t r p.2).bind fun q => match p.1 with
    | some y => .ok (y :: q.1, q.2)
    | none => .ok q
def lcLoop2 (f : Tg × D → Env → R (List (Tg × D) × Env)) (t : Tg) : List D → Env → R (List (Tg × D) × Env)
  | [], e => .ok ([], e)
  | x :: r, e => (f (nrm t x, x) e).bind fun p => (lcLoop2 f t r p.2).bind fun q => .ok (p.1 ++ q.1, q.2)
def forLoop (f : Tg × D → Env → RS) (t : Tg) : List D → Env → RS
  | [], e => .nx e
  | x :: r, e => match f (nrm t x, x) e with
    | .nx e1 => forLoop f t r e1
    | .ct e1 => forLoop f t r e1
    | .bk e1 => .nx e1
    | q => q
def looked (as : List (Tg × D)) : List (Nat × D) := as.map fun a => (0, a.2)
def others : List (Tg × D) → List Nat
  | [] => []
  | (t, d) :: r => (nrm t d).slots ++ others r
def freeze (e : Env) : List Nat → Env
  | [] => e
  | i :: r => freeze (match e.get i with
    | some (_, d) => e.set i (some (0, d))
    | none => e) r
def disj (a b : List Nat) : Bool := a.all fun x => !b.contains x
def landE (bs : List Nat) (os : List Nat) (k : Nat) (d : D) (e : Env) (own : Bool) : R (Tg × D × Env) :=
  if own then .ok (nrm (.own k) d, d, e)
  else if disj os bs then .ok (nrm (.own k) d, d, freeze e os)
  else .bad
def callE (Γ : Sm) (bs : List Nat) (f : Str) (es : CEs) (as : List (Tg × D)) (e : Env) : R (Tg × D × Env) :=
  if Γ.ino f then
    match es, as with
    | .cons (.var i) _, _ :: as' => match e.get i with
      | some kd => if bs.contains i || (others as').contains i then .bad else
        match Γ.call f (kd :: looked as') with
        | .ok k d (some o) => landE bs (others as') k d (e.set i (some o)) (D.within k d && D.within o.1 o.2)
        | _ => .bad
      | none => .bad
    | _, _ => .bad
  else match Γ.call f (looked as) with
    | .ok k d none => landE bs (others as) k d e (D.within k d)
    | .exn c xs => .exn c xs e
    | _ => .bad
def mutE (bs : List Nat) (m : Str) (i : Nat) (p : List Nat) (as : List (Tg × D)) (e : Env) : R (Tg × D × Env) :=
  match e.get i with
  | none => .bad
  | some (k, d) =>
    if bs.contains i || Nat.ble k p.length || as.any (fun a => (nrm a.1 a.2).slots.contains i) then .bad
    else match atP p d with
      | none => .bad
      | some xs => match mutV m xs as with
        | none => .bad
        | some (mine, r, ys, gone) => match minK gone with
          | none => .bad
          | some j => .ok (if mine then (nrm (.own (min (k - p.length - 1) j)) r, r, e.set i (some (min k (p.length + 1 + j), putP p ys d))) else (.own 9, r, e.set i (some (min k (p.length + 1 + j), putP p ys d))))
def okP (e : Env) (i : Nat) (p : List Nat) : Bool := match e.get i with
  | some (k, d) => !(Nat.ble k p.length) && (atP p d).isSome
  | none => false
def stepP (i : Nat) (p : List Nat) (n : D) (e : Env) : R (Nat × List Nat × Env) := match n, e.get i with
  | .int n, some (k, d) => if Nat.ble k p.length then .bad else match atP p d with
    | some xs => match ixN xs.length n with
      | some j => .ok (i, p ++ [j], e)
      | none => .bad
    | none => .bad
  | _, _ => .bad
def metRcv (m : Str) (d : D) : Bool := if m == ("index" : Str) then (match d with | .lst _ => true | .tup _ => true | _ => false) else if m == ("join" : Str) then (match d with | .str _ => true | _ => false) else false
def ioOk (es : CEs) (e : Env) : Bool := match es with
  | .cons (.var i) _ => (e.get i).isSome
  | _ => false
def CE.isNop : CE → Bool
  | .nop => true
  | _ => false
def noX {α : Type} : R α → R α
  | .ok a => .ok a
  | _ => .bad
def part (n : Bool) (x : R (Tg × D × Env)) (e : Env) : R (Option Int × Env) := if n then .ok (none, e) else x.bind fun y => match y.2.1 with
  | .int i => .ok (some i, y.2.2)
  | _ => .bad
def tst (x : R (Tg × D × Env)) : R (Bool × Env) := x.bind fun y => (okM (truV y.2.1)).bind fun b => .ok (b, y.2.2)
def test (n : Bool) (x : R (Tg × D × Env)) (e : Env) : R (Bool × Env) := if n then .ok (true, e) else tst x
mutual
def evE (Γ : Sm) : CE → List Nat → Env → R (Tg × D × Env)
  | .var i, _, e => match e.get i with
    | some (k, d) => .ok (nrm (varTg i k) d, d, e)
    | none => .bad
  | .mv i, bs, e => match e.get i with
    | some (k, d) => guardR (!bs.contains i) (.ok (nrm (.own k) d, d, e.set i none))
    | none => .bad
  | .fz i k, bs, e => match e.get i with
    | some (j, d) => if j ≤ k || d.flat then .ok (nrm (varTg i j) d, d, e) else guardR (!bs.contains i) (.ok (nrm (varTg i k) d, d, e.set i (some (k, d))))
    | none => .bad
  | .int n, _, e => .ok (.own 9, .int n, e)
  | .str s, _, e => .ok (.own 9, .str s, e)
  | .bl b, _, e => .ok (.own 9, .bl b, e)
  | .non, _, e => .ok (.own 9, .non, e)
  | .cst x, _, e => match Γ.cst x with
    | some d => guardR d.flat (.ok (.own 9, d, e))
    | none => .bad
  | .bin op a b, bs, e => (evE Γ a bs e).bind fun x => (evE Γ b (x.1.slots ++ bs) x.2.2).bind fun y => (okM (binV op (x.1, x.2.1) (y.1, y.2.1))).bind fun r => .ok (r.1, r.2, y.2.2)
  | .neg a, bs, e => (evE Γ a bs e).bind fun x => match x.2.1 with
    | .int n => .ok (.own 9, .int (-n), x.2.2)
    | _ => .bad
  | .cmp op a b, bs, e => (evE Γ a bs e).bind fun x => (evE Γ b (x.1.slots ++ bs) x.2.2).bind fun y => (okM (cmpV op x.2.1 y.2.1)).bind fun r => .ok (.own 9, .bl r, y.2.2)
  | .chn o1 o2 a b c, bs, e => (evE Γ a bs e).bind fun x => (evE Γ b (x.1.slots ++ bs) x.2.2).bind fun y => (okM (cmpV o1 x.2.1 y.2.1)).bind fun r =>
      if r then (evE Γ c (y.1.slots ++ (x.1.slots ++ bs)) y.2.2).bind fun z => (okM (cmpV o2 y.2.1 z.2.1)).bind fun q => .ok (.own 9, .bl q, z.2.2)
      else .ok (.own 9, .bl false, y.2.2)
  | .and a r, bs, e => (evE Γ a bs e).bind fun x => match x.2.1 with
    | .bl true => evE Γ r bs x.2.2
    | .bl false => .ok (.own 9, .bl false, x.2.2)
    | _ => .bad
  | .or a r, bs, e => (evE Γ a bs e).bind fun x => match x.2.1 with
    | .bl false => evE Γ r bs x.2.2
    | .bl true => .ok (.own 9, .bl true, x.2.2)
    | _ => .bad
  | .not a, bs, e => (evE Γ a bs e).bind fun x => match x.2.1 with
    | .bl b => .ok (.own 9, .bl (!b), x.2.2)
    | _ => .bad
  | .ite c a b, bs, e => (evE Γ c bs e).bind fun x => (okM (truV x.2.1)).bind fun r => if r then evE Γ a bs x.2.2 else evE Γ b bs x.2.2
  | .tup es, bs, e => (evEs Γ es bs e).bind fun x => (okM (minK x.1)).bind fun k => guardR (lim x.1.length) (.ok (nrm (.own k) (.tup (x.1.map (·.2))), .tup (x.1.map (·.2)), x.2))
  | .lst es, bs, e => (evEs Γ es bs e).bind fun x => (okM (minK x.1)).bind fun k => guardR (lim x.1.length) (.ok (.own (k + 1), .lst (x.1.map (·.2)), x.2))
  | .sub a i, bs, e => (evE Γ a bs e).bind fun x => (evE Γ i (x.1.slots ++ bs) x.2.2).bind fun y => (okM (subV (x.1, x.2.1) y.2.1)).bind fun r => .ok (r.1, r.2, y.2.2)
  | .slc a lo hi, bs, e => (evE Γ a bs e).bind fun x => (part lo.isNop (evE Γ lo (x.1.slots ++ bs) x.2.2) x.2.2).bind fun l => (part hi.isNop (evE Γ hi (x.1.slots ++ bs) l.2) l.2).bind fun h => (okM (slcV (x.1, x.2.1) l.1 h.1)).bind fun r => .ok (r.1, r.2, h.2)
  | .rev a, bs, e => (evE Γ a bs e).bind fun x => match x.2.1 with
    | .lst xs => (okM (keepK x.1.item xs)).bind fun k => .ok (.own (k + 1), .lst xs.reverse, x.2.2)
    | _ => .bad
  | .nop, _, _ => .bad
  | .bi f es, bs, e => (evEs Γ es bs e).bind fun x => (okM (biV f x.1)).bind fun r => .ok (r.1, r.2, x.2)
  | .fn f es, bs, e => if Γ.ino f then guardR (ioOk es e) ((evT Γ es bs e).bind fun x => callE Γ bs f es x.1 x.2) else (evEs Γ es bs e).bind fun x => callE Γ bs f es x.1 x.2
  | .met m o es, bs, e => (evE Γ o bs e).bind fun y => guardR (metRcv m y.2.1) ((evEs Γ es (y.1.slots ++ bs) y.2.2).bind fun x => (okM (metV m (y.1, y.2.1) x.1)).bind fun r => .ok (r.1, r.2, x.2))
  | .mut m o es, bs, e => (evP Γ o bs e).bind fun p => guardR (okP p.2.2 p.1 p.2.1) ((evEs Γ es (p.1 :: bs) p.2.2).bind fun x => mutE bs m p.1 p.2.1 x.1 x.2)
  | .lc el g it c vs, bs, e => (evI Γ it bs e).bind fun s =>
      (noX (lcLoop (fun x e1 => (okM (bindT g e1 (s.1.os ++ bs) x.1 x.2)).bind fun e2 => (test c.isNop (evE Γ c (s.1.os ++ bs) e2) e2).bind fun b =>
        if b.1 then (evE Γ el (s.1.os ++ bs) b.2).bind fun y => .ok (some (y.1, y.2.1), wipeE y.2.2 vs) else .ok (none, wipeE b.2 vs)) s.1.t s.1.xs (wipeE s.2 vs))).bind fun q =>
      (okM (minK q.1)).bind fun k => guardR (lim q.1.length && disj vs (s.1.os ++ bs)) (.ok (.own (k + 1), .lst (q.1.map (·.2)), q.2))
  | .lc2 el g it c g2 it2 c2 vs vs2, bs, e => (evI Γ it bs e).bind fun s =>
      (lcLoop2 (fun x e1 => (okM (bindT g e1 (s.1.os ++ bs) x.1 x.2)).bind fun e2 => (test c.isNop (evE Γ c (s.1.os ++ bs) e2) e2).bind fun b =>
        if b.1 then (evI Γ it2 (s.1.os ++ bs) b.2).bind fun s2 =>
          (lcLoop (fun x e1 => (okM (bindT g2 e1 (s2.1.os ++ (s.1.os ++ bs)) x.1 x.2)).bind fun e2 => (test c2.isNop (evE Γ c2 (s2.1.os ++ (s.1.os ++ bs)) e2) e2).bind fun b =>
            if b.1 then (evE Γ el (s2.1.os ++ (s.1.os ++ bs)) b.2).bind fun y => .ok (some (y.1, y.2.1), wipeE y.2.2 vs2) else .ok (none, wipeE b.2 vs2)) s2.1.t s2.1.xs (wipeE s2.2 vs2)).bind fun q => .ok (q.1, wipeE q.2 vs)
        else .ok ([], wipeE b.2 vs)) s.1.t s.1.xs (wipeE s.2 vs)).bind fun q =>
      (okM (minK q.1)).bind fun k => guardR (lim q.1.length && disj vs (s.1.os ++ bs)) (.ok (.own (k + 1), .lst (q.1.map (·.2)), q.2))
  | .isi a ts, bs, e => (evE Γ a bs e).bind fun x => .ok (.own 9, .bl (isiV x.2.1 ts), x.2.2)
  | .sp k es, bs, e => (evEs Γ es bs e).bind fun x => match k, x.1 with
    | 0, [(_, .int a)] => guardR (rngOk 0 a && lim a.toNat) (.ok (.own 10, .lst (rngI 0 a), x.2))
    | 1, [(_, .int a), (_, .int b)] => guardR (rngOk a b && lim (b - a).toNat) (.ok (.own 10, .lst (rngI a b), x.2))
    | 2, [(t, .lst xs)] => (okM (keepK t.item xs)).bind fun k => .ok (nrm (.own k) (.tup xs.reverse), .tup xs.reverse, x.2)
    | _, _ => .bad
  | .bad, _, _ => .bad
def evEs (Γ : Sm) : CEs → List Nat → Env → R (List (Tg × D) × Env)
  | .nil, _, e => .ok ([], e)
  | .cons c r, bs, e => (evE Γ c bs e).bind fun x => (evEs Γ r (x.1.slots ++ bs) x.2.2).bind fun y => .ok ((x.1, x.2.1) :: y.1, y.2)
def evT (Γ : Sm) : CEs → List Nat → Env → R (List (Tg × D) × Env)
  | .nil, _, _ => .bad
  | .cons _ r, bs, e => (evEs Γ r bs e).bind fun y => .ok ((.own 9, .non) :: y.1, y.2)
def evI (Γ : Sm) : CI → List Nat → Env → R (Its × Env)
  | .seq c, bs, e => (evE Γ c bs e).bind fun x => (okM (seqI x.1 x.2.1)).bind fun s => .ok (s, x.2.2)
  | .rng c, bs, e => (evE Γ c bs e).bind fun x => match x.2.1 with
    | .int n => guardR (rngOk 0 n) (.ok (⟨.own 9, rngI 0 n, []⟩, x.2.2))
    | _ => .bad
  | .rng2 a b, bs, e => (evE Γ a bs e).bind fun x => (evE Γ b (x.1.slots ++ bs) x.2.2).bind fun y => match x.2.1, y.2.1 with
    | .int m, .int n => guardR (rngOk m n) (.ok (⟨.own 9, rngI m n, []⟩, y.2.2))
    | _, _ => .bad
  | .enm c, bs, e => (evE Γ c bs e).bind fun x => (okM (seqI x.1 x.2.1)).bind fun s => .ok (⟨s.t, enumD 0 s.xs, s.os⟩, x.2.2)
  | .zip _ _, _, _ => .bad
  | .rvd _, _, _ => .bad
def evP (Γ : Sm) : CE → List Nat → Env → R (Nat × List Nat × Env)
  | .var i, _, e => match e.get i with
    | some _ => .ok (i, [], e)
    | none => .bad
  | .sub a c, bs, e => (evP Γ a bs e).bind fun p => guardR (okP p.2.2 p.1 p.2.1) ((evE Γ c (p.1 :: bs) p.2.2).bind fun y => stepP p.1 p.2.1 y.2.1 y.2.2)
  | _, _, _ => .bad
end
end VI
set_option autoImplicit true
set_option Elab.async false
set_option linter.all false
set_option maxRecDepth 100000
set_option maxHeartbeats 4000000
namespace VI
open PySem PySem.Spec PyProof.Rows L2
def R.toS {α : Type} (x : R α) (f : α → RS) : RS := match x with
  | .ok a => f a
  | .exn c xs e => .exn c xs e
  | .bad => .bad
def optS (o : Option Env) (f : Env → RS) : RS := match o with
  | some e => f e
  | none => .bad
def fieldsOf (c : Str) : List Str :=
  if c == ("TooMany" : Str) then ["what", "limit"]
  else if c == ("BadNumber" : Str) || c == ("BadRow" : Str) then ["what"]
  else if c == ("BadText" : Str) then ["line"]
  else if c == ("BadDeed" : Str) then ["why"]
  else if c == ("NotUnlike" : Str) || c == ("NotBest" : Str) then []
  else ["at"]
def evX (c : Str) (xs : List D) : XE → Option D
  | .int n => some (.int n)
  | .str s => some (.str s)
  | .bl b => some (.bl b)
  | .non => some .non
  | .attr f => ((fieldsOf c).zip xs).lookup f
  | .isE ts => some (.bl (ts.any fun t => t == c || t == ("SwapError" : Str) || t == ("ValueError" : Str)))
  | .is1 t => some (.bl (t == c || t == ("SwapError" : Str) || t == ("ValueError" : Str)))
  | .not a => match evX c xs a with | some (.bl b) => some (.bl (!b)) | _ => none
  | .and a b => match evX c xs a with | some (.bl true) => evX c xs b | some (.bl false) => some (.bl false) | _ => none
  | .or a b => match evX c xs a with | some (.bl false) => evX c xs b | some (.bl true) => some (.bl true) | _ => none
  | .lnil => some (.lst [])
  | .lcons a r => match evX c xs a, evX c xs r with
    | some x, some (.lst ys) => if x.flat then some (.lst (x :: ys)) else none
    | _, _ => none
def catches (c : Str) (ts : List Str) : Bool := ts.any fun t => t == c || t == ("SwapError" : Str)
def evXs (c : Str) (xs : List D) : List XE → Option (List D)
  | [] => some []
  | x :: r => match evX c xs x, evXs c xs r with
    | some d, some ds => some (d :: ds)
    | _, _ => none
def scs : D → Bool
  | .non => true
  | .bl _ => true
  | .int _ => true
  | .str _ => true
  | _ => false
def handle (c : Str) (xs : List D) (e : Env) : List (Str × Nat × List XE) → RS
  | [] => .exn c xs e
  | (t, i, x) :: r => if catches c [t] then (match evXs c xs x with
      | some ds => if ds.all scs && decide (i < e.length) && lim ds.length then .rt 10 (.lst ds) (e.set i none) else .bad
      | none => .bad)
    else handle c xs e r
def isSc : D → Bool
  | .non => true
  | .bl _ => true
  | .int _ => true
  | .str _ => true
  | _ => false
def isSm : D → Bool
  | .int i => decide (-(2 ^ 64) < i ∧ i < 2 ^ 64)
  | .str s => decide (s.length ≤ 1000)
  | _ => false
theorem isSm.sc {d : D} (h : isSm d = true) : isSc d = true := by cases d <;> first | rfl | cases h
theorem smsAll : ∀ {ds : List D}, ds.all isSm = true → ds.all isSc = true
  | [], _ => rfl
  | d :: ds, h => by
    rw [List.all_cons, Bool.and_eq_true] at h ⊢
    exact ⟨isSm.sc h.1, smsAll h.2⟩
def errArgs (xs : List (Tg × D)) : Option (List D) := if (xs.map (·.2)).all isSm then some (xs.map (·.2)) else none
def sixE (bs : List Nat) (i : Nat) (p : List Nat) (n : D) (x : Tg × D) (e : Env) : RS := match n, e.get i with
  | .int n, some (k, d) => if bs.contains i || Nat.ble k p.length then .bad else match atP p d with
    | some xs => match ixN xs.length n, minK [x] with
      | some j, some q => .nx (e.set i (some (min k (p.length + 1 + q), putP p (xs.set j x.2) d)))
      | _, _ => .bad
    | none => .bad
  | _, _ => .bad
mutual
def exS (Γ : Sm) : CS → List Nat → Env → RS
  | .set i c, bs, e => (evE Γ c bs e).toS fun x => optS (x.2.2.bindE bs i x.1 x.2.1) .nx
  | .set2 i j c, bs, e => (evE Γ c bs e).toS fun x => if x.2.1.flat then optS (x.2.2.bindE bs i x.1 x.2.1) fun e1 => optS (e1.bindE bs j x.1 x.2.1) .nx else .bad
  | .unp g c, bs, e => (evE Γ c bs e).toS fun x => optS (bindT g x.2.2 bs x.1 x.2.1) .nx
  | .par i j a b, bs, e => (evE Γ a bs e).toS fun x => (evE Γ b (x.1.slots ++ bs) x.2.2).toS fun y => if i = j then .bad else optS (y.2.2.bindE (x.1.slots ++ (y.1.slots ++ bs)) i x.1 x.2.1) fun e1 => optS (e1.bindE (x.1.slots ++ (y.1.slots ++ bs)) j y.1 y.2.1) .nx
  | .six o i c, bs, e => (evE Γ c bs e).toS fun x => (evP Γ o (x.1.slots ++ bs) x.2.2).toS fun p => if okP p.2.2 p.1 p.2.1 then (evE Γ i (p.1 :: (x.1.slots ++ bs)) p.2.2).toS fun y => sixE (x.1.slots ++ bs) p.1 p.2.1 y.2.1 (x.1, x.2.1) y.2.2 else .bad
  | .aug i op c, bs, e => (evE Γ c bs e).toS fun y => match e.get i with
    | some (_, .int a) => match y.2.2.get i, y.2.1 with
      | some (_, .int a'), .int b => if a = a' then (match op with
          | .Add => .nx (y.2.2.set i (some (9, .int (a + b))))
          | .Sub => .nx (y.2.2.set i (some (9, .int (a - b))))
          | _ => .bad) else .bad
      | _, _ => .bad
    | _ => .bad
  | .augx o i op c, bs, e => (evP Γ o bs e).toS fun p => (evE Γ i (p.1 :: bs) p.2.2).toS fun y => (evE Γ c (p.1 :: bs) y.2.2).toS fun z =>
      match y.2.1, z.2.2.get p.1, z.2.1 with
      | .int n, some (k, d), .int b => if bs.contains p.1 || Nat.ble k p.2.1.length then .bad else match atP p.2.1 d with
        | some xs => match ixN xs.length n with
          | some j => match xs[j]?, op with
            | some (.int a), .Add => .nx (z.2.2.set p.1 (some (k, putP p.2.1 (xs.set j (.int (a + b))) d)))
            | some (.int a), .Sub => .nx (z.2.2.set p.1 (some (k, putP p.2.1 (xs.set j (.int (a - b))) d)))
            | _, _ => .bad
          | none => .bad
        | none => .bad
      | _, _, _ => .bad
  | .exp c, bs, e => (evE Γ c bs e).toS fun x => .nx x.2.2
  | .ret c, bs, e => (evE Γ c bs e).toS fun x => match minK [(x.1, x.2.1)] with
    | some k => .rt k x.2.1 x.2.2
    | none => .bad
  | .retN, _, e => .rt 9 .non e
  | .ite c a b, bs, e => (tst (evE Γ c bs e)).toS fun x => if x.1 then exSs Γ a bs x.2 else exSs Γ b bs x.2
  | .for g it b, bs, e => (evI Γ it bs e).toS fun s => forLoop (fun x e1 => optS (bindT g e1 (s.1.os ++ bs) x.1 x.2) fun e2 => exSs Γ b (s.1.os ++ bs) e2) s.1.t s.1.xs s.2
  | .whl c b, bs, e => Γ.whl (fun e1 => tst (evE Γ c bs e1)) (fun e1 => exSs Γ b bs e1) e
  | .brk, _, e => .bk e
  | .cnt, _, e => .ct e
  | .pas, _, e => .nx e
  | .rai c es, bs, e => (evEs Γ es bs e).toS fun x => match errArgs x.1 with
    | some xs => if xs.length = (fieldsOf c).length then .exn c xs x.2 else .bad
    | none => .bad
  | .try b hs, bs, e => match exSs Γ b bs e with
    | .exn c xs e1 => handle c xs e1 hs
    | q => q
  | .bad, _, _ => .bad
def exSs (Γ : Sm) : CSs → List Nat → Env → RS
  | .nil, _, e => .nx e
  | .cons s r, bs, e => match exS Γ s bs e with
    | .nx e1 => exSs Γ r bs e1
    | q => q
end
def whileN (t : Env → R (Bool × Env)) (b : Env → RS) : Nat → Env → RS
  | 0, _ => .bad
  | n + 1, e => (t e).toS fun x => if x.1 then (match b x.2 with
      | .nx e2 => whileN t b n e2
      | .ct e2 => whileN t b n e2
      | .bk e2 => .nx e2
      | q => q) else .nx x.2
structure Fd where
  name : Str
  ps : Nat
  ns : Nat
  ino : Bool
  body : CSs
def outOf (e : Env) (ino : Bool) (k : Nat) (d : D) : R0 := if ino then (match e.get 0 with
  | some o => .ok k d (some o)
  | none => .bad) else .ok k d none
def runF (Γ : Sm) (f : Fd) (as : List (Nat × D)) : R0 :=
  if as.length = f.ps then match exSs Γ f.body [] (as.map some ++ List.replicate (f.ns - f.ps) none) with
    | .rt k d e => outOf e f.ino k d
    | .nx e => outOf e f.ino 9 .non
    | .exn c xs _ => if f.ino then .bad else .exn c xs
    | _ => .bad
  else .bad
structure Pg where
  fds : List Fd
  ext : Str → Option (Bool × (List (Nat × D) → R0))
  cst : Str → Option D
  whl : (Env → R (Bool × Env)) → (Env → RS) → Env → RS
def Pg.find (p : Pg) (f : Str) : Option Fd := p.fds.find? fun x => x.name == f
def Pg.ino (p : Pg) (f : Str) : Bool := match p.ext f with
  | some x => x.1
  | none => match p.find f with
    | some x => x.ino
    | none => false
def Pg.callN (p : Pg) : Nat → Str → List (Nat × D) → R0
  | 0, _, _ => .bad
  | n + 1, f, as => match p.ext f with
    | some x => (match n with
      | 0 => .bad
      | _ + 1 => x.2 as)
    | none => match p.find f with
      | some x => runF ⟨p.callN n, p.ino, p.cst, p.whl⟩ x as
      | none => .bad
def Pg.sm (p : Pg) (n : Nat) : Sm := ⟨p.callN n, p.ino, p.cst, p.whl⟩
example (Γ : Sm) (e : Env) : evE Γ (.int 3) [] e = .ok (.own 9, .int 3, e) := rfl
example (Γ : Sm) (e : Env) : exSs Γ (.cons (.ret (.int 3)) .nil) [] e = .rt 9 (.int 3) e := rfl
end VI
set_option autoImplicit true
set_option Elab.async false
set_option linter.all false
set_option maxRecDepth 100000
set_option maxHeartbeats 4000000
namespace VI
open PySem PySem.Spec PyProof.Rows L2
inductive Lb where
  | s (i : Nat)
  | t (j : Nat)
  deriving DecidableEq
structure Pth where
  i : Nat
  r : V
  p : List Nat
  v : V
structure Fr where
  K : PySem.W.Frag
  H0 : Hp
  F0 : Addr → Prop
  P0 : Addr → Prop
  pts : List Pth
  fix : List (Nat × V)
structure Tmp where
  t : Tg
  v : V
  d : D
abbrev Lab := Addr → Option Lb
def Cell (K : PySem.W.Frag) (H : Hp) (F : Addr → Prop) (lab : Lab) (l : Lb) (k : Nat) (v : V) (d : D) : Prop := ∃ fp, Rep K H F k v d fp ∧ fp.Nodup ∧ ∀ a ∈ fp, lab a = some l
def TmpOk (K : PySem.W.Frag) (H : Hp) (F : Addr → Prop) (lab : Lab) (n : Nat) (c : Tmp) : Prop := match c.t with
  | .own k => Cell K H F lab (.t n) k c.v c.d
  | .bor i b => Cell K H F lab (.s i) (b + 1) c.v c.d
def Tmps (K : PySem.W.Frag) (H : Hp) (F : Addr → Prop) (lab : Lab) : List Tmp → Prop
  | [] => True
  | c :: r => TmpOk K H F lab r.length c ∧ Tmps K H F lab r
def Slots (K : PySem.W.Frag) (H : Hp) (F : Addr → Prop) (lab : Lab) (σ : L2.St) (e : Env) : Prop :=
  σ.length = e.length ∧ ∀ i k d, e[i]? = some (some (k, d)) → ∃ v, σ[i]? = some (some v) ∧ Cell K H F lab (.s i) k v d
def RP (H : Hp) (lab : Lab) (i : Nat) : V → List Nat → V → Prop
  | r, [], v => v = r
  | r, j :: p, v => ∃ a xs w, r = .ref a ∧ lab a = some (.s i) ∧ H a = some (.lst xs) ∧ xs[j]? = some w ∧ RP H lab i w p v
theorem RP.keep {H H' : Hp} {lab lab' : Lab} {i : Nat} (k : ∀ a o, lab a = some (.s i) → H a = some o → H' a = some o) (kl : ∀ a, lab a = some (.s i) → lab' a = some (.s i)) : ∀ {p : List Nat} {r v : V}, RP H lab i r p v → RP H' lab' i r p v
  | [], _, _, h => h
  | j :: p, _, _, ⟨a, xs, w, h1, h2, h3, h4, h5⟩ => ⟨a, xs, w, h1, kl a h2, k a _ h2 h3, h4, RP.keep k kl h5⟩
structure Good (fr : Fr) (H : Hp) (F : Addr → Prop) (lab : Lab) : Prop where
  f0 : ∀ a, fr.F0 a → F a
  fnew : ∀ a, F a → fr.F0 a ∨ fr.P0 a ∨ fr.H0 a = none
  fl : ∀ a, F a → lab a = none
  ft : ∀ a, F a → ∃ xs, H a = some (.lst xs)
  lt : ∀ a l, lab a = some l → ∃ xs, H a = some (.lst xs)
  lnew : ∀ a l, lab a = some l → fr.P0 a ∨ fr.H0 a = none
  keep : ∀ a o, fr.H0 a = some o → ¬ fr.P0 a → H a = some o
  there : ∀ a, fr.H0 a ≠ none → H a ≠ none
  p0 : ∀ a, fr.P0 a → ∃ xs, H a = some (.lst xs)
  ftup : ∀ a o, fr.H0 a = some o → (∀ xs, o ≠ .lst xs) → ¬ fr.P0 a
  pth : ∀ q ∈ fr.pts, RP H lab q.i q.r q.p q.v
structure St (fr : Fr) (σ : L2.St) (H : Hp) (e : Env) (tm : List Tmp) (F : Addr → Prop) (lab : Lab) : Prop where
  good : Good fr H F lab
  slots : Slots fr.K H F lab σ e
  tmps : Tmps fr.K H F lab tm
def Rl (fr : Fr) (σ : L2.St) (H : Hp) (e : Env) (tm : List Tmp) : Prop := ∃ F lab, St fr σ H e tm F lab
section
variable {fr : Fr} {K : PySem.W.Frag} {σ : L2.St} {H H' : Hp} {e : Env} {tm : List Tmp} {F F' W : Addr → Prop} {lab lab' : Lab} {l : Lb} {k : Nat} {v : V} {d : D} {p : Addr}
theorem Cell.keep (kp : Keeps W H H') (nt : Lists W H) (hF : ∀ a, F a → ¬ W a) (m : ∀ a, F a → F' a) (hl : ∀ a, lab a = some l → ¬ W a ∧ lab' a = some l) (c : Cell K H F lab l k v d) : Cell K H' F' lab' l k v d := by
  obtain ⟨fp, r, nd, ha⟩ := c
  exact ⟨fp, r.keep kp nt hF m fun a h => (hl a (ha a h)).1, nd, fun a h => (hl a (ha a h)).2⟩
theorem TmpOk.keep {n : Nat} {c : Tmp} (kp : Keeps W H H') (nt : Lists W H) (hF : ∀ a, F a → ¬ W a) (m : ∀ a, F a → F' a) (hl : ∀ a l, lab a = some l → (l = .t n ∨ ∃ i, i ∈ c.t.slots ∧ l = .s i) → ¬ W a ∧ lab' a = some l) (x : TmpOk K H F lab n c) : TmpOk K H' F' lab' n c := by
  unfold TmpOk at x ⊢
  obtain ⟨t, w, q⟩ := c
  cases t with
  | own k => exact Cell.keep kp nt hF m (fun a h => hl a _ h (.inl rfl)) x
  | bor i b => exact Cell.keep kp nt hF m (fun a h => hl a _ h (.inr ⟨i, List.mem_singleton.mpr rfl, rfl⟩)) x
theorem Tmps.keep (kp : Keeps W H H') (nt : Lists W H) (hF : ∀ a, F a → ¬ W a) (m : ∀ a, F a → F' a) : ∀ {tm : List Tmp}, (∀ a l, lab a = some l → ((∃ n, n < tm.length ∧ l = .t n) ∨ ∃ c ∈ tm, ∃ i, i ∈ c.t.slots ∧ l = .s i) → ¬ W a ∧ lab' a = some l) → Tmps K H F lab tm → Tmps K H' F' lab' tm
  | [], _, _ => trivial
  | c :: r, hl, ⟨x, y⟩ => ⟨TmpOk.keep kp nt hF m (fun a l h z => hl a l h (by
      rcases z with rfl | ⟨i, hi, rfl⟩
      · exact .inl ⟨_, Nat.lt_succ_self _, rfl⟩
      · exact .inr ⟨c, List.mem_cons_self, i, hi, rfl⟩)) x, Tmps.keep kp nt hF m (fun a l h z => hl a l h (by
      rcases z with ⟨n, hn, rfl⟩ | ⟨c', hc, i, hi, rfl⟩
      · exact .inl ⟨n, Nat.lt_succ_of_lt hn, rfl⟩
      · exact .inr ⟨c', List.mem_cons_of_mem _ hc, i, hi, rfl⟩)) y⟩
theorem Slots.keep (kp : Keeps W H H') (nt : Lists W H) (hF : ∀ a, F a → ¬ W a) (m : ∀ a, F a → F' a) (hl : ∀ a i, lab a = some (.s i) → ¬ W a ∧ lab' a = some (.s i)) (x : Slots K H F lab σ e) : Slots K H' F' lab' σ e :=
  ⟨x.1, fun i k d h => let ⟨v, h1, h2⟩ := x.2 i k d h; ⟨v, h1, Cell.keep kp nt hF m (fun a h => hl a i h) h2⟩⟩
theorem keeps_self : Keeps (fun _ => False) H H := fun _ _ e _ => e
theorem lists_none : Lists (fun _ => False) H := fun _ z => z.elim
theorem keeps_upd {o : HO} (h : H p = none) : Keeps (fun _ => False) H (upd H p o) := fun a o' e _ => by
  rw [upd_ne (ne_of_none e h)]; exact e
theorem keeps_at {o : HO} : Keeps (fun a => a = p) H (upd H p o) := fun a o' e n => by
  rw [upd_ne n]; exact e
theorem lists_at {xs : List V} (h : H p = some (.lst xs)) : Lists (fun a => a = p) H := fun a e o q => by
  subst e; rw [h] at q; cases q; exact ⟨xs, rfl⟩
theorem St.retop (s : St fr σ H e tm F lab) {Z Y : Addr → Prop} (hZ : ∀ a, Z a → ∃ j, tm.length ≤ j ∧ lab a = some (.t j)) (hY : ∀ a, Y a → ∃ j, tm.length ≤ j ∧ lab a = some (.t j)) (dis : ∀ a, Z a → ¬ Y a) :
    ∃ lab', St fr σ H e tm (fun a => F a ∨ Z a) lab' ∧ (∀ a, Y a → lab' a = some (.t tm.length)) ∧ (∀ a, Z a → lab' a = none) ∧ (∀ a, ¬ Z a → ¬ Y a → lab' a = lab a) := by
  classical
  refine ⟨fun a => if Z a then none else if Y a then some (.t tm.length) else lab a, ?_, fun a h => ?_, fun a h => ?_, fun a h1 h2 => ?_⟩
  · have keepl : ∀ a l, lab a = some l → (∀ j, tm.length ≤ j → l ≠ .t j) → (if Z a then none else if Y a then some (.t tm.length) else lab a) = some l := fun a l h n => by
      have nz : ¬ Z a := fun z => by obtain ⟨j, hj, q⟩ := hZ a z; rw [h] at q; exact n j hj (Option.some.inj q)
      have ny : ¬ Y a := fun z => by obtain ⟨j, hj, q⟩ := hY a z; rw [h] at q; exact n j hj (Option.some.inj q)
      rw [if_neg nz, if_neg ny]; exact h
    refine ⟨⟨fun a h => .inl (s.good.f0 a h), fun a h => ?_, fun a h => ?_, fun a h => ?_, fun a l h => ?_, fun a l h => ?_, s.good.keep, s.good.there, s.good.p0, s.good.ftup, fun q hq => (s.good.pth q hq).keep (fun _ _ _ h => h) fun a h => keepl a _ h (fun j _ z => by cases z)⟩,
      s.slots.keep keeps_self lists_none (fun _ _ z => z) (fun _ h => .inl h) (fun a i h => ⟨id, keepl a _ h (fun j _ z => by cases z)⟩),
      s.tmps.keep keeps_self lists_none (fun _ _ z => z) (fun _ h => .inl h) (fun a l h z => ⟨id, keepl a _ h (fun j hj q => by
        rcases z with ⟨n, hn, rfl⟩ | ⟨c, hc, i, hi, rfl⟩
        · cases q; omega
        · cases q)⟩)⟩
    · rcases h with h | h
      · exact s.good.fnew a h
      · obtain ⟨j, _, q⟩ := hZ a h
        exact .inr (s.good.lnew a _ q)
    · rcases h with h | h
      · have hn := s.good.fl a h
        have nz : ¬ Z a := fun z => by obtain ⟨j, hj, q⟩ := hZ a z; rw [hn] at q; cases q
        have ny : ¬ Y a := fun z => by obtain ⟨j, hj, q⟩ := hY a z; rw [hn] at q; cases q
        show (if Z a then none else if Y a then some (.t tm.length) else lab a) = none
        rw [if_neg nz, if_neg ny]; exact hn
      · show (if Z a then none else if Y a then some (.t tm.length) else lab a) = none
        rw [if_pos h]
    · rcases h with h | h
      · exact s.good.ft a h
      · obtain ⟨j, _, q⟩ := hZ a h
        exact s.good.lt a _ q
    · by_cases hz : Z a
      · have h' : (if Z a then none else if Y a then some (.t tm.length) else lab a) = some l := h
        rw [if_pos hz] at h'; cases h'
      · have h' : (if Z a then none else if Y a then some (.t tm.length) else lab a) = some l := h
        rw [if_neg hz] at h'
        by_cases hy : Y a
        · obtain ⟨j, _, q⟩ := hY a hy
          exact s.good.lt a _ q
        · rw [if_neg hy] at h'
          exact s.good.lt a _ h'
    · by_cases hz : Z a
      · have h' : (if Z a then none else if Y a then some (.t tm.length) else lab a) = some l := h
        rw [if_pos hz] at h'; cases h'
      · have h' : (if Z a then none else if Y a then some (.t tm.length) else lab a) = some l := h
        rw [if_neg hz] at h'
        by_cases hy : Y a
        · obtain ⟨j, _, q⟩ := hY a hy
          exact s.good.lnew a _ q
        · rw [if_neg hy] at h'
          exact s.good.lnew a _ h'
  · show (if Z a then none else if Y a then some (.t tm.length) else lab a) = _
    rw [if_neg (fun z => dis a z h), if_pos h]
  · show (if Z a then none else if Y a then some (.t tm.length) else lab a) = _
    rw [if_pos h]
  · show (if Z a then none else if Y a then some (.t tm.length) else lab a) = _
    rw [if_neg h1, if_neg h2]
theorem St.drop {c : Tmp} (s : St fr σ H e (c :: tm) F lab) : St fr σ H e tm F lab := ⟨s.good, s.slots, s.tmps.2⟩
theorem Rl.drop {c : Tmp} (s : Rl fr σ H e (c :: tm)) : Rl fr σ H e tm := let ⟨F, lab, s⟩ := s; ⟨F, lab, s.drop⟩
theorem St.push {t : Tg} (s : St fr σ H e tm F lab) (r : ∀ k, Rep fr.K H F k v d []) : St fr σ H e (⟨t, v, d⟩ :: tm) F lab := ⟨s.good, s.slots, by
  refine ⟨?_, s.tmps⟩
  unfold TmpOk
  cases t with
  | own k => exact ⟨[], r k, List.nodup_nil, fun a h => by simp at h⟩
  | bor i b => exact ⟨[], r _, List.nodup_nil, fun a h => by simp at h⟩⟩
theorem St.laid {o : HO} (s : St fr σ H e tm F lab) (hp : H p = none) : St fr σ (upd H p o) e tm F lab := by
  have kp := keeps_upd (o := o) hp
  have up : ∀ a xs, H a = some (.lst xs) → upd H p o a = some (.lst xs) := fun a xs h => kp a _ h id
  refine ⟨⟨s.good.f0, s.good.fnew, s.good.fl, fun a h => let ⟨xs, q⟩ := s.good.ft a h; ⟨xs, up a xs q⟩, fun a l h => let ⟨xs, q⟩ := s.good.lt a l h; ⟨xs, up a xs q⟩, s.good.lnew, fun a o' h n => kp a _ (s.good.keep a o' h n) id, fun a h => ?_, fun a h => let ⟨xs, q⟩ := s.good.p0 a h; ⟨xs, up a xs q⟩, s.good.ftup, fun q hq => (s.good.pth q hq).keep (fun a o _ h => kp a o h id) fun _ h => h⟩,
    s.slots.keep kp lists_none (fun _ _ z => z) (fun _ h => h) (fun a i h => ⟨id, h⟩), s.tmps.keep kp lists_none (fun _ _ z => z) (fun _ h => h) (fun a l h _ => ⟨id, h⟩)⟩
  have q := s.good.there a h
  cases z : H a with
  | none => exact absurd z q
  | some o' => rw [kp a _ z id]; simp
theorem St.newL {vs : List V} {ds : List D} {fp : List Addr} (s : St fr σ H e tm F lab) (hp : H p = none) (r : Reps fr.K H F k vs ds fp) (nd : fp.Nodup) (hl : ∀ a ∈ fp, ∃ j, tm.length ≤ j ∧ lab a = some (.t j)) :
    ∃ lab', St fr σ (upd H p (.lst vs)) e (⟨.own (k + 1), .ref p, .lst ds⟩ :: tm) F lab' := by
  classical
  have kp := keeps_upd (o := HO.lst vs) hp
  obtain ⟨lab1, s1, hY, _, hO⟩ := s.retop (Z := fun _ => False) (Y := fun a => a ∈ fp) (fun a z => z.elim) hl (fun a z => z.elim)
  have s2 : St fr σ (upd H p (.lst vs)) e tm (fun a => F a ∨ False) lab1 := s1.laid hp
  have labp : lab1 p = none := by
    cases q : lab1 p with
    | none => rfl
    | some l => obtain ⟨xs, z⟩ := s1.good.lt p l q; rw [hp] at z; cases z
  have np : ∀ a, a ∈ fp → a ≠ p := fun a ha z => by rw [z] at ha; have := hY p ha; rw [labp] at this; cases this
  have nF : ¬ F p := fun z => by obtain ⟨xs, q⟩ := s.good.ft p z; rw [hp] at q; cases q
  refine ⟨fun a => if a = p then some (.t tm.length) else lab1 a, ⟨⟨s.good.f0, s.good.fnew, fun a h => ?_, fun a h => s2.good.ft a (.inl h), fun a l h => ?_, fun a l h => ?_, s2.good.keep, s2.good.there, s2.good.p0, s2.good.ftup, fun q hq => (s2.good.pth q hq).keep (fun _ _ _ h => h) fun a h => (if_neg (fun z => by rw [z, labp] at h; cases h)).trans h⟩, ?_, ?_, ?_⟩⟩
  · show (if a = p then some (Lb.t tm.length) else lab1 a) = none
    rw [if_neg (fun z : a = p => nF (z ▸ h))]; exact s2.good.fl a (.inl h)
  · have h' : (if a = p then some (Lb.t tm.length) else lab1 a) = some l := h
    by_cases z : a = p
    · rw [z]; exact ⟨vs, upd_same⟩
    · rw [if_neg z] at h'; exact s2.good.lt a l h'
  · have h' : (if a = p then some (Lb.t tm.length) else lab1 a) = some l := h
    by_cases z : a = p
    · refine .inr ?_
      cases q : fr.H0 a with
      | none => rfl
      | some o => subst z; exact absurd hp (s.good.there a (by rw [q]; simp))
    · rw [if_neg z] at h'; exact s2.good.lnew a l h'
  · refine s2.slots.keep keeps_self lists_none (fun _ _ z => z) (fun a h => h.elim id False.elim) (fun a i h => ⟨id, ?_⟩)
    show (if a = p then some (Lb.t tm.length) else lab1 a) = _
    rw [if_neg (fun z => by rw [z, labp] at h; cases h)]; exact h
  · refine ⟨p :: fp, .lst1 upd_same (r.keep kp lists_none (fun _ _ z => z) (fun _ h => h) fun _ _ z => z), List.nodup_cons.mpr ⟨fun z => np p z rfl, nd⟩, fun a ha => ?_⟩
    show (if a = p then some (Lb.t tm.length) else lab1 a) = _
    by_cases z : a = p
    · rw [if_pos z]
    · rw [if_neg z]
      rcases List.mem_cons.mp ha with q | q
      · exact absurd q z
      · exact hY a q
  · refine s2.tmps.keep keeps_self lists_none (fun _ _ z => z) (fun a h => h.elim id False.elim) (fun a l h _ => ⟨id, ?_⟩)
    show (if a = p then some (Lb.t tm.length) else lab1 a) = _
    rw [if_neg (fun z => by rw [z, labp] at h; cases h)]; exact h
theorem St.newT {o : Obj} {vs : List V} {ds : List D} {fp : List Addr} (s : St fr σ H e tm F lab) (hp : H p = none) (hd : o.dict = none) (r : Reps fr.K H F k vs ds fp) (nd : fp.Nodup) (hl : ∀ a ∈ fp, ∃ j, tm.length ≤ j ∧ lab a = some (.t j)) :
    ∃ lab', St fr σ (upd H p (.frz o (.tup vs))) e (⟨.own k, .ref p, .tup ds⟩ :: tm) F lab' := by
  have kp := keeps_upd (o := HO.frz o (.tup vs)) hp
  obtain ⟨lab1, s1, hY, _, hO⟩ := s.retop (Z := fun _ => False) (Y := fun a => a ∈ fp) (fun a z => z.elim) hl (fun a z => z.elim)
  have s2 : St fr σ (upd H p (.frz o (.tup vs))) e tm (fun a => F a ∨ False) lab1 := s1.laid hp
  have eF : (fun a => F a ∨ False) = F := by funext a; simp
  rw [eF] at s2
  exact ⟨lab1, s2.good, s2.slots, ⟨fp, .tup upd_same hd (r.keep kp lists_none (fun _ _ z => z) (fun _ h => h) fun _ _ z => z), nd, hY⟩, s2.tmps⟩
def Loose (K : PySem.W.Frag) (H : Hp) (F : Addr → Prop) (lab : Lab) (L : Nat → Prop) (k : Nat) (vs : List V) (ds : List D) : Prop :=
  ∃ fp Z : List Addr, Reps K H (fun a => F a ∨ a ∈ Z) k vs ds fp ∧ (fp ++ Z).Nodup ∧ ∀ a ∈ fp ++ Z, ∃ j, L j ∧ lab a = some (.t j)
variable {fp₀ : List Addr} {L L1 L2 : Nat → Prop} {vs vs' : List V} {ds ds' : List D} {n j : Nat}
theorem Loose.nil : Loose K H F lab L k [] [] := ⟨[], [], .nil, by simp, by simp⟩
theorem Loose.mono (x : Loose K H F lab L k vs ds) (h : ∀ j, L j → L1 j) : Loose K H F lab L1 k vs ds := by
  obtain ⟨fp, Z, r, nd, hl⟩ := x
  exact ⟨fp, Z, r, nd, fun a ha => let ⟨j, h1, h2⟩ := hl a ha; ⟨j, h j h1, h2⟩⟩
theorem Loose.flat (r : Reps K H F k vs ds fp₀) (h : D.flats ds = true) : Loose K H F lab L j vs ds :=
  ⟨[], [], (r.of_flat h).2 _ _, by simp, by simp⟩
theorem Loose.of (r : Reps K H F k vs ds fp₀) (nd : fp₀.Nodup) (hl : ∀ a ∈ fp₀, lab a = some (.t n)) : Loose K H F lab (fun j => j = n) k vs ds :=
  ⟨fp₀, [], r.mono fun _ h => .inl h, by simpa using nd, fun a ha => ⟨n, rfl, hl a (by simpa using ha)⟩⟩
theorem nodup_sub {fp fq : List Addr} (nd : fp.Nodup) (s : fq.Sublist fp) : (fq ++ fp.filter fun a => decide (a ∉ fq)).Nodup := by
  refine List.nodup_append.mpr ⟨nd.sublist s, nd.sublist List.filter_sublist, fun a ha b hb e => ?_⟩
  subst e
  exact of_decide_eq_true (List.mem_filter.mp hb).2 ha
theorem Loose.weak (x : Loose K H F lab L k vs ds) (h : j ≤ k) : Loose K H F lab L j vs ds := by
  obtain ⟨fp, Z, r, nd, hl⟩ := x
  obtain ⟨n1, n2, n3⟩ := List.nodup_append.mp nd
  obtain ⟨fq, s, q⟩ := r.weak n1 j h
  refine ⟨fq, (fp.filter fun a => decide (a ∉ fq)) ++ Z, q.mono fun a ha => ?_, ?_, fun a ha => hl a ?_⟩
  · rcases ha with (ha | ha) | ⟨h1, h2⟩
    · exact .inl ha
    · exact .inr (List.mem_append_right _ ha)
    · exact .inr (List.mem_append_left _ (List.mem_filter.mpr ⟨h1, decide_eq_true h2⟩))
  · rw [← List.append_assoc]
    refine List.nodup_append.mpr ⟨nodup_sub n1 s, n2, fun a ha b hb => n3 a ?_ b hb⟩
    rcases List.mem_append.mp ha with z | z
    · exact s.subset z
    · exact (List.mem_filter.mp z).1
  · rcases List.mem_append.mp ha with z | z
    · exact List.mem_append_left _ (s.subset z)
    · rcases List.mem_append.mp z with z | z
      · exact List.mem_append_left _ (List.mem_filter.mp z).1
      · exact List.mem_append_right _ z
theorem Reps.append : ∀ {vs vs' : List V} {ds ds' : List D} {f g : List Addr}, Reps K H F k vs ds f → Reps K H F k vs' ds' g → Reps K H F k (vs ++ vs') (ds ++ ds') (f ++ g)
  | _, _, _, _, _, _, .nil, r => r
  | _, _, _, _, _, _, .cons h t, r => by
    have := Reps.cons h (Reps.append t r)
    rw [List.append_assoc]; exact this
theorem Loose.append (x : Loose K H F lab L1 k vs ds) (y : Loose K H F lab L2 k vs' ds') (dis : ∀ j, L1 j → ¬ L2 j) : Loose K H F lab (fun j => L1 j ∨ L2 j) k (vs ++ vs') (ds ++ ds') := by
  obtain ⟨f1, Z1, r1, nd1, h1⟩ := x
  obtain ⟨f2, Z2, r2, nd2, h2⟩ := y
  have apart : ∀ a, a ∈ f1 ++ Z1 → a ∈ f2 ++ Z2 → False := fun a q1 q2 => by
    obtain ⟨j1, l1, e1⟩ := h1 a q1
    obtain ⟨j2, l2, e2⟩ := h2 a q2
    rw [e1] at e2; cases e2
    exact dis _ l1 l2
  have m1 : ∀ b : Addr, (F b ∨ b ∈ Z1) → (F b ∨ b ∈ Z1 ++ Z2) := fun b hb => hb.imp id (List.mem_append_left _)
  have m2 : ∀ b : Addr, (F b ∨ b ∈ Z2) → (F b ∨ b ∈ Z1 ++ Z2) := fun b hb => hb.imp id (List.mem_append_right _)
  refine ⟨f1 ++ f2, Z1 ++ Z2, (r1.mono m1).append (r2.mono m2), ?_, fun a ha => ?_⟩
  · obtain ⟨a1, a2, a3⟩ := List.nodup_append.mp nd1
    obtain ⟨b1, b2, b3⟩ := List.nodup_append.mp nd2
    refine List.nodup_append.mpr ⟨List.nodup_append.mpr ⟨a1, b1, fun a ha b hb e => ?_⟩, List.nodup_append.mpr ⟨a2, b2, fun a ha b hb e => ?_⟩, fun a ha b hb e => ?_⟩
    · subst e; exact apart a (List.mem_append_left _ ha) (List.mem_append_left _ hb)
    · subst e; exact apart a (List.mem_append_right _ ha) (List.mem_append_right _ hb)
    · subst e
      rcases List.mem_append.mp ha with p | p <;> rcases List.mem_append.mp hb with q | q
      · exact a3 a p a q rfl
      · exact apart a (List.mem_append_left _ p) (List.mem_append_right _ q)
      · exact apart a (List.mem_append_right _ q) (List.mem_append_left _ p)
      · exact b3 a p a q rfl
  · have : a ∈ f1 ++ Z1 ∨ a ∈ f2 ++ Z2 := by
      simp only [List.mem_append] at ha ⊢
      rcases ha with (h | h) | h | h
      · exact .inl (.inl h)
      · exact .inr (.inl h)
      · exact .inl (.inr h)
      · exact .inr (.inr h)
    rcases this with h | h
    · obtain ⟨j, l, q⟩ := h1 a h; exact ⟨j, .inl l, q⟩
    · obtain ⟨j, l, q⟩ := h2 a h; exact ⟨j, .inr l, q⟩
theorem St.frost (s : St fr σ H e tm F lab) {Z : List Addr} (hZ : ∀ a ∈ Z, ∃ j, tm.length ≤ j ∧ lab a = some (.t j)) : ∃ lab', St fr σ H e tm (fun a => F a ∨ a ∈ Z) lab' ∧ ∀ a, a ∉ Z → lab' a = lab a := by
  obtain ⟨lab', s', _, _, h⟩ := s.retop (Z := fun a => a ∈ Z) (Y := fun _ => False) hZ (fun a z => z.elim) (fun a _ z => z)
  exact ⟨lab', s', fun a ha => h a ha id⟩
theorem St.mkL (s : St fr σ H e tm F lab) (hp : H p = none) (x : Loose fr.K H F lab L k vs ds) (hL : ∀ j, L j → tm.length ≤ j) : Rl fr σ (upd H p (.lst vs)) e (⟨.own (k + 1), .ref p, .lst ds⟩ :: tm) := by
  obtain ⟨fp, Z, r, nd, hl⟩ := x
  obtain ⟨n1, n2, n3⟩ := List.nodup_append.mp nd
  obtain ⟨lab', s', h'⟩ := s.frost (Z := Z) fun a ha => let ⟨j, h1, h2⟩ := hl a (List.mem_append_right _ ha); ⟨j, hL j h1, h2⟩
  obtain ⟨lab2, s2⟩ := s'.newL hp r n1 fun a ha => by
    obtain ⟨j, h1, h2⟩ := hl a (List.mem_append_left _ ha)
    exact ⟨j, hL j h1, by rw [h' a (fun z => n3 a ha a z rfl)]; exact h2⟩
  exact ⟨_, _, s2⟩
theorem St.mkT {o : Obj} (s : St fr σ H e tm F lab) (hp : H p = none) (hd : o.dict = none) (x : Loose fr.K H F lab L k vs ds) (hL : ∀ j, L j → tm.length ≤ j) : Rl fr σ (upd H p (.frz o (.tup vs))) e (⟨.own k, .ref p, .tup ds⟩ :: tm) := by
  obtain ⟨fp, Z, r, nd, hl⟩ := x
  obtain ⟨n1, n2, n3⟩ := List.nodup_append.mp nd
  obtain ⟨lab', s', h'⟩ := s.frost (Z := Z) fun a ha => let ⟨j, h1, h2⟩ := hl a (List.mem_append_right _ ha); ⟨j, hL j h1, h2⟩
  obtain ⟨lab2, s2⟩ := s'.newT hp hd r n1 fun a ha => by
    obtain ⟨j, h1, h2⟩ := hl a (List.mem_append_left _ ha)
    exact ⟨j, hL j h1, by rw [h' a (fun z => n3 a ha a z rfl)]; exact h2⟩
  exact ⟨_, _, s2⟩
theorem TmpOk.nrm {t : Tg} (x : TmpOk K H F lab n ⟨t, v, d⟩) : TmpOk K H F lab n ⟨VI.nrm t d, v, d⟩ := by
  unfold VI.nrm
  by_cases h : d.flat = true
  · rw [if_pos h]
    have r : ∃ k fp, Rep K H F k v d fp := by
      unfold TmpOk at x
      cases t with
      | own k => obtain ⟨fp, r, _⟩ := x; exact ⟨_, fp, r⟩
      | bor i b => obtain ⟨fp, r, _⟩ := x; exact ⟨_, fp, r⟩
    obtain ⟨k, fp, r⟩ := r
    exact ⟨[], (r.of_flat h).2 _ _, List.nodup_nil, by simp⟩
  · rw [if_neg h]; exact x
theorem Rl.nrm {t : Tg} (x : Rl fr σ H e (⟨t, v, d⟩ :: tm)) : Rl fr σ H e (⟨VI.nrm t d, v, d⟩ :: tm) := by
  obtain ⟨F, lab, s⟩ := x
  exact ⟨F, lab, s.good, s.slots, s.tmps.1.nrm, s.tmps.2⟩
end
end VI
set_option autoImplicit true
set_option Elab.async false
set_option linter.all false
set_option maxRecDepth 100000
set_option maxHeartbeats 4000000
namespace VI
open PySem PySem.Spec PyProof.Rows L2
section
variable {fr : Fr} {K : PySem.W.Frag} {σ : L2.St} {H H' : Hp} {e : Env} {tm : List Tmp} {F F' W : Addr → Prop} {lab lab' : Lab} {l : Lb} {k j n : Nat} {v : V} {d : D} {p a : Addr} {t : Tg} {vs xs : List V} {ds : List D} {fp : List Addr} {L : Nat → Prop}
theorem Rep.int_v {i : Int} (r : Rep K H F k v (.int i) fp) : v = .int i := by cases r; rfl
theorem Rep.bl_v {i : Bool} (r : Rep K H F k v (.bl i) fp) : v = .bl i := by cases r; rfl
theorem Rep.str_v {i : Str} (r : Rep K H F k v (.str i) fp) : v = .str i := by cases r; rfl
theorem Rep.non_v (r : Rep K H F k v .non fp) : v = .non := by cases r; rfl
theorem Rep.arg_v {ns : List Int} (r : Rep K H F k v (.arg ns) fp) : ∃ a, v = .ref a ∧ ArgAt K H a ns := by cases r with | arg h => exact ⟨_, rfl, h⟩
theorem Rep.lst_v (r : Rep K H F k v (.lst ds) fp) : ∃ a xs, v = .ref a ∧ H a = some (.lst xs) ∧ ∃ k' fp', Reps K H F k' xs ds fp' := by
  cases r with
  | lst0 h f r => exact ⟨_, _, rfl, h, _, _, r⟩
  | lst1 h r => exact ⟨_, _, rfl, h, _, _, r⟩
theorem Rep.tup_v (r : Rep K H F k v (.tup ds) fp) : ∃ a o xs, v = .ref a ∧ H a = some (.frz o (.tup xs)) ∧ o.dict = none ∧ Reps K H F k xs ds fp := by
  cases r with
  | tup h n r => exact ⟨_, _, _, rfl, h, n, r⟩
theorem Reps.length : ∀ {vs : List V} {ds : List D} {fp : List Addr}, Reps K H F k vs ds fp → vs.length = ds.length
  | _, _, _, .nil => rfl
  | _, _, _, .cons _ r => by simp [Reps.length r]
theorem Reps.get : ∀ {vs : List V} {ds : List D} {fp : List Addr} {i : Nat} {d : D}, Reps K H F k vs ds fp → ds[i]? = some d → ∃ v fq, vs[i]? = some v ∧ fq.Sublist fp ∧ Rep K H F k v d fq
  | _, _, _, _, _, .nil, h => by simp at h
  | _, _, _, 0, _, .cons (fp := fp) (fq := fq) h r, e => by
    simp at e; subst e
    exact ⟨_, fp, rfl, List.sublist_append_left _ _, h⟩
  | _, _, _, i + 1, _, .cons (fp := fp) (fq := fq) h r, e => by
    obtain ⟨v, f, h1, h2, h3⟩ := Reps.get (i := i) r (by simpa using e)
    exact ⟨v, f, by simpa using h1, h2.trans (List.sublist_append_right _ _), h3⟩
theorem Reps.vget {i : Nat} (r : Reps K H F k vs ds fp) (h : vs[i]? = some v) : ∃ d fq, ds[i]? = some d ∧ fq.Sublist fp ∧ Rep K H F k v d fq := by
  cases q : ds[i]? with
  | none =>
    have h1 := List.getElem?_eq_none_iff.mp q
    have h2 := (List.getElem?_eq_some_iff.mp h).1
    have := r.length
    omega
  | some d =>
    obtain ⟨v', fq, h1, h2, h3⟩ := r.get q
    rw [h] at h1; cases h1
    exact ⟨d, fq, rfl, h2, h3⟩
theorem Reps.drop : ∀ {vs : List V} {ds : List D} {fp : List Addr} (n : Nat), Reps K H F k vs ds fp → ∃ fq, fq.Sublist fp ∧ Reps K H F k (vs.drop n) (ds.drop n) fq
  | _, _, fp, 0, r => ⟨fp, List.Sublist.refl _, r⟩
  | _, _, _, n + 1, .nil => ⟨[], List.Sublist.refl _, .nil⟩
  | _, _, _, n + 1, .cons h r => by
    obtain ⟨f, h1, h2⟩ := Reps.drop n r
    exact ⟨f, h1.trans (List.sublist_append_right _ _), by simpa using h2⟩
theorem Reps.take : ∀ {vs : List V} {ds : List D} {fp : List Addr} (n : Nat), Reps K H F k vs ds fp → ∃ fq, fq.Sublist fp ∧ Reps K H F k (vs.take n) (ds.take n) fq
  | _, _, fp, 0, r => ⟨[], List.nil_sublist _, by simpa using Reps.nil⟩
  | _, _, _, n + 1, .nil => ⟨[], List.Sublist.refl _, by simpa using Reps.nil⟩
  | _, _, _, n + 1, .cons h r => by
    obtain ⟨f, h1, h2⟩ := Reps.take n r
    exact ⟨_, List.Sublist.append (List.Sublist.refl _) h1, by simpa using Reps.cons h h2⟩
theorem Reps.reverse : ∀ {vs : List V} {ds : List D} {fp : List Addr}, Reps K H F k vs ds fp → ∃ fq, fq.Perm fp ∧ Reps K H F k vs.reverse ds.reverse fq
  | _, _, _, .nil => ⟨[], List.Perm.refl _, by simpa using Reps.nil⟩
  | _, _, _, .cons (fp := fp) (fq := fq) h r => by
    obtain ⟨f, h1, h2⟩ := Reps.reverse r
    refine ⟨f ++ fp, (List.perm_append_comm).trans (h1.append_left fp), ?_⟩
    have := h2.append (Reps.cons h Reps.nil)
    simpa using this
theorem Reps.rep0 (r : Reps K H F k vs ds []) : ∀ n : Nat, Reps K H F k (List.replicate n vs).flatten (List.replicate n ds).flatten []
  | 0 => by simpa using Reps.nil
  | n + 1 => by
    have := r.append (Reps.rep0 r n)
    simpa [List.replicate_succ] using this
theorem Rep.one (r : Rep K H F k v d fp) : Reps K H F k [v] [d] fp := by simpa using Reps.cons r Reps.nil
theorem Reps.snoc (r : Reps K H F k vs ds fp) {fq : List Addr} (q : Rep K H F k v d fq) : Reps K H F k (vs ++ [v]) (ds ++ [d]) (fp ++ fq) := r.append q.one
theorem flats_mem : ∀ {ds : List D}, D.flats ds = true → ∀ d ∈ ds, d.flat = true
  | [], _, _, h => by simp at h
  | x :: r, e, d, h => by
    rw [D.flats, Bool.and_eq_true] at e
    rcases List.mem_cons.mp h with z | z
    · rw [z]; exact e.1
    · exact flats_mem e.2 d z
theorem flats_of : ∀ {ds : List D}, (∀ d ∈ ds, d.flat = true) → D.flats ds = true
  | [], _ => rfl
  | x :: r, h => by rw [D.flats, h x (by simp), flats_of fun d z => h d (by simp [z])]; rfl
theorem Cell.of_flat (c : Cell K H F lab l k v d) (h : d.flat = true) {l' : Lb} {lab' : Lab} {j : Nat} {F' : Addr → Prop} : Cell K H F' lab' l' j v d := by
  obtain ⟨fp, r, _, _⟩ := c
  exact ⟨[], (r.of_flat h).2 _ _, List.nodup_nil, by simp⟩
theorem Cell.zero (c : Cell K H F lab l 0 v d) {l' : Lb} {lab' : Lab} : Cell K H F lab' l' 0 v d := by
  obtain ⟨fp, r, _, _⟩ := c
  obtain rfl := r.fp0
  exact ⟨[], r, List.nodup_nil, by simp⟩
theorem TmpOk.rep {c : Tmp} (x : TmpOk K H F lab n c) : ∃ k fp, Rep K H F k c.v c.d fp := by
  unfold TmpOk at x
  obtain ⟨t, w, q⟩ := c
  cases t with
  | own k => obtain ⟨fp, r, _⟩ := x; exact ⟨_, fp, r⟩
  | bor i b => obtain ⟨fp, r, _⟩ := x; exact ⟨_, fp, r⟩
theorem TmpOk.of_flat {c : Tmp} (x : TmpOk K H F lab n c) (h : c.d.flat = true) {t : Tg} {m : Nat} {lab' : Lab} {F' : Addr → Prop} : TmpOk K H F' lab' m ⟨t, c.v, c.d⟩ := by
  obtain ⟨k, fp, r⟩ := x.rep
  have := (r.of_flat h).2
  unfold TmpOk
  cases t with
  | own k => exact ⟨[], this _ _, List.nodup_nil, by simp⟩
  | bor i b => exact ⟨[], this _ _, List.nodup_nil, by simp⟩
theorem Cell.item {i : Nat} (c : Cell K H F lab l (k + 1) (.ref a) (.lst ds)) (h : H a = some (.lst xs)) (hx : ds[i]? = some d) : ∃ v, xs[i]? = some v ∧ Cell K H F lab l k v d := by
  obtain ⟨fp, r, nd, ha⟩ := c
  cases r with
  | lst1 e r =>
    rw [h] at e; cases e
    obtain ⟨v, fq, h1, h2, h3⟩ := r.get hx
    exact ⟨v, h1, fq, h3, (List.nodup_cons.mp nd).2.sublist h2, fun b hb => ha b (List.mem_cons_of_mem _ (h2.subset hb))⟩
theorem Cell.item0 {i : Nat} (c : Cell K H F lab l 0 (.ref a) (.lst ds)) (h : H a = some (.lst xs)) (hx : ds[i]? = some d) {l' : Lb} : ∃ v, xs[i]? = some v ∧ Cell K H F lab l' 0 v d := by
  obtain ⟨fp, r, nd, ha⟩ := c
  cases r with
  | lst0 e f r =>
    rw [h] at e; cases e
    obtain ⟨v, fq, h1, h2, h3⟩ := r.get hx
    obtain rfl := h3.fp0
    exact ⟨v, h1, [], h3, List.nodup_nil, by simp⟩
theorem Cell.itemT {i : Nat} {o : Obj} (c : Cell K H F lab l k (.ref a) (.tup ds)) (h : H a = some (.frz o (.tup xs))) (hx : ds[i]? = some d) : ∃ v, xs[i]? = some v ∧ Cell K H F lab l k v d := by
  obtain ⟨fp, r, nd, ha⟩ := c
  cases r with
  | tup e _ r =>
    rw [h] at e; cases e
    obtain ⟨v, fq, h1, h2, h3⟩ := r.get hx
    exact ⟨v, h1, fq, h3, nd.sublist h2, fun b hb => ha b (h2.subset hb)⟩
theorem TmpOk.itemL {i : Nat} (x : TmpOk K H F lab n ⟨t, .ref a, .lst ds⟩) (h : H a = some (.lst xs)) (hx : ds[i]? = some d) : ∃ v, xs[i]? = some v ∧ TmpOk K H F lab n ⟨t.item, v, d⟩ := by
  unfold TmpOk at x
  cases t with
  | own k =>
    cases k with
    | zero => exact Cell.item0 (l' := .t n) x h hx
    | succ k => exact Cell.item x h hx
  | bor i b =>
    cases b with
    | zero =>
      obtain ⟨v, h1, h2⟩ := Cell.item x h hx
      exact ⟨v, h1, h2.zero⟩
    | succ b => exact Cell.item x h hx
theorem TmpOk.itemT {i : Nat} {o : Obj} (x : TmpOk K H F lab n ⟨t, .ref a, .tup ds⟩) (h : H a = some (.frz o (.tup xs))) (hx : ds[i]? = some d) : ∃ v, xs[i]? = some v ∧ TmpOk K H F lab n ⟨t, v, d⟩ := by
  unfold TmpOk at x
  cases t with
  | own k => exact Cell.itemT x h hx
  | bor i b => exact Cell.itemT x h hx
theorem TmpOk.items {d₀ : D} {t' : Tg} (x : TmpOk K H F lab n ⟨t, v, d₀⟩) (h : d₀.items t = some (t', ds)) :
    ∃ a xs, v = .ref a ∧ (SqL K H a xs ∨ SqT K H a xs) ∧ xs.length = ds.length ∧ ∀ (i : Nat) (d : D), ds[i]? = some d → ∃ w, xs[i]? = some w ∧ TmpOk K H F lab n ⟨t', w, d⟩ := by
  obtain ⟨k, fp, r⟩ := x.rep
  cases d₀ with
  | lst ys =>
    cases h
    obtain ⟨a, xs, rfl, h1, _, _, h2⟩ := r.lst_v
    exact ⟨a, xs, rfl, .inl (.of h1), h2.length, fun i d hd => x.itemL h1 hd⟩
  | tup ys =>
    cases h
    obtain ⟨a, o, xs, rfl, h1, _, h2⟩ := r.tup_v
    exact ⟨a, xs, rfl, .inr (.inl (.inr ⟨o, h1⟩)), h2.length, fun i d hd => x.itemT h1 hd⟩
  | _ => cases h
theorem Loose.ofCell (c : Cell K H F lab (.t n) k v d) : Loose K H F lab (fun j => j = n) k [v] [d] := by
  obtain ⟨fp, r, nd, ha⟩ := c
  exact Loose.of r.one nd ha
theorem TmpOk.looseL (x : TmpOk K H F lab n ⟨t, .ref a, .lst ds⟩) (h : H a = some (.lst xs)) (hk : keepK t.item ds = some k) : Loose K H F lab (fun j => j = n) k xs ds := by
  unfold keepK at hk
  by_cases hf : D.flats ds = true
  · obtain ⟨_, _, r⟩ := x.rep
    obtain ⟨a', xs', e, h', _, _, r'⟩ := r.lst_v
    cases e
    rw [h] at h'; cases h'
    exact Loose.flat r' hf
  · rw [if_neg hf] at hk
    unfold TmpOk at x
    cases t with
    | own m =>
      obtain ⟨fp, r, nd, ha⟩ := x
      cases m with
      | zero =>
        cases hk
        cases r with
        | lst0 e f r =>
          rw [h] at e; cases e
          obtain rfl := r.fp0
          exact Loose.of r List.nodup_nil (by simp)
      | succ m =>
        cases hk
        cases r with
        | lst1 e r =>
          rw [h] at e; cases e
          exact Loose.of r (List.nodup_cons.mp nd).2 fun b hb => ha b (List.mem_cons_of_mem _ hb)
    | bor i b =>
      obtain ⟨fp, r, nd, ha⟩ := x
      cases b with
      | zero =>
        cases hk
        cases r with
        | lst1 e r =>
          rw [h] at e; cases e
          obtain rfl := r.fp0
          exact Loose.of r List.nodup_nil (by simp)
      | succ b => cases hk
theorem TmpOk.looseT {o : Obj} (x : TmpOk K H F lab n ⟨t, .ref a, .tup ds⟩) (h : H a = some (.frz o (.tup xs))) (hk : keepK t ds = some k) : Loose K H F lab (fun j => j = n) k xs ds := by
  unfold keepK at hk
  by_cases hf : D.flats ds = true
  · obtain ⟨_, _, r⟩ := x.rep
    obtain ⟨a', o', xs', e, h', _, r'⟩ := r.tup_v
    cases e
    rw [h] at h'; cases h'
    exact Loose.flat r' hf
  · rw [if_neg hf] at hk
    unfold TmpOk at x
    cases t with
    | own m =>
      cases hk
      obtain ⟨fp, r, nd, ha⟩ := x
      cases r with
      | tup e _ r =>
        rw [h] at e; cases e
        exact Loose.of r nd ha
    | bor i b => cases hk
theorem TmpOk.loose1 (x : TmpOk K H F lab n ⟨t, v, d⟩) (hk : t.ret = some k) : Loose K H F lab (fun j => j = n) k [v] [d] := by
  unfold TmpOk at x
  cases t with
  | own m => cases hk; exact Loose.ofCell x
  | bor i b => cases hk
theorem TmpOk.loose1F (x : TmpOk K H F lab n ⟨t, v, d⟩) (hf : d.flat = true) : Loose K H F lab L k [v] [d] := by
  obtain ⟨_, _, r⟩ := x.rep
  exact Loose.flat r.one (by simp [D.flats, hf])
theorem nodup_perm_sub {fp Z fq : List Addr} (nd : (fp ++ Z).Nodup) (h : fq.Perm fp) : (fq ++ Z).Nodup := (h.append_right Z).nodup_iff.mpr nd
theorem Loose.drop (x : Loose K H F lab L k vs ds) (n : Nat) : Loose K H F lab L k (vs.drop n) (ds.drop n) := by
  obtain ⟨fp, Z, r, nd, hl⟩ := x
  obtain ⟨fq, s, q⟩ := r.drop n
  exact ⟨fq, Z, q, nd.sublist (List.Sublist.append s (List.Sublist.refl _)), fun a ha => hl a ((List.Sublist.append s (List.Sublist.refl _)).subset ha)⟩
theorem Loose.take (x : Loose K H F lab L k vs ds) (n : Nat) : Loose K H F lab L k (vs.take n) (ds.take n) := by
  obtain ⟨fp, Z, r, nd, hl⟩ := x
  obtain ⟨fq, s, q⟩ := r.take n
  exact ⟨fq, Z, q, nd.sublist (List.Sublist.append s (List.Sublist.refl _)), fun a ha => hl a ((List.Sublist.append s (List.Sublist.refl _)).subset ha)⟩
theorem Loose.reverse (x : Loose K H F lab L k vs ds) : Loose K H F lab L k vs.reverse ds.reverse := by
  obtain ⟨fp, Z, r, nd, hl⟩ := x
  obtain ⟨fq, s, q⟩ := r.reverse
  exact ⟨fq, Z, q, nodup_perm_sub nd s, fun a ha => hl a ((s.append_right Z).subset ha)⟩
theorem Loose.cut (x : Loose K H F lab L k vs ds) (hl : vs.length = ds.length) (lo hi : Option Int) : Loose K H F lab L k (cutV vs lo hi) (cutD ds lo hi) := by
  unfold cutV cutD
  rw [hl]
  exact (x.drop _).take _
theorem Loose.len (x : Loose K H F lab L k vs ds) : vs.length = ds.length := by
  obtain ⟨fp, Z, r, nd, hl⟩ := x
  exact r.length
theorem Loose.rep (x : Loose K H F lab L k vs ds) (n : Nat) : Loose K H F lab L 0 (List.replicate n vs).flatten (List.replicate n ds).flatten := by
  obtain ⟨fp, Z, r, nd, hl⟩ := x.weak (Nat.zero_le k)
  obtain rfl := r.fp0
  exact ⟨[], Z, r.rep0 n, nd, hl⟩
theorem Loose.to_flat (x : Loose K H F lab L k vs ds) (hf : D.flats ds = true) {L' : Nat → Prop} {j : Nat} : Loose K H F lab L' j vs ds := by
  obtain ⟨fp, Z, r, nd, hl⟩ := x
  exact ⟨[], [], (r.of_flat hf).2 _ _, by simp, by simp⟩
end
end VI
set_option autoImplicit true
set_option Elab.async false
set_option linter.all false
set_option maxRecDepth 100000
set_option maxHeartbeats 4000000
namespace VI
open PySem PySem.Spec PyProof.Rows L2
theorem lim_le {n : Nat} (h : lim n = true) : n ≤ sizeLine := by rw [sizeLine_eq]; exact Nat.le_of_ble_eq_true h
section
variable {fr : Fr} {K : PySem.W.Frag} {σ : L2.St} {H H' : Hp} {e : Env} {tm : List Tmp} {F F' W : Addr → Prop} {lab lab' : Lab} {l : Lb} {k j n : Nat} {v : V} {d : D} {p a : Addr} {t : Tg} {vs xs : List V} {ds : List D} {fp : List Addr} {L : Nat → Prop}
def Rp (K : PySem.W.Frag) (H : Hp) (v : V) (d : D) : Prop := ∃ k F fp, Rep K H F k v d fp
theorem Rp.int {i : Int} (h : Rp K H v (.int i)) : v = .int i := let ⟨_, _, _, r⟩ := h; r.int_v
theorem Rp.bl {i : Bool} (h : Rp K H v (.bl i)) : v = .bl i := let ⟨_, _, _, r⟩ := h; r.bl_v
theorem Rp.str {i : Str} (h : Rp K H v (.str i)) : v = .str i := let ⟨_, _, _, r⟩ := h; r.str_v
theorem Rp.non (h : Rp K H v .non) : v = .non := let ⟨_, _, _, r⟩ := h; r.non_v
theorem Rp.lst (h : Rp K H v (.lst ds)) : ∃ a xs, v = .ref a ∧ H a = some (.lst xs) ∧ xs.length = ds.length := by
  obtain ⟨_, _, _, r⟩ := h
  obtain ⟨a, xs, h1, h2, _, _, h3⟩ := r.lst_v
  exact ⟨a, xs, h1, h2, h3.length⟩
theorem Rp.tup (h : Rp K H v (.tup ds)) : ∃ a o xs, v = .ref a ∧ H a = some (.frz o (.tup xs)) ∧ o.dict = none ∧ xs.length = ds.length := by
  obtain ⟨_, _, _, r⟩ := h
  obtain ⟨a, o, xs, h1, h2, h3, h4⟩ := r.tup_v
  exact ⟨a, o, xs, h1, h2, h3, h4.length⟩
theorem St.top {c : Tmp} (s : St fr σ H e (c :: tm) F lab) : Rp fr.K H c.v c.d := let ⟨k, fp, r⟩ := s.tmps.1.rep; ⟨k, F, fp, r⟩
theorem Rl.top {c : Tmp} (s : Rl fr σ H e (c :: tm)) : Rp fr.K H c.v c.d := let ⟨_, _, s⟩ := s; s.top
theorem Rl.snd {c c' : Tmp} (s : Rl fr σ H e (c :: c' :: tm)) : Rp fr.K H c'.v c'.d := s.drop.top
def scD : D → Option V
  | .non => some .non
  | .bl b => some (.bl b)
  | .int i => some (.int i)
  | .str s => some (.str s)
  | _ => none
theorem scD_rep (h : scD d = some v) (k : Nat) : Rep K H F k v d [] := by
  cases d with
  | non => cases h; exact .non
  | bl b => cases h; exact .bl b
  | int i => cases h; exact .int i
  | str s => cases h; exact .str s
  | _ => cases h
theorem Rl.sc (s : Rl fr σ H e tm) (h : scD d = some v) : Rl fr σ H e (⟨t, v, d⟩ :: tm) := let ⟨F, lab, s⟩ := s; ⟨F, lab, s.push fun k => scD_rep h k⟩
def Wd (fr : Fr) (σ : L2.St) (e : Env) (tm : List Tmp) (t : Tg) (d : D) (Q : VK) : Prop := ∀ v H', Rl fr σ H' e (⟨t, v, d⟩ :: tm) → Q v H'
theorem Wd.sc {Q : VK} (w : Wd fr σ e tm t d Q) (s : Rl fr σ H e tm) (h : scD d = some v) : Q v H := w _ _ (s.sc h)
def rd2 (K : PySem.W.Frag) (f : Tg × D → Tg × D → Option (Tg × D)) : R2 := fun x y H Q => ∃ fr σ e tm tx dx ty dy t d, fr.K = K ∧ Rl fr σ H e (⟨ty, y, dy⟩ :: ⟨tx, x, dx⟩ :: tm) ∧ f (tx, dx) (ty, dy) = some (t, d) ∧ Wd fr σ e tm t d Q
def rd1 (K : PySem.W.Frag) (f : Tg × D → Option (Tg × D)) : V → Hp → VK → Prop := fun x H Q => ∃ fr σ e tm tx dx t d, fr.K = K ∧ Rl fr σ H e (⟨tx, x, dx⟩ :: tm) ∧ f (tx, dx) = some (t, d) ∧ Wd fr σ e tm t d Q
def pushAll : List (Tg × D) → List V → List Tmp → List Tmp
  | a :: as, v :: vs, tm => pushAll as vs (⟨a.1, v, a.2⟩ :: tm)
  | _, _, tm => tm
theorem Rl.dropAll : ∀ {as : List (Tg × D)} {vs : List V} {tm : List Tmp}, Rl fr σ H e (pushAll as vs tm) → Rl fr σ H e tm
  | [], _, _, s => by cases ‹List V› <;> exact s
  | _ :: _, [], _, s => s
  | a :: as, v :: vs, tm, s => (Rl.dropAll (as := as) (vs := vs) s).drop
def rdN (K : PySem.W.Frag) (f : List (Tg × D) → Option (Tg × D)) : List V → Hp → VK → Prop := fun vs H Q => ∃ fr σ e tm as t d, fr.K = K ∧ as.length = vs.length ∧ Rl fr σ H e (pushAll as vs tm) ∧ f as = some (t, d) ∧ Wd fr σ e tm t d Q
end
section
variable {X : Cx} {fr : Fr} {σ : L2.St} {H H' : Hp} {e : Env} {tm : List Tmp} {k j n : Nat} {v : V} {d : D} {t : Tg}
theorem mul_ok {i j : Int} (h : mulOk i j = true) : IntMulOk i j := by
  unfold mulOk at h
  simp only [Bool.or_eq_true, Bool.and_eq_true, decide_eq_true_eq] at h
  rcases h with (h | h) | ⟨h1, h2⟩
  · exact .of_left (intBits_le_64 h.1 h.2)
  · exact .of_right (intBits_le_64 h.1 h.2)
  · exact mulOk_of_bits (intBits_le h1) (intBits_le h2) (by decide)
theorem op_mulI : OpR X (binaryOp .Mult) (rI (fun i j => IntMulOk i j) fun i j => .int (i * j)) := opI fun _ _ _ _ _ _ _ hc q => mul_int q hc
theorem op_mulS : OpR X (binaryOp .Mult) (fun x y H Q => ∃ z n, x = .str z ∧ y = .int n ∧ 0 ≤ n ∧ n ≤ 16777216 ∧ lim (z.length * n.toNat) = true ∧ lim (mulS z n).length = true ∧ Q (.str (mulS z n)) H) := by
  intro pins s σ H x y v u Q I rx ry h
  obtain ⟨z, n, rfl, rfl, h0, h1, hl, hm, q⟩ := h
  obtain ⟨t, rfl⟩ := rx
  obtain ⟨t', rfl⟩ := ry
  have hl' := lim_le hl
  refine PySem.P.mul_str (by simp; omega) (fun g1 h2 => ?_) (fun _ _ => ?_) ?_
  · simp only [Bool.or_eq_false_iff, beq_eq_false_iff_ne, ne_eq] at h2
    rw [sizeLine_eq] at hl'
    have e1 : (z.length * n.toNat : Nat) ≤ 16777216 := hl'
    intro hh
    have hn : n.toNat ≥ 1 := by omega
    have e2 : z.length ≤ z.length * n.toNat := Nat.le_mul_of_pos_right _ hn
    have e3 : (2 ^ 63 - 1 : Int) / 16777216 ≤ (2 ^ 63 - 1) / n := by
      refine (Int.le_ediv_iff_mul_le (by omega)).mpr ?_
      have : (2 ^ 63 - 1 : Int) / 16777216 * n ≤ (2 ^ 63 - 1 : Int) / 16777216 * 16777216 := Int.mul_le_mul_of_nonneg_left h1 (by decide)
      omega
    omega
  · unfold Builtin.Str.tooLong; simp; omega
  · unfold mulS at q
    by_cases g1 : n < 1
    · rw [if_pos g1] at q ⊢
      exact ⟨by decide, ⟨.str Str.empty, H, I.tok _, ⟨_, rfl⟩, q⟩⟩
    · rw [if_neg g1] at q ⊢
      by_cases g2 : n = 1
      · rw [if_pos g2] at q
        rw [if_pos (by simp [g2])]
        exact ⟨.str z, H, I, ⟨_, rfl⟩, q⟩
      · rw [if_neg g2] at q
        by_cases g3 : z.length = 0
        · rw [if_pos g3] at q
          rw [if_pos (by simp [g3])]
          exact ⟨.str z, H, I, ⟨_, rfl⟩, q⟩
        · rw [if_neg g3] at q
          rw [if_neg (by simp [g2, g3])]
          refine ⟨?_, ⟨.str _, H, I.tok _, ⟨_, rfl⟩, q⟩⟩
          unfold mulS at hm
          rw [if_neg g1, if_neg g2, if_neg g3] at hm
          exact lim_le hm
theorem Loose.append' {K : PySem.W.Frag} {H : Hp} {F : Addr → Prop} {lab : Lab} {L1 L2 : Nat → Prop} {j k : Nat} {vs vs' : List V} {ds ds' : List D} (x : Loose K H F lab L1 j vs ds) (y : Loose K H F lab L2 k vs' ds') (dis : ∀ j, L1 j → ¬ L2 j) : Loose K H F lab (fun i => L1 i ∨ L2 i) (min j k) (vs ++ vs') (ds ++ ds') :=
  Loose.append (x.weak (Nat.min_le_left _ _)) (y.weak (Nat.min_le_right _ _)) dis
theorem op_bin (op : Operator) : OpR X (binaryOp op) (rd2 X.K (binV op)) := by
  intro pins s σ H x y v u Q I rx ry h
  obtain ⟨fr, σ₀, e, tm, tx, dx, ty, dy, t, d, hK, s2, hf, w⟩ := h
  have px := s2.snd
  have py := s2.top
  have s0 := s2.drop.drop
  unfold binV at hf
  dsimp only at hf px py
  split at hf
  · -- ints
    rename_i i j
    obtain rfl := px.int
    obtain rfl := py.int
    cases hb : binI op i j with
    | none => rw [hb] at hf; cases hf
    | some n =>
      rw [hb] at hf; cases hf
      have q : Q (.int n) H := w.sc s0 rfl
      cases op with
      | Add => cases hb; exact op_add pins s σ H _ _ v u Q I rx ry ⟨i, j, rfl, rfl, q⟩
      | Sub => cases hb; exact op_sub pins s σ H _ _ v u Q I rx ry ⟨i, j, rfl, rfl, q⟩
      | Mult =>
        by_cases g : mulOk i j = true
        · simp only [binI, if_pos g] at hb; cases hb; exact op_mulI pins s σ H _ _ v u Q I rx ry ⟨i, j, rfl, rfl, mul_ok g, q⟩
        · simp only [binI, if_neg g] at hb; cases hb
      | FloorDiv =>
        by_cases g : divOk i j = true
        · simp only [binI, if_pos g] at hb; cases hb
          unfold divOk at g
          simp only [Bool.and_eq_true, decide_eq_true_eq] at g
          exact op_fdiv pins s σ H _ _ v u Q I rx ry ⟨i, j, rfl, rfl, g, q⟩
        · simp only [binI, if_neg g] at hb; cases hb
      | Mod =>
        by_cases g : 0 < j
        · simp only [binI, if_pos g] at hb; cases hb; exact op_mod pins s σ H _ _ v u Q I rx ry ⟨i, j, rfl, rfl, g, q⟩
        · simp only [binI, if_neg g] at hb; cases hb
      | Pow =>
        by_cases g : 0 ≤ j ∧ j ≤ 1000000 ∧ i.natAbs < 2 ^ 64
        · simp only [binI, if_pos g] at hb; cases hb; exact op_pow pins s σ H _ _ v u Q I rx ry ⟨i, j, rfl, rfl, g, q⟩
        · simp only [binI, if_neg g] at hb; cases hb
      | LShift =>
        by_cases g : 0 ≤ j ∧ j ≤ 1000000 ∧ i.natAbs < 2 ^ 64
        · simp only [binI, if_pos g] at hb; cases hb; exact op_shl pins s σ H _ _ v u Q I rx ry ⟨i, j, rfl, rfl, g, q⟩
        · simp only [binI, if_neg g] at hb; cases hb
      | _ => cases hb
  · rename_i i j
    obtain rfl := px.str
    obtain rfl := py.str
    cases op with
    | Add =>
      dsimp only at hf
      by_cases g : lim (i.length + j.length) = true
      · rw [if_pos g] at hf; cases hf
        exact op_add_str pins s σ H _ _ v u Q I rx ry ⟨i, j, rfl, rfl, lim_le g, w.sc s0 rfl⟩
      · rw [if_neg g] at hf; cases hf
    | _ => cases hf
  · rename_i i j
    obtain rfl := px.str
    obtain rfl := py.int
    cases op with
    | Mult =>
      dsimp only at hf
      split at hf
      · rename_i g
        cases hf
        exact op_mulS pins s σ H _ _ v u Q I rx ry ⟨i, j, rfl, rfl, g.1, g.2.1, g.2.2.1, g.2.2.2, w.sc s0 rfl⟩
      · cases hf
    | _ => cases hf
  · rename_i xs ys
    cases op with
    | Add =>
      dsimp only at hf
      cases h1 : keepK tx.item xs with
      | none => rw [h1] at hf; cases hf
      | some j =>
        cases h2 : keepK ty.item ys with
        | none => rw [h1, h2] at hf; cases hf
        | some k =>
          rw [h1, h2] at hf
          dsimp only at hf
          by_cases g : lim (xs.length + ys.length) = true
          · rw [if_pos g] at hf; cases hf
            obtain ⟨a, us, rfl, ha, la⟩ := px.lst
            obtain ⟨b, ws, rfl, hb, lb⟩ := py.lst
            obtain ⟨F, lab, st⟩ := s2
            have x1 := TmpOk.looseL st.tmps.2.1 ha h1
            have x2 := TmpOk.looseL st.tmps.1 hb h2
            refine op_cat pins s σ H _ _ v u Q I rx ry ⟨a, b, us, ws, rfl, rfl, ha, hb, by rw [la, lb]; exact lim_le g, fun p hp => w _ _ ?_⟩
            have x3 := Loose.append' x1 x2 (by intro i h1 h2; simp only [List.length_cons] at h2; omega)
            exact st.drop.drop.mkL hp x3 (by intro i h; simp only [List.length_cons] at h; omega)
          · rw [if_neg g] at hf; cases hf
    | _ => cases hf
  · rename_i xs n
    obtain rfl := py.int
    cases op with
    | Mult =>
      dsimp only at hf
      cases h1 : keepK tx.item xs with
      | none => rw [h1] at hf; cases hf
      | some j =>
        rw [h1] at hf
        dsimp only at hf
        split at hf
        · rename_i g
          cases hf
          obtain ⟨a, us, rfl, ha, la⟩ := px.lst
          obtain ⟨F, lab, st⟩ := s2
          have x1 := (TmpOk.looseL st.tmps.2.1 ha h1).rep n.toNat
          refine op_rep pins s σ H _ _ v u Q I rx ry ⟨a, n, us, rfl, rfl, ha, g.1, g.2.1, by rw [la]; exact lim_le g.2.2, fun p hp => w _ _ ?_⟩
          by_cases hfl : D.flats xs = true
          · rw [if_pos hfl]
            have hfl' : D.flats (List.replicate n.toNat xs).flatten = true := flats_of fun d hd => by
              obtain ⟨l, hl, hd⟩ := List.mem_flatten.mp hd
              rw [(List.mem_replicate.mp hl).2] at hd
              exact flats_mem hfl d hd
            exact st.drop.drop.mkL hp (x1.to_flat (j := 9) (L' := fun _ => False) hfl') (by intro i h; exact h.elim)
          · rw [if_neg hfl]
            exact st.drop.drop.mkL hp x1 (by intro i h; omega)
        · cases hf
    | _ => cases hf
  · cases hf
end
end VI
set_option autoImplicit true
set_option Elab.async false
set_option linter.all false
set_option maxRecDepth 100000
set_option maxHeartbeats 4000000
namespace VI
open PySem PySem.Spec PyProof.Rows L2
section
variable {K : PySem.W.Frag} {H : Hp} {F : Addr → Prop}
mutual
theorem Rep.dp : ∀ {k : Nat} {v : V} {d : D} {fp : List Addr} {x : PyData}, Rep K H F k v d fp → d.py = some x → Dp K H v x
  | _, _, _, _, _, .non, h => by simp only [D.py, Option.some.injEq] at h; subst h; exact .non
  | _, _, _, _, _, .bl b, h => by simp only [D.py, Option.some.injEq] at h; subst h; exact .bl b
  | _, _, _, _, _, .int i, h => by simp only [D.py, Option.some.injEq] at h; subst h; exact .int i
  | _, _, _, _, _, .str s, h => by simp only [D.py, Option.some.injEq] at h; subst h; exact .str s
  | _, _, _, _, _, .arg _, h => by simp [D.py] at h
  | _, _, _, _, _, .tup (ds := ds) e n r, h => by
    simp only [D.py] at h
    cases q : D.pys ds with
    | none => rw [q] at h; cases h
    | some ys => rw [q] at h; cases h; exact .tup (.inl (.inr ⟨_, e⟩)) (Reps.dp r q)
  | _, _, _, _, _, .lst0 (ds := ds) e f r, h => by
    simp only [D.py] at h
    cases q : D.pys ds with
    | none => rw [q] at h; cases h
    | some ys => rw [q] at h; cases h; exact .lst (.of e) (Reps.dp r q)
  | _, _, _, _, _, .lst1 (ds := ds) e r, h => by
    simp only [D.py] at h
    cases q : D.pys ds with
    | none => rw [q] at h; cases h
    | some ys => rw [q] at h; cases h; exact .lst (.of e) (Reps.dp r q)
theorem Reps.dp : ∀ {k : Nat} {vs : List V} {ds : List D} {fp : List Addr} {xs : List PyData}, Reps K H F k vs ds fp → D.pys ds = some xs → DpAll K H vs xs
  | _, _, _, _, _, .nil, h => by simp only [D.pys, Option.some.injEq] at h; subst h; exact .nil
  | _, _, _, _, _, .cons (d := d) (ds := ds) h1 h2, h => by
    simp only [D.pys] at h
    cases q1 : d.py with
    | none => rw [q1] at h; cases h
    | some y =>
      cases q2 : D.pys ds with
      | none => rw [q1, q2] at h; cases h
      | some ys => rw [q1, q2] at h; cases h; exact .cons (Rep.dp h1 q1) (Reps.dp h2 q2)
end
theorem Rp.dp {v : V} {d : D} {x : PyData} (r : Rp K H v d) (h : d.py = some x) : Dp K H v x := let ⟨_, _, _, q⟩ := r; q.dp h
theorem py_list {xs : List D} {ys : List PyData} (h : D.pys xs = some ys) : (D.lst xs).py = some (.list ys) := by simp [D.py, h]
end
section
variable {X : Cx} {fr : Fr} {σ : L2.St} {H H' : Hp} {e : Env} {tm : List Tmp} {k j n : Nat} {v : V} {d : D} {t : Tg}
def rdC (K : PySem.W.Frag) (op : CmpOp) : R2 := fun x y H Q => ∃ dx dy r, Rp K H x dx ∧ Rp K H y dy ∧ cmpV op dx dy = some r ∧ Q (.bl r) H
theorem op_cmp (hu : X.A.units + 65 < cLine) (op : CmpOp) : OpR X (compareOp op) (rdC X.K op) := by
  intro pins s σ H x y v u Q I rx ry h
  obtain ⟨dx, dy, r, px, py, hc, q⟩ := h
  · skip
    have eqs : ∀ {r : Bool}, eqV dx dy = some r → ∃ a b, Dp X.K H x a ∧ Dp X.K H y b ∧ SeqAt.shaped a = true ∧ SeqAt.shaped b = true ∧ PyData.eqv a b = r := fun {r} h => by
      unfold eqV at h
      split at h
      · rename_i a b ha hb
        split at h
        · rename_i g
          cases h
          rw [Bool.and_eq_true] at g
          exact ⟨a, b, px.dp ha, py.dp hb, g.1, g.2, rfl⟩
        · cases h
      · cases h
    have ins : ∀ {ys : List D} {r : Bool}, dy = .lst ys → inV dx ys = some r → ∃ a b, Dp X.K H x a ∧ Dp X.K H y (.list b) ∧ SeqAt.shaped a = true ∧ SeqAt.shaped (.list b) = true ∧ (b.any fun z => PyData.eqv z a) = r := fun {ys r} hy h => by
      unfold inV at h
      split at h
      · rename_i a b ha hb
        split at h
        · rename_i g
          cases h
          rw [Bool.and_eq_true] at g
          exact ⟨a, b, px.dp ha, py.dp (by rw [hy]; exact py_list hb), g.1, g.2, rfl⟩
        · cases h
      · cases h
    unfold cmpV at hc
    cases op with
    | Eq =>
      obtain ⟨a, b, h1, h2, h3, h4, h5⟩ := eqs hc
      exact op_eqD (by omega) pins s σ H x y v u Q I rx ry ⟨a, b, h1, h2, h3, h4, by rw [h5]; exact q⟩
    | NotEq =>
      dsimp only at hc
      cases g : eqV dx dy with
      | none => rw [g] at hc; cases hc
      | some r' =>
        rw [g] at hc; cases hc
        obtain ⟨a, b, h1, h2, h3, h4, h5⟩ := eqs g
        exact op_neD (by omega) pins s σ H x y v u Q I rx ry ⟨a, b, h1, h2, h3, h4, by rw [h5]; exact q⟩
    | Lt =>
      dsimp only at hc
      split at hc
      · cases hc
        obtain rfl := px.int
        obtain rfl := py.int
        exact op_lt pins s σ H _ _ v u Q I rx ry ⟨_, _, rfl, rfl, q⟩
      · cases hc
    | LtE =>
      dsimp only at hc
      split at hc
      · cases hc
        obtain rfl := px.int
        obtain rfl := py.int
        exact op_le pins s σ H _ _ v u Q I rx ry ⟨_, _, rfl, rfl, q⟩
      · cases hc
    | Gt =>
      dsimp only at hc
      split at hc
      · cases hc
        obtain rfl := px.int
        obtain rfl := py.int
        exact op_gt pins s σ H _ _ v u Q I rx ry ⟨_, _, rfl, rfl, q⟩
      · cases hc
    | GtE =>
      dsimp only at hc
      split at hc
      · cases hc
        obtain rfl := px.int
        obtain rfl := py.int
        exact op_ge pins s σ H _ _ v u Q I rx ry ⟨_, _, rfl, rfl, q⟩
      · cases hc
    | Is =>
      dsimp only at hc
      split at hc
      · obtain rfl := py.non
        refine op_isN pins s σ H _ _ v u Q I rx ry ⟨rfl, ?_⟩
        obtain ⟨_, _, _, p⟩ := px
        split at hc
        · cases hc
          rw [p.non_v]; simpa using q
        · rename_i g
          cases hc
          have : x ≠ .non := fun z => by subst z; cases p; exact g rfl
          rw [decide_eq_false this]; exact q
      · cases hc
    | IsNot =>
      dsimp only at hc
      split at hc
      · obtain rfl := py.non
        refine op_notN pins s σ H _ _ v u Q I rx ry ⟨rfl, ?_⟩
        obtain ⟨_, _, _, p⟩ := px
        split at hc
        · cases hc
          rw [p.non_v]; simpa using q
        · rename_i g
          cases hc
          have : x ≠ .non := fun z => by subst z; cases p; exact g rfl
          rw [decide_eq_false this]; exact q
      · cases hc
    | In =>
      dsimp only at hc
      split at hc
      · obtain ⟨a, b, h1, h2, h3, h4, h5⟩ := ins rfl hc
        exact op_inD hu pins s σ H x y v u Q I rx ry ⟨a, b, h1, h2, h3, h4, by rw [h5]; exact q⟩
      · split at hc
        · cases hc
          obtain rfl := px.str
          obtain rfl := py.str
          exact op_in_str pins s σ H _ _ v u Q I rx ry ⟨_, _, rfl, rfl, q⟩
        · cases hc
      · cases hc
    | NotIn =>
      dsimp only at hc
      split at hc
      · rename_i ys
        cases g : inV dx ys with
        | none => rw [g] at hc; cases hc
        | some r' =>
          rw [g] at hc; cases hc
          obtain ⟨a, b, h1, h2, h3, h4, h5⟩ := ins rfl g
          exact op_notInD hu pins s σ H x y v u Q I rx ry ⟨a, b, h1, h2, h3, h4, by rw [h5]; exact q⟩
      · split at hc
        · cases hc
          obtain rfl := px.str
          obtain rfl := py.str
          exact op_notin_str pins s σ H _ _ v u Q I rx ry ⟨_, _, rfl, rfl, q⟩
        · cases hc
      · cases hc
theorem tru_of {K : PySem.W.Frag} {H : Hp} {x : V} {dx : D} {r : Bool} (p : Rp K H x dx) (h : truV dx = some r) : TruV K x H r := by
  unfold truV at h
  split at h
  · cases h; rw [p.non]; exact rfl
  · cases h; rw [p.bl]; exact rfl
  · cases h; rw [p.int]; exact rfl
  · split at h
    · rename_i g
      cases h
      rw [p.str]
      exact ⟨lim_le g, by rw [Bool.eq_iff_iff]; simp only [bne_iff_ne, ne_eq]; omega⟩
    · cases h
  · rename_i xs
    cases h
    obtain ⟨a, us, rfl, ha, hl⟩ := p.lst
    refine .inl ⟨us, .of ha, ?_⟩
    cases us <;> cases xs <;> simp_all
  · rename_i xs
    cases h
    obtain ⟨a, o, us, rfl, ha, _, hl⟩ := p.tup
    refine .inr (.inl ⟨us, .inl (.inr ⟨o, ha⟩), ?_⟩)
    cases us <;> cases xs <;> simp_all
  · cases h
def sub2 (a b : Tg × D) : Option (Tg × D) := subV a b.2
theorem ix_sub : IxR X (rd2 X.K sub2) := by
  intro value slice pins s σ H x y v u Q I rx ry h hs
  obtain ⟨fr, σ₀, e, tm, tx, dx, ty, dy, t, d, hK, s2, hf, w⟩ := h
  have px := s2.snd
  have py := s2.top
  rw [hK] at px py
  unfold sub2 subV at hf
  dsimp only at hf px py
  split at hf
  · rename_i i
    obtain rfl := py.int
    split at hf
    · rename_i z
      obtain rfl := px.str
      split at hf
      · rename_i g
        cases hc : atI z.cps.toList i with
        | none => rw [hc] at hf; cases hf
        | some c =>
          rw [hc] at hf; cases hf
          exact ix_str value slice pins s σ H _ _ v u Q I rx ry ⟨z, i, c, rfl, rfl, lim_le g, hc, w.sc s2.drop.drop rfl⟩ hs
      · cases hf
    · cases hi : dx.items tx with
      | none => rw [hi] at hf; cases hf
      | some p =>
        obtain ⟨t', xs⟩ := p
        rw [hi] at hf
        dsimp only at hf
        cases hc : atI xs i with
        | none => rw [hc] at hf; cases hf
        | some c =>
          rw [hc] at hf; cases hf
          obtain ⟨F, lab, st⟩ := s2
          obtain ⟨a, us, rfl, hq, hl, hit⟩ := TmpOk.items st.tmps.2.1 hi
          rw [hK] at hq
          obtain ⟨jj, h1, h2, h3, h4, h5⟩ := atI_get hc
          obtain ⟨w', hw', tk⟩ := hit jj d h2
          have hat : atI us i = some w' := by
            unfold atI at hc ⊢
            rw [hl]
            cases hn : ixN xs.length i with
            | none => rw [hn] at hc; cases hc
            | some m =>
              obtain ⟨g1, g2, _⟩ := ixN_seq hn
              rw [h1] at g1; cases g1
              exact hw'
          have fin : Q w' H := w _ _ ⟨F, lab, st.good, st.slots, tk.nrm, st.tmps.2.2⟩
          rcases hq with hq | hq
          · exact ix_list value slice pins s σ H _ _ v u Q I rx ry ⟨a, us, i, w', rfl, rfl, hq, hat, fin⟩ hs
          · exact ix_tup value slice pins s σ H _ _ v u Q I rx ry ⟨a, us, i, w', rfl, rfl, hq, hat, fin⟩ hs
  · cases hf
end
end VI
set_option autoImplicit true
set_option Elab.async false
set_option linter.all false
set_option maxRecDepth 100000
set_option maxHeartbeats 4000000
namespace VI
open PySem PySem.Spec PyProof.Rows L2
section
variable {X : Cx} {fr : Fr} {σ : L2.St} {H H' : Hp} {e : Env} {tm : List Tmp} {k j n : Nat} {v : V} {d : D} {t : Tg}
theorem laidT {pins : List (Addr × Obj)} {σ : L2.St} {H : Hp} {s : Shared} {Q : VK} {ys : List V} {its : List Value} {h' : Heap} {tk : Nat} (I : Inv X pins σ H { s with heap := h', toks := tk }) (hz : ys.length ≤ sizeLine) (r : Vals ys its)
    (q : ∀ o : Obj, o.dict = none → ∀ p, H p = none → Q (.ref p) (upd H p (.frz o (.tup ys)))) :
    EP X pins σ Q (.ref h'.objs.size) { s with heap := h'.push { cls := .type "tuple", data := .seq its.toArray }, toks := tk } := by
  have I2 : Inv X pins σ (upd H h'.objs.size (.frz { cls := .type "tuple", data := .seq its.toArray } (.tup ys))) { s with heap := h'.push { cls := .type "tuple", data := .seq its.toArray }, toks := tk } :=
    I.laid (t' := tk) (fun b o e => Heap.get?_push_of_some _ e) (Nat.le_refl _) (show ObjOk X.prog X.w _ _ _ (.frz _ (.tup ys)) from ⟨Heap.get?_push_size _ rfl, hz, its, r, IsTup.new _ _⟩)
  exact ⟨.ref h'.objs.size, _, I2, rfl, q _ rfl _ (I.hok.fresh (Nat.le_refl _))⟩
theorem call_tupleF : CallR X (.type "tuple") (fun xs H Q => ∃ p ys, xs = [.ref p] ∧ SqL X.K H p ys ∧ ∀ o : Obj, o.dict = none → ∀ l, H l = none → Q (.ref l) (upd H l (.frz o (.tup ys)))) := by
  intro pins s σ H xs us Q I r h
  obtain ⟨p, ys, rfl, hq, q⟩ := h
  obtain ⟨u, rfl, rx⟩ := vals1 r
  cases rx
  obtain ⟨its, r', pl, hz⟩ := I.list hq
  have hlen := r'.length
  refine call_tuple_list pl.isList (fun h' kp => ?_) (by simp only [List.size_toArray] <;> omega)
  exact laidT (X := X) (tk := s.toks) (I.kept (t' := s.toks) kp) hz r' q
def rSlF (K : PySem.W.Frag) : V → Option Int → Option Int → Hp → VK → Prop := fun x lo hi H Q => ∃ a xs, x = .ref a ∧ SqT K H a xs ∧
  (HT.sIx xs.length 0 lo = 0 ∧ HT.sIx xs.length xs.length hi = xs.length → Q (.ref a) H) ∧ (¬ (HT.sIx xs.length 0 lo = 0 ∧ HT.sIx xs.length xs.length hi = xs.length) → ∀ o : Obj, o.dict = none → ∀ p, H p = none → Q (.ref p) (upd H p (.frz o (.tup (cutV xs lo hi)))))
theorem sl_tupF : SlR X (rSlF X.K) := by
  intro pins s σ H x v vl vu lo hi sl Q I rx hs pl pu h
  obtain ⟨a, xs, rfl, hx, q1, q2⟩ := h
  cases rx
  obtain ⟨its, r, ht, hz⟩ := I.tuple hx
  have hlen : its.toArray.size = xs.length := by rw [List.size_toArray]; exact r.length.symm
  refine ⟨"tuple", _, PyProof.Rows.slot_tuple_getitem.lookup, ht.typeIs, ?_⟩
  by_cases hw : HT.sIx xs.length 0 lo = 0 ∧ HT.sIx xs.length xs.length hi = xs.length
  · exact getItem_tuple_whole ht hs pl pu (by rw [hlen]; exact hw) ⟨.ref a, H, I, rfl, q1 hw⟩
  · refine HT.getItem_tuple_cut ht hs pl pu (by rw [hlen]; exact hw) ?_ (by rw [hlen]; exact hz)
    rw [hlen]
    exact laidT (X := X) (s := s) (tk := s.toks) I (Nat.le_trans (cutV_length xs lo hi) hz) ((r.drop (HT.sIx xs.length 0 lo)).take (HT.sIx xs.length xs.length hi - HT.sIx xs.length 0 lo)) (q2 hw)
def rdS (K : PySem.W.Frag) : V → Option Int → Option Int → Hp → VK → Prop := fun x lo hi H Q => ∃ fr σ e tm tx dx t d, fr.K = K ∧ Rl fr σ H e (⟨tx, x, dx⟩ :: tm) ∧ slcV (tx, dx) lo hi = some (t, d) ∧ Wd fr σ e tm t d Q
theorem Rl.retag {t t' : Tg} (s : Rl fr σ H e (⟨t, v, d⟩ :: tm)) (h : t = t') : Rl fr σ H e (⟨t', v, d⟩ :: tm) := h ▸ s
theorem sl_slc : SlR X (rdS X.K) := by
  intro pins s σ H x v vl vu lo hi sl Q I rx hs pl pu h
  obtain ⟨fr, σ₀, e, tm, tx, dx, t, d, hK, s2, hf, w⟩ := h
  have px := s2.top
  rw [hK] at px
  unfold slcV at hf
  dsimp only at hf px
  split at hf
  · rename_i xs
    cases h1 : keepK tx.item (cutD xs lo hi) with
    | none => rw [h1] at hf; cases hf
    | some k =>
      rw [h1] at hf; cases hf
      obtain ⟨a, us, rfl, ha, hl⟩ := px.lst
      refine sl_list pins s σ H _ v vl vu lo hi sl Q I rx hs pl pu ⟨a, us, rfl, .of ha, fun p hp => w _ _ ?_⟩
      obtain ⟨F, lab, st⟩ := s2
      by_cases hfl : D.flats (cutD xs lo hi) = true
      · obtain ⟨_, _, r⟩ := st.tmps.1.rep
        obtain ⟨a', us', e1, ha', _, _, r'⟩ := r.lst_v
        cases e1
        rw [ha] at ha'; cases ha'
        obtain ⟨fq, _, r1⟩ := r'.drop (HT.sIx us.length 0 lo)
        obtain ⟨fq2, _, r2⟩ := r1.take (HT.sIx us.length us.length hi - HT.sIx us.length 0 lo)
        have : Loose fr.K H F lab (fun _ => False) k (cutV us lo hi) (cutD xs lo hi) := by
          unfold cutV cutD at *
          rw [← hl] at hfl ⊢
          exact Loose.flat r2 hfl
        exact st.drop.mkL hp this (by intro i h; exact h.elim)
      · unfold keepK at h1
        rw [if_neg hfl] at h1
        have h2 : keepK tx.item xs = some k ∨ D.flats xs = true := by
          unfold keepK
          by_cases g : D.flats xs = true
          · exact .inr g
          · rw [if_neg g]; exact .inl h1
        rcases h2 with h2 | h2
        · exact st.drop.mkL hp ((TmpOk.looseL st.tmps.1 ha h2).cut hl lo hi) (by intro i h; omega)
        · exact absurd (flats_of fun d hd => flats_mem h2 d (List.mem_of_mem_drop (List.mem_of_mem_take hd))) hfl
  · rename_i xs
    obtain ⟨a, o, us, rfl, ha, hd, hl⟩ := px.tup
    split at hf
    · rename_i g
      cases hf
      refine sl_tupF pins s σ H _ v vl vu lo hi sl Q I rx hs pl pu ⟨a, us, rfl, .inl (.inr ⟨o, ha⟩), fun _ => w _ _ s2, fun ng => absurd (by rw [hl]; exact g) ng⟩
    · rename_i g
      cases h1 : keepK tx (cutD xs lo hi) with
      | none => rw [h1] at hf; cases hf
      | some k =>
        rw [h1] at hf; cases hf
        refine sl_tupF pins s σ H _ v vl vu lo hi sl Q I rx hs pl pu ⟨a, us, rfl, .inl (.inr ⟨o, ha⟩), fun gg => absurd (by rw [hl] at gg; exact gg) g, fun _ o' ho' p hp => w _ _ (Rl.nrm ?_)⟩
        obtain ⟨F, lab, st⟩ := s2
        by_cases hfl : D.flats (cutD xs lo hi) = true
        · obtain ⟨_, _, r⟩ := st.tmps.1.rep
          obtain ⟨a', _, us', e1, ha', _, r'⟩ := r.tup_v
          cases e1
          rw [ha] at ha'; cases ha'
          obtain ⟨fq, _, r1⟩ := r'.drop (HT.sIx us.length 0 lo)
          obtain ⟨fq2, _, r2⟩ := r1.take (HT.sIx us.length us.length hi - HT.sIx us.length 0 lo)
          have : Loose fr.K H F lab (fun _ => False) k (cutV us lo hi) (cutD xs lo hi) := by
            unfold cutV cutD at *
            rw [← hl] at hfl ⊢
            exact Loose.flat r2 hfl
          exact st.drop.mkT hp ho' this (by intro i h; exact h.elim)
        · unfold keepK at h1
          rw [if_neg hfl] at h1
          have h2 : keepK tx xs = some k ∨ D.flats xs = true := by
            unfold keepK
            by_cases g : D.flats xs = true
            · exact .inr g
            · rw [if_neg g]; exact .inl h1
          rcases h2 with h2 | h2
          · exact st.drop.mkT hp ho' ((TmpOk.looseT st.tmps.1 ha h2).cut hl lo hi) (by intro i h; omega)
          · exact absurd (flats_of fun d hd => flats_mem h2 d (List.mem_of_mem_drop (List.mem_of_mem_take hd))) hfl
  · cases hf
end
end VI
set_option autoImplicit true
set_option Elab.async false
set_option linter.all false
set_option maxRecDepth 100000
set_option maxHeartbeats 4000000
namespace VI
open PySem PySem.Spec PyProof.Rows L2
section
variable {K : PySem.W.Frag} {F : Addr → Prop} {lab : Lab} {X : Cx} {fr : Fr} {σ : L2.St} {H H' : Hp} {e : Env} {tm : List Tmp} {k j n : Nat} {v : V} {d : D} {t : Tg} {vs : List V} {ds : List D} {fp : List Addr}
theorem intsD_map : ∀ {ds : List D} {ns : List Int}, intsD ds = some ns → ds = ns.map D.int
  | [], _, h => by cases h; rfl
  | .int i :: r, _, h => by
    simp only [intsD] at h
    cases q : intsD r with
    | none => rw [q] at h; cases h
    | some ns => rw [q] at h; cases h; rw [List.map_cons, ← intsD_map q]
  | .non :: _, _, h => by cases h
  | .bl _ :: _, _, h => by cases h
  | .str _ :: _, _, h => by cases h
  | .tup _ :: _, _, h => by cases h
  | .lst _ :: _, _, h => by cases h
  | .dct _ :: _, _, h => by cases h
  | .ins _ _ :: _, _, h => by cases h
  | .arg _ :: _, _, h => by cases h
theorem strsD_map : ∀ {ds : List D} {ns : List Str}, strsD ds = some ns → ds = ns.map D.str
  | [], _, h => by cases h; rfl
  | .str i :: r, _, h => by
    simp only [strsD] at h
    cases q : strsD r with
    | none => rw [q] at h; cases h
    | some ns => rw [q] at h; cases h; rw [List.map_cons, ← strsD_map q]
  | .non :: _, _, h => by cases h
  | .bl _ :: _, _, h => by cases h
  | .int _ :: _, _, h => by cases h
  | .tup _ :: _, _, h => by cases h
  | .lst _ :: _, _, h => by cases h
  | .dct _ :: _, _, h => by cases h
  | .ins _ _ :: _, _, h => by cases h
  | .arg _ :: _, _, h => by cases h
theorem boolsD_map : ∀ {ds : List D} {ns : List Bool}, boolsD ds = some ns → ds = ns.map D.bl
  | [], _, h => by cases h; rfl
  | .bl i :: r, _, h => by
    simp only [boolsD] at h
    cases q : boolsD r with
    | none => rw [q] at h; cases h
    | some ns => rw [q] at h; cases h; rw [List.map_cons, ← boolsD_map q]
  | .non :: _, _, h => by cases h
  | .str _ :: _, _, h => by cases h
  | .int _ :: _, _, h => by cases h
  | .tup _ :: _, _, h => by cases h
  | .lst _ :: _, _, h => by cases h
  | .dct _ :: _, _, h => by cases h
  | .ins _ _ :: _, _, h => by cases h
  | .arg _ :: _, _, h => by cases h
theorem Reps.ints : ∀ {ns : List Int} {vs : List V} {fp : List Addr}, Reps K H F k vs (ns.map D.int) fp → vs = ns.map V.int
  | [], _, _, r => by cases r; rfl
  | n :: ns, _, _, r => by cases r with | cons h r => rw [h.int_v, Reps.ints r]; rfl
theorem Reps.strs : ∀ {ns : List Str} {vs : List V} {fp : List Addr}, Reps K H F k vs (ns.map D.str) fp → vs = ns.map V.str
  | [], _, _, r => by cases r; rfl
  | n :: ns, _, _, r => by cases r with | cons h r => rw [h.str_v, Reps.strs r]; rfl
theorem Reps.bools : ∀ {ns : List Bool} {vs : List V} {fp : List Addr}, Reps K H F k vs (ns.map D.bl) fp → vs = ns.map V.bl
  | [], _, _, r => by cases r; rfl
  | n :: ns, _, _, r => by cases r with | cons h r => rw [h.bl_v, Reps.bools r]; rfl
theorem reps_ints : ∀ (ns : List Int) (k : Nat), Reps K H F k (ns.map V.int) (ns.map D.int) []
  | [], _ => .nil
  | n :: ns, k => by simpa using Reps.cons (.int n) (reps_ints ns k)
theorem Rp.intsL {ns : List Int} (p : Rp K H v (.lst ds)) (h : intsD ds = some ns) : ∃ a, v = .ref a ∧ H a = some (.lst (ns.map V.int)) := by
  obtain ⟨_, _, _, r⟩ := p
  obtain ⟨a, us, h1, h2, _, _, h3⟩ := r.lst_v
  rw [intsD_map h] at h3
  rw [h3.ints] at h2
  exact ⟨a, h1, h2⟩
theorem Rp.intsT {ns : List Int} (p : Rp K H v (.tup ds)) (h : intsD ds = some ns) : ∃ a o, v = .ref a ∧ H a = some (.frz o (.tup (ns.map V.int))) ∧ o.dict = none := by
  obtain ⟨_, _, _, r⟩ := p
  obtain ⟨a, o, us, h1, h2, h3, h4⟩ := r.tup_v
  rw [intsD_map h] at h4
  rw [h4.ints] at h2
  exact ⟨a, o, h1, h2, h3⟩
theorem Rp.boolsL {ns : List Bool} (p : Rp K H v (.lst ds)) (h : boolsD ds = some ns) : ∃ a, v = .ref a ∧ H a = some (.lst (ns.map V.bl)) := by
  obtain ⟨_, _, _, r⟩ := p
  obtain ⟨a, us, h1, h2, _, _, h3⟩ := r.lst_v
  rw [boolsD_map h] at h3
  rw [h3.bools] at h2
  exact ⟨a, h1, h2⟩
theorem Rp.strsL {ns : List Str} (p : Rp K H v (.lst ds)) (h : strsD ds = some ns) : ∃ a, v = .ref a ∧ H a = some (.lst (ns.map V.str)) := by
  obtain ⟨_, _, _, r⟩ := p
  obtain ⟨a, us, h1, h2, _, _, h3⟩ := r.lst_v
  rw [strsD_map h] at h3
  rw [h3.strs] at h2
  exact ⟨a, h1, h2⟩
theorem flats_ints (ns : List Int) : D.flats (ns.map D.int) = true := flats_of fun d h => by
  obtain ⟨i, _, rfl⟩ := List.mem_map.mp h
  rfl
theorem Rl.newInts {ns : List Int} {p : Addr} (s : Rl fr σ H e tm) (hp : H p = none) (k : Nat) : Rl fr σ (upd H p (.lst (ns.map V.int))) e (⟨.own (k + 1), .ref p, .lst (ns.map D.int)⟩ :: tm) := by
  obtain ⟨F, lab, st⟩ := s
  exact st.mkL hp (Loose.flat (L := fun _ => False) (reps_ints ns 0) (flats_ints ns)) (by intro i h; exact h.elim)
theorem one_of {as : List (Tg × D)} (h : as.length = vs.length) {a : Tg × D} (e : as = [a]) : ∃ x, vs = [x] := by
  subst e
  match vs, h with
  | [x], _ => exact ⟨x, rfl⟩
theorem two_of {as : List (Tg × D)} (h : as.length = vs.length) {a b : Tg × D} (e : as = [a, b]) : ∃ x y, vs = [x, y] := by
  subst e
  match vs, h with
  | [x, y], _ => exact ⟨x, y, rfl⟩
theorem cr_len : CallR X (.builtin "len") (rdN X.K (biV "len")) := by
  intro pins s σ H xs us Q I rs h
  obtain ⟨fr, σ₀, e, tm, as, t, d, hK, hl, s2, hf, w⟩ := h
  have s0 := s2.dropAll
  unfold biV at hf
  rw [if_pos (by decide)] at hf
  split at hf
  · rename_i t0 z
    obtain ⟨x, rfl⟩ := one_of hl rfl
    have p := s2.top
    obtain rfl := p.str
    split at hf
    · rename_i g
      cases hf
      exact call_len pins s σ H _ us Q I rs ⟨_, z.length, rfl, ⟨lim_le g, rfl⟩, w.sc s0 rfl⟩
    · cases hf
  · rename_i t0 z
    obtain ⟨x, rfl⟩ := one_of hl rfl
    have p := s2.top
    obtain ⟨a, ys, rfl, ha, hn⟩ := p.lst
    cases hf
    exact call_len pins s σ H _ us Q I rs ⟨_, z.length, rfl, .inl ⟨ys, .of ha, hn.symm⟩, w.sc s0 rfl⟩
  · rename_i t0 z
    obtain ⟨x, rfl⟩ := one_of hl rfl
    have p := s2.top
    obtain ⟨a, o, ys, rfl, ha, _, hn⟩ := p.tup
    cases hf
    exact call_len pins s σ H _ us Q I rs ⟨_, z.length, rfl, .inr ⟨ys, .inl (.inr ⟨o, ha⟩), hn.symm⟩, w.sc s0 rfl⟩
  · cases hf
theorem cr_int : CallR X (.type "int") (rdN X.K (biV "int")) := by
  intro pins s σ H xs us Q I rs h
  obtain ⟨fr, σ₀, e, tm, as, t, d, hK, hl, s2, hf, w⟩ := h
  have s0 := s2.dropAll
  unfold biV at hf
  rw [if_neg (by decide), if_pos (by decide)] at hf
  split at hf
  · rename_i t0 z
    obtain ⟨x, rfl⟩ := one_of hl rfl
    obtain rfl := (s2.top).int
    cases hf
    exact call_int1 pins s σ H _ us Q I rs (.inl ⟨_, rfl, w.sc s0 rfl⟩)
  · rename_i t0 z
    obtain ⟨x, rfl⟩ := one_of hl rfl
    obtain rfl := (s2.top).bl
    cases hf
    exact call_int1 pins s σ H _ us Q I rs (.inr ⟨_, rfl, w.sc s0 rfl⟩)
  · cases hf
theorem cr_str : CallR X (.type "str") (rdN X.K (biV "str")) := by
  intro pins s σ H xs us Q I rs h
  obtain ⟨fr, σ₀, e, tm, as, t, d, hK, hl, s2, hf, w⟩ := h
  have s0 := s2.dropAll
  unfold biV at hf
  rw [if_neg (by decide), if_neg (by decide), if_pos (by decide)] at hf
  split at hf
  · rename_i t0 z
    obtain ⟨x, rfl⟩ := one_of hl rfl
    obtain rfl := (s2.top).int
    split at hf
    · rename_i g
      cases hf
      exact call_str_int pins s σ H _ us Q I rs ⟨_, rfl, g, w.sc s0 rfl⟩
    · cases hf
  · cases hf
theorem cr_list : CallR X (.type "list") (rdN X.K (biV "list")) := by
  intro pins s σ H xs us Q I rs h
  obtain ⟨fr, σ₀, e, tm, as, t, d, hK, hl, s2, hf, w⟩ := h
  have s0 := s2.dropAll
  unfold biV at hf
  rw [if_neg (by decide), if_neg (by decide), if_neg (by decide), if_pos (by decide)] at hf
  split at hf
  · rename_i t0 z
    obtain ⟨x, rfl⟩ := one_of hl rfl
    obtain ⟨_, _, _, r⟩ := s2.top
    obtain ⟨a, rfl, ha⟩ := r.arg_v
    cases hf
    exact call_list_of pins s σ H _ us Q I rs ⟨a, _, rfl, .inl (hK ▸ ha.sq), fun l hlo => w _ _ (s0.newInts hlo 9)⟩
  · rename_i t0 dd _
    obtain ⟨x, rfl⟩ := one_of hl rfl
    cases hi : dd.items t0 with
    | none => rw [hi] at hf; cases hf
    | some p =>
      obtain ⟨t', ys⟩ := p
      rw [hi] at hf
      dsimp only at hf
      cases hk : keepK t' ys with
      | none => rw [hk] at hf; cases hf
      | some k =>
        rw [hk] at hf; cases hf
        have pt := s2.top
        cases dd with
        | lst zs =>
          cases hi
          obtain ⟨a, us', rfl, ha, hl'⟩ := pt.lst
          refine call_list_of pins s σ H _ us Q I rs ⟨a, us', rfl, .inl (.of ha), fun l hlo => w _ _ ?_⟩
          obtain ⟨F, lab, st⟩ := s2
          exact (St.drop st).mkL hlo (TmpOk.looseL st.tmps.1 ha hk) (by intro i h; omega)
        | tup zs =>
          cases hi
          obtain ⟨a, o, us', rfl, ha, _, hl'⟩ := pt.tup
          refine call_list_of pins s σ H _ us Q I rs ⟨a, us', rfl, .inr (.inl (.inr ⟨o, ha⟩)), fun l hlo => w _ _ ?_⟩
          obtain ⟨F, lab, st⟩ := s2
          exact (St.drop st).mkL hlo (TmpOk.looseT st.tmps.1 ha hk) (by intro i h; omega)
        | _ => cases hi
  · cases hf
theorem cr_tuple : CallR X (.type "tuple") (rdN X.K (biV "tuple")) := by
  intro pins s σ H xs us Q I rs h
  obtain ⟨fr, σ₀, e, tm, as, t, d, hK, hl, s2, hf, w⟩ := h
  have s0 := s2.dropAll
  unfold biV at hf
  rw [if_neg (by decide), if_neg (by decide), if_neg (by decide), if_neg (by decide), if_pos (by decide)] at hf
  split at hf
  · rename_i t0 ys
    obtain ⟨x, rfl⟩ := one_of hl rfl
    cases hk : keepK t0.item ys with
    | none => rw [hk] at hf; cases hf
    | some k =>
      rw [hk] at hf; cases hf
      have pt := s2.top
      obtain ⟨a, us', rfl, ha, hl'⟩ := pt.lst
      refine call_tupleF pins s σ H _ us Q I rs ⟨a, us', rfl, .of ha, fun o ho l hlo => w _ _ (Rl.nrm ?_)⟩
      obtain ⟨F, lab, st⟩ := s2
      exact (St.drop st).mkT hlo ho (TmpOk.looseL st.tmps.1 ha hk) (by intro i h; omega)
  · rename_i t0 ys
    obtain ⟨x, rfl⟩ := one_of hl rfl
    cases hf
    have pt := s2.top
    obtain ⟨a, o, us', rfl, ha, _, hl'⟩ := pt.tup
    exact call_tuple_of pins s σ H _ us Q I rs ⟨a, us', rfl, .inr ⟨.inl (.inr ⟨o, ha⟩), w _ _ s2⟩⟩
  · cases hf
theorem cr_min2 (hc : X.calm = true) : CallR X (.builtin "min") (rdN X.K (biV "min")) := by
  intro pins s σ H xs us Q I rs h
  obtain ⟨fr, σ₀, e, tm, as, t, d, hK, hl, s2, hf, w⟩ := h
  have s0 := s2.dropAll
  unfold biV at hf
  rw [if_neg (by decide), if_neg (by decide), if_neg (by decide), if_neg (by decide), if_neg (by decide), if_pos (by decide)] at hf
  split at hf
  · rename_i t0 a t1 b
    obtain ⟨x, y, rfl⟩ := two_of hl rfl
    obtain rfl := (s2.top).int
    obtain rfl := (s2.snd).int
    cases hf
    exact call_min2 hc pins s σ H _ us Q I rs ⟨_, _, rfl, w.sc s0 rfl⟩
  · cases hf
theorem cr_max2 (hc : X.calm = true) : CallR X (.builtin "max") (rdN X.K (biV "max")) := by
  intro pins s σ H xs us Q I rs h
  obtain ⟨fr, σ₀, e, tm, as, t, d, hK, hl, s2, hf, w⟩ := h
  have s0 := s2.dropAll
  unfold biV at hf
  rw [if_neg (by decide), if_neg (by decide), if_neg (by decide), if_neg (by decide), if_neg (by decide), if_neg (by decide), if_pos (by decide)] at hf
  split at hf
  · rename_i t0 a t1 b
    obtain ⟨x, y, rfl⟩ := two_of hl rfl
    obtain rfl := (s2.top).int
    obtain rfl := (s2.snd).int
    cases hf
    exact call_max2 hc pins s σ H _ us Q I rs ⟨_, _, rfl, w.sc s0 rfl⟩
  · cases hf
theorem sorted_uniq {a b : List Int} (h : a.Perm b) (h1 : a.Pairwise (· ≤ ·)) (h2 : b.Pairwise (· ≤ ·)) : a = b :=
  List.Perm.eq_of_pairwise (fun x y _ _ p q => Int.le_antisymm p q) h1 h2 h
theorem cr_sortI (hc : X.calm = true) : CallR X (.builtin "sorted") (rdN X.K (biV "sorted")) := by
  intro pins s σ H xs us Q I rs h
  obtain ⟨fr, σ₀, e, tm, as, t, d, hK, hl, s2, hf, w⟩ := h
  have s0 := s2.dropAll
  unfold biV at hf
  rw [if_neg (by decide), if_neg (by decide), if_neg (by decide), if_neg (by decide), if_neg (by decide), if_neg (by decide), if_neg (by decide), if_neg (by decide), if_neg (by decide), if_neg (by decide), if_neg (by decide), if_pos (by decide)] at hf
  split at hf
  · rename_i t0 ys
    obtain ⟨x, rfl⟩ := one_of hl rfl
    split at hf
    · rename_i ns hi
      split at hf
      · rename_i g
        cases hf
        obtain ⟨a, rfl, ha⟩ := (s2.top).intsL hi
        have hlen : ns.length < 64 := by rw [intsD_map hi, List.length_map] at g; exact g
        refine cr_sorted pins s σ H _ us Q I rs ⟨a, ns, rfl, .of ha, hlen, fun ns' p hp hs hn => w _ _ ?_⟩
        have e1 : ns' = ns.mergeSort (fun a b => decide (a ≤ b)) := by
          refine sorted_uniq (hp.trans (List.mergeSort_perm ns _).symm) hs ?_
          have := List.pairwise_mergeSort (le := fun (a b : Int) => decide (a ≤ b)) (fun a b c h1 h2 => by simp at *; omega) (fun a b => by simp; omega) ns
          exact this.imp fun h => of_decide_eq_true h
        rw [← e1]
        exact s0.newInts hn 9
      · cases hf
    · cases hf
  · cases hf
end
end VI
set_option autoImplicit true
set_option Elab.async false
set_option linter.all false
set_option maxRecDepth 100000
set_option maxHeartbeats 4000000
namespace VI
open PySem PySem.Spec PyProof.Rows L2
section
variable {fr : Fr} {K : PySem.W.Frag} {σ : L2.St} {H H' : Hp} {e e' : Env} {tm : List Tmp} {F F' W : Addr → Prop} {lab lab' : Lab} {l l' : Lb} {k j n i : Nat} {v w r : V} {d d' : D} {p : List Nat} {a : Addr} {t : Tg} {vs xs ys : List V} {ds ds' : List D} {fp fq : List Addr} {L : Nat → Prop} {f : Lb → Lb}
def Off (fr : Fr) (tm : List Tmp) (i : Nat) : Prop := (∀ c ∈ tm, i ∉ c.t.slots) ∧ ∀ q ∈ fr.pts, q.i ≠ i
def Sub (fr : Fr) (tm : List Tmp) (bs : List Nat) : Prop := (∀ c ∈ tm, ∀ i ∈ c.t.slots, i ∈ bs) ∧ (∀ q ∈ fr.pts, q.i ∈ bs) ∧ ∀ q ∈ fr.fix, q.1 = 0
theorem Sub.off {bs : List Nat} (s : Sub fr tm bs) (h : bs.contains i = false) : Off fr tm i := by
  have hn : i ∉ bs := fun z => by rw [List.contains_iff_mem.mpr z] at h; cases h
  exact ⟨fun c hc z => hn (s.1 c hc i z), fun q hq z => hn (z ▸ s.2.1 q hq)⟩
theorem Sub.push {bs : List Nat} (s : Sub fr tm bs) : Sub fr (⟨t, v, d⟩ :: tm) (t.slots ++ bs) :=
  ⟨fun c hc i hi => by
    rcases List.mem_cons.mp hc with z | z
    · subst z; exact List.mem_append_left _ hi
    · exact List.mem_append_right _ (s.1 c z i hi), fun q hq => List.mem_append_right _ (s.2.1 q hq), s.2.2⟩
theorem Sub.pop {bs : List Nat} {c : Tmp} (s : Sub fr (c :: tm) bs) : Sub fr tm bs := ⟨fun c' hc i hi => s.1 c' (List.mem_cons_of_mem _ hc) i hi, s.2⟩
theorem Sub.more {bs bs' : List Nat} (s : Sub fr tm bs) (h : ∀ i ∈ bs, i ∈ bs') : Sub fr tm bs' := ⟨fun c hc i hi => h i (s.1 c hc i hi), fun q hq => h _ (s.2.1 q hq), s.2.2⟩
theorem nrm_slots : (nrm t d).slots = [] ∨ (nrm t d) = t := by unfold nrm; split; exact .inl rfl; exact .inr rfl
theorem Good.relab (g : Good fr H F lab) (hp : ∀ q ∈ fr.pts, f (.s q.i) = .s q.i) : Good fr H F (fun a => (lab a).map f) := by
  refine ⟨g.f0, g.fnew, fun a h => ?_, g.ft, fun a l h => ?_, fun a l h => ?_, g.keep, g.there, g.p0, g.ftup, fun q hq => (g.pth q hq).keep (fun _ _ _ h => h) fun a h => ?_⟩
  · show (lab a).map f = none
    rw [g.fl a h]; rfl
  · cases q : lab a with
    | none => rw [q] at h; cases h
    | some l' => exact g.lt a l' q
  · cases q : lab a with
    | none => rw [q] at h; cases h
    | some l' => exact g.lnew a l' q
  · show (lab a).map f = _
    rw [h, Option.map_some, hp q hq]
theorem Cell.relab (c : Cell K H F lab l k v d) (h : f l = l') : Cell K H F (fun a => (lab a).map f) l' k v d := by
  obtain ⟨fp, r, nd, ha⟩ := c
  exact ⟨fp, r, nd, fun a hm => by show (lab a).map f = _; rw [ha a hm, Option.map_some, h]⟩
theorem Tmps.relab : ∀ {tm : List Tmp}, Tmps K H F lab tm → (∀ n, n < tm.length → f (.t n) = .t n) → (∀ c ∈ tm, ∀ i ∈ c.t.slots, f (.s i) = .s i) → Tmps K H F (fun a => (lab a).map f) tm
  | [], _, _, _ => trivial
  | c :: r, ⟨h1, h2⟩, ht, hs => by
    refine ⟨?_, Tmps.relab h2 (fun n hn => ht n (Nat.lt_succ_of_lt hn)) fun c' hc i hi => hs c' (List.mem_cons_of_mem _ hc) i hi⟩
    unfold TmpOk at h1 ⊢
    obtain ⟨t, v, d⟩ := c
    cases t with
    | own k => exact Cell.relab h1 (ht _ (Nat.lt_succ_self _))
    | bor i b => exact Cell.relab h1 (hs _ List.mem_cons_self i (List.mem_singleton.mpr rfl))
theorem get_env (h : e.get i = some (k, d)) : e[i]? = some (some (k, d)) := by
  unfold Env.get at h
  cases q : e[i]? with
  | none => rw [q] at h; cases h
  | some o => rw [q] at h; simp only [Option.getD_some] at h; rw [h]
theorem Rl.var (s : Rl fr σ H e tm) (h : e.get i = some (k, d)) : ∃ v, σ[i]? = some (some v) ∧ Rl fr σ H e (⟨VI.nrm (varTg i k) d, v, d⟩ :: tm) := by
  obtain ⟨F, lab, st⟩ := s
  obtain ⟨v, h1, h2⟩ := st.slots.2 i k d (get_env h)
  refine ⟨v, h1, Rl.nrm ⟨F, lab, st.good, st.slots, ?_, st.tmps⟩⟩
  unfold varTg
  cases k with
  | zero => exact h2.zero
  | succ b => exact h2
theorem set_none {i' : Nat} {k' : Nat} {d' : D} (h : (e.set i none)[i']? = some (some (k', d'))) : i' ≠ i ∧ e[i']? = some (some (k', d')) := by
  by_cases z : i' = i
  · subst z
    rw [List.getElem?_set] at h
    simp at h
  · rw [List.getElem?_set_ne (Ne.symm z)] at h
    exact ⟨z, h⟩
theorem Slots.wipe (s : Slots K H F lab σ e) : Slots K H F lab σ (e.set i none) :=
  ⟨by rw [List.length_set]; exact s.1, fun i' k' d' h => s.2 i' k' d' (set_none h).2⟩
theorem Rl.wipe (s : Rl fr σ H e tm) : Rl fr σ H (e.set i none) tm := let ⟨F, lab, st⟩ := s; ⟨F, lab, st.good, st.slots.wipe, st.tmps⟩
theorem Rl.mv (s : Rl fr σ H e tm) (h : e.get i = some (k, d)) (o : Off fr tm i) : ∃ v, σ[i]? = some (some v) ∧ Rl fr σ H (e.set i none) (⟨VI.nrm (.own k) d, v, d⟩ :: tm) := by
  obtain ⟨F, lab, st⟩ := s
  obtain ⟨v, h1, h2⟩ := st.slots.2 i k d (get_env h)
  refine ⟨v, h1, Rl.nrm ⟨F, fun a => (lab a).map fun l => if l = .s i then .t tm.length else l, st.good.relab (fun q hq => if_neg fun z => o.2 q hq (Lb.s.inj z)), ⟨by rw [List.length_set]; exact st.slots.1, fun i' k' d' h' => ?_⟩, ?_, ?_⟩⟩
  · obtain ⟨ne, h''⟩ := set_none h'
    obtain ⟨v', q1, q2⟩ := st.slots.2 i' k' d' h''
    exact ⟨v', q1, q2.relab (if_neg fun z => ne (Lb.s.inj z))⟩
  · exact Cell.relab h2 (if_pos rfl)
  · exact st.tmps.relab (fun n hn => if_neg fun (z : Lb.t n = Lb.s i) => by cases z) fun c hc i' hi => if_neg fun (z : Lb.s i' = Lb.s i) => o.1 c hc ((Lb.s.inj z) ▸ hi)
theorem St.thaw (s : St fr σ H e tm F lab) (h : e[i]? = some (some (k, d))) (o : Off fr tm i) (hj : j ≤ k) : Rl fr σ H (e.set i (some (j, d))) tm := by
  obtain ⟨v, h1, fp, r, nd, hl⟩ := s.slots.2 i k d h
  obtain ⟨fq, sub, q⟩ := r.weak nd j hj
  have hi : i < e.length := (List.getElem?_eq_some_iff.mp h).1
  classical
  have kl : ∀ b l, lab b = some l → l ≠ .s i → (if b ∈ fp ∧ b ∉ fq then none else lab b) = some l := fun b l hb hn => by
    rw [if_neg (fun z => hn (Option.some.inj (hb.symm.trans (hl b z.1))))]; exact hb
  refine ⟨fun b => F b ∨ (b ∈ fp ∧ b ∉ fq), fun b => if b ∈ fp ∧ b ∉ fq then none else lab b, ⟨fun b hb => .inl (s.good.f0 b hb), fun b hb => ?_, fun b hb => ?_, fun b hb => ?_, fun b l hb => ?_, fun b l hb => ?_, s.good.keep, s.good.there, s.good.p0, s.good.ftup, fun q hq => (s.good.pth q hq).keep (fun _ _ _ h => h) fun b hb => kl b _ hb fun z => o.2 q hq (Lb.s.inj z)⟩, ⟨by rw [List.length_set]; exact s.slots.1, fun i' k' d' h' => ?_⟩, ?_⟩
  · rcases hb with hb | hb
    · exact s.good.fnew b hb
    · exact .inr (s.good.lnew b _ (hl b hb.1))
  · rcases hb with hb | hb
    · show (if b ∈ fp ∧ b ∉ fq then none else lab b) = none
      split
      · rfl
      · exact s.good.fl b hb
    · show (if b ∈ fp ∧ b ∉ fq then none else lab b) = none
      rw [if_pos hb]
  · rcases hb with hb | hb
    · exact s.good.ft b hb
    · exact s.good.lt b _ (hl b hb.1)
  · have hb' : (if b ∈ fp ∧ b ∉ fq then none else lab b) = some l := hb
    split at hb'
    · cases hb'
    · exact s.good.lt b l hb'
  · have hb' : (if b ∈ fp ∧ b ∉ fq then none else lab b) = some l := hb
    split at hb'
    · cases hb'
    · exact s.good.lnew b l hb'
  · by_cases z : i' = i
    · subst z
      rw [List.getElem?_set_self hi] at h'
      cases h'
      refine ⟨v, h1, fq, q, nd.sublist sub, fun b hb => ?_⟩
      show (if b ∈ fp ∧ b ∉ fq then none else lab b) = _
      rw [if_neg (fun z => z.2 hb)]
      exact hl b (sub.subset hb)
    · rw [List.getElem?_set_ne (Ne.symm z)] at h'
      obtain ⟨v', q1, q2⟩ := s.slots.2 i' k' d' h'
      exact ⟨v', q1, q2.keep keeps_self lists_none (fun _ _ z => z) (fun _ h => .inl h) fun b hb => ⟨id, kl b _ hb fun y => z (Lb.s.inj y)⟩⟩
  · exact s.tmps.keep keeps_self lists_none (fun _ _ z => z) (fun _ h => .inl h) fun b l hb z => ⟨id, kl b l hb fun y => by
      rcases z with ⟨n, _, rfl⟩ | ⟨c, hc, i', hi', rfl⟩
      · cases y
      · exact o.1 c hc (Lb.s.inj y ▸ hi')⟩
theorem get_set (hi : i < e.length) (x : Option (Nat × D)) : Env.get (e.set i x) i = x := by
  unfold Env.get
  rw [List.getElem?_set_self hi]; rfl
theorem get_lt (h : e.get i = some (k, d)) : i < e.length := (List.getElem?_eq_some_iff.mp (get_env h)).1
theorem Rl.fz (s : Rl fr σ H e tm) (h : e.get i = some (k, d)) (o : Off fr tm i) (hj : j ≤ k) : ∃ v, σ[i]? = some (some v) ∧ Rl fr σ H (e.set i (some (j, d))) (⟨VI.nrm (varTg i j) d, v, d⟩ :: tm) := by
  obtain ⟨F, lab, st⟩ := s
  exact (st.thaw (get_env h) o hj).var (get_set (get_lt h) _)
theorem Rl.bind {bs : List Nat} (s : Rl fr σ H e (⟨t, v, d⟩ :: tm)) (h : e.bindE bs i t d = some e') (sb : Sub fr tm bs) : Rl fr (σ.set i (some v)) H e' tm := by
  unfold Env.bindE at h
  split at h
  · cases h
  · rename_i g
    simp only [Bool.or_eq_true, Bool.not_eq_true', decide_eq_false_iff_not, not_or, Bool.not_eq_true, Nat.not_lt, Classical.not_not] at g
    obtain ⟨g1, g2⟩ := g
    have g2 : i < e.length := by omega
    have o := sb.off g1
    cases hr : t.ret with
    | none => rw [hr] at h; cases h
    | some m =>
      rw [hr] at h; cases h
      obtain ⟨F, lab, st⟩ := s
      have hσ : i < σ.length := by rw [st.slots.1]; exact g2
      refine ⟨F, fun a => (lab a).map fun l => if l = .t tm.length then .s i else l, st.good.relab (fun q hq => if_neg fun (z : Lb.s q.i = Lb.t tm.length) => by cases z), ⟨by rw [List.length_set, List.length_set]; exact st.slots.1, fun i' k' d' h' => ?_⟩, ?_⟩
      · by_cases z : i' = i
        · subst z
          rw [List.getElem?_set_self g2] at h'
          cases h'
          refine ⟨v, List.getElem?_set_self hσ, ?_⟩
          cases t with
          | bor i b => cases hr
          | own m' =>
            cases hr
            have c : Cell fr.K H F lab (.t tm.length) m v d := st.tmps.1
            split
            · rename_i hf
              exact c.of_flat hf
            · exact c.relab (if_pos rfl)
        · rw [List.getElem?_set_ne (Ne.symm z)] at h'
          obtain ⟨v', q1, q2⟩ := st.slots.2 i' k' d' h'
          exact ⟨v', by rw [List.getElem?_set_ne (Ne.symm z)]; exact q1, q2.relab (if_neg fun (y : Lb.s i' = Lb.t tm.length) => by cases y)⟩
      · exact st.tmps.2.relab (fun n hn => if_neg fun z => by cases z; omega) fun c hc i' hi => if_neg fun z => by cases z
theorem Reps.split : ∀ {vs : List V} {ds : List D} {fp : List Addr} {j : Nat} {w : V} {d : D}, Reps K H F k vs ds fp → vs[j]? = some w → ds[j]? = some d →
    ∃ f1 fj f2, fp = f1 ++ (fj ++ f2) ∧ Rep K H F k w d fj ∧ ∀ (W : Addr → Prop) (H' : Hp) (F' : Addr → Prop) (d' : D) (fj' : List Addr), Keeps W H H' → Lists W H → (∀ a, F a → ¬ W a) → (∀ a, F a → F' a) → (∀ a ∈ f1, ¬ W a) → (∀ a ∈ f2, ¬ W a) → Rep K H' F' k w d' fj' → Reps K H' F' k vs (ds.set j d') (f1 ++ (fj' ++ f2))
  | _, _, _, _, _, _, .nil, h, _ => by simp at h
  | _, _, _, 0, _, _, .cons (fp := fp) (fq := fq) h r, e1, e2 => by
    simp at e1 e2; subst e1; subst e2
    exact ⟨[], fp, fq, rfl, h, fun W H' F' d' fj' kp nt hF m _ h2 q => by
      have := Reps.cons q (r.keep kp nt hF m h2)
      simpa using this⟩
  | _, _, _, j + 1, _, _, .cons (fp := fp) (fq := fq) h r, e1, e2 => by
    obtain ⟨f1, fj, f2, q1, q2, q3⟩ := Reps.split (j := j) r (by simpa using e1) (by simpa using e2)
    refine ⟨fp ++ f1, fj, f2, by rw [q1]; simp, q2, fun W H' F' d' fj' kp nt hF m h1 h2 q => ?_⟩
    have := Reps.cons (h.keep kp nt hF m fun a ha => h1 a (List.mem_append_left _ ha)) (q3 W H' F' d' fj' kp nt hF m (fun a ha => h1 a (List.mem_append_right _ ha)) h2 q)
    simpa using this
theorem Rep.put : ∀ {p : List Nat} {k m : Nat} {r : V} {d : D} {fp : List Addr} {ds : List D}, Rep K H F k r d fp → fp.Nodup → RP H lab i r p v → k = p.length + 1 + m → atP p d = some ds →
    ∃ a xs fx R, v = .ref a ∧ H a = some (.lst xs) ∧ Reps K H F m xs ds fx ∧ fp.Perm (R ++ a :: fx) ∧ ∀ (H' : Hp) (F' : Addr → Prop) (ys : List V) (ds' : List D) (fq : List Addr), Keeps (fun b => b = a) H H' → (∀ b, F b → b ≠ a) → (∀ b, F b → F' b) → H' a = some (.lst ys) → Reps K H' F' m ys ds' fq →
      ∃ fp', Rep K H' F' k r (putP p ds' d) fp' ∧ fp'.Perm (R ++ a :: fq)
  | [], k, m, r, d, fp, ds, hr, nd, rp, hk, ha => by
    cases d with
    | lst ys =>
      cases ha
      cases rp
      cases hr with
      | lst0 _ _ _ => simp at hk; omega
      | lst1 h q =>
        rename_i k' a' xs' fp'
        have e : k' = m := by simp at hk; omega
        subst e
        refine ⟨_, _, _, [], rfl, h, q, List.Perm.refl _, fun H' F' zs ds' fq kp hF mo hH' q' => ⟨_, ?_, List.Perm.refl _⟩⟩
        exact .lst1 hH' q'
    | _ => cases ha
  | j :: p, k, m, r, d, fp, ds, hr, nd, rp, hk, ha => by
    cases d with
    | lst zs =>
      obtain ⟨b, us, w, rfl, hb, hH, hj, rp'⟩ := rp
      simp only [atP] at ha
      cases hz : zs[j]? with
      | none => rw [hz] at ha; cases ha
      | some x =>
        rw [hz] at ha
        cases hr with
        | lst0 _ _ _ => simp at hk; omega
        | lst1 h q =>
          rename_i k' xs' fp'
          rw [hH] at h; cases h
          obtain ⟨f1, fj, f2, e1, q1, q2⟩ := q.split hj hz
          subst e1
          have nd1 := List.nodup_cons.mp nd
          obtain ⟨n1, n2, n3⟩ := List.nodup_append.mp nd1.2
          obtain ⟨n4, n5, n6⟩ := List.nodup_append.mp n2
          obtain ⟨a, xs, fx, R, rfl, hx, hxs, pm, go⟩ := Rep.put (p := p) (m := m) q1 n4 rp' (by simp at hk; omega) ha
          have aj : a ∈ fj := pm.symm.subset (List.mem_append_right _ List.mem_cons_self)
          have ab : b ≠ a := fun z => nd1.1 (z ▸ List.mem_append_right _ (List.mem_append_left _ aj))
          refine ⟨a, xs, fx, b :: (f1 ++ (R ++ f2)), rfl, hx, hxs, ?_, fun H' F' ys ds' fq kp hF mo hH' q' => ?_⟩
          · refine List.Perm.cons _ ?_
            have : (f1 ++ (fj ++ f2)).Perm (f1 ++ ((R ++ a :: fx) ++ f2)) := (pm.append_right f2).append_left f1
            refine this.trans ?_
            have e2 : (f1 ++ (R ++ f2)).append (a :: fx) = f1 ++ (R ++ (f2 ++ a :: fx)) := by show (f1 ++ (R ++ f2)) ++ (a :: fx) = _; simp
            rw [e2, List.append_assoc R]
            exact ((List.perm_append_comm (l₁ := a :: fx) (l₂ := f2)).append_left R).append_left f1
          · obtain ⟨fp', g1, g2⟩ := go H' F' ys ds' fq kp hF mo hH' q'
            have nt : Lists (fun b => b = a) H := fun c hc o ho => by subst hc; rw [hx] at ho; cases ho; exact ⟨_, rfl⟩
            have g3 := q2 (fun b => b = a) H' F' (putP p ds' x) fp' kp nt hF mo (fun c hc z => n3 c hc c (List.mem_append_left _ (z ▸ aj)) rfl) (fun c hc z => n6 c (z ▸ aj) c hc rfl) g1
            refine ⟨b :: (f1 ++ (fp' ++ f2)), ?_, ?_⟩
            · simp only [putP, hz]
              exact .lst1 (kp b _ hH ab) g3
            · refine List.Perm.cons _ ?_
              have : (f1 ++ (fp' ++ f2)).Perm (f1 ++ ((R ++ a :: fq) ++ f2)) := (g2.append_right f2).append_left f1
              refine this.trans ?_
              have e2 : (f1 ++ (R ++ f2)).append (a :: fq) = f1 ++ (R ++ (f2 ++ a :: fq)) := by show (f1 ++ (R ++ f2)) ++ (a :: fq) = _; simp
              rw [e2, List.append_assoc R]
              exact ((List.perm_append_comm (l₁ := a :: fq) (l₂ := f2)).append_left R).append_left f1
    | _ => cases ha
end
end VI
set_option autoImplicit true
set_option Elab.async false
set_option linter.all false
set_option maxRecDepth 100000
set_option maxHeartbeats 4000000
namespace VI
open PySem PySem.Spec PyProof.Rows L2
section
variable {fr : Fr} {K : PySem.W.Frag} {σ : L2.St} {H H' : Hp} {e e' : Env} {tm : List Tmp} {F F' W : Addr → Prop} {lab lab' : Lab} {l l' : Lb} {k j n i m : Nat} {v w r : V} {d d' : D} {p : List Nat} {a : Addr} {t : Tg} {vs xs ys gv rv : List V} {ds ds' gd rd : List D} {fp fq : List Addr} {L : Nat → Prop} {f : Lb → Lb}
def Mix (xs ys gv rv : List V) (ds ds' gd rd : List D) : Prop := ∀ (K : PySem.W.Frag) (H : Hp) (F : Addr → Prop) (m : Nat) (fx fg : List Addr), Reps K H F m xs ds fx → Reps K H F m gv gd fg → ∃ fq fz, Reps K H F m ys ds' fq ∧ Reps K H F m rv rd fz ∧ (fq ++ fz).Perm (fx ++ fg)
theorem St.mut (s : St fr σ H e tm F lab) {tm0 : List Tmp} (ht : Tmps fr.K H F lab tm0) (h : e[i]? = some (some (k, d))) (hσ : σ[i]? = some (some r)) (o : Off fr tm0 i) (rp : RP H lab i r p v) (hp : p.length < k) (ha : atP p d = some ds)
    (x : Loose fr.K H F lab L j gv gd) (hL : ∀ j, L j → tm0.length ≤ j) :
    ∃ a xs, v = .ref a ∧ H a = some (.lst xs) ∧ xs.length = ds.length ∧ (∃ k1 F1 fx, Reps fr.K H F1 k1 xs ds fx) ∧ ∀ ys ds' rv rd, Mix xs ys gv rv ds ds' gd rd →
      ∃ F' lab', St fr σ (upd H a (.lst ys)) (e.set i (some (min k (p.length + 1 + j), putP p ds' d))) tm0 F' lab' ∧ ∃ fz, Reps fr.K (upd H a (.lst ys)) F' (min (k - p.length - 1) j) rv rd fz ∧ fz.Nodup ∧ ∀ b ∈ fz, lab' b = some (.t tm0.length) := by
  obtain ⟨v', h1, fp, hr, nd, hl⟩ := s.slots.2 i k d h
  rw [hσ] at h1; cases h1
  have hi : i < e.length := (List.getElem?_eq_some_iff.mp h).1
  obtain ⟨f1, sub1, r1⟩ := hr.weak nd (min k (p.length + 1 + j)) (Nat.min_le_left _ _)
  obtain ⟨a, xs, fx, R, rfl, hH, hxs, pm, go⟩ := Rep.put (m := min (k - p.length - 1) j) r1 (nd.sublist sub1) rp (by omega) ha
  refine ⟨a, xs, rfl, hH, hxs.length, ⟨_, _, _, hxs⟩, fun ys ds' rv rd mix => ?_⟩
  obtain ⟨fg, Zg, hg, ndg, lg⟩ := x.weak (j := min (k - p.length - 1) j) (Nat.min_le_right _ _)
  have mo1 : ∀ b : Addr, (F b ∨ (b ∈ fp ∧ b ∉ f1)) → (F b ∨ (b ∈ fp ∧ b ∉ f1) ∨ b ∈ Zg) := fun b hb => hb.imp id .inl
  have mo2 : ∀ b : Addr, (F b ∨ b ∈ Zg) → (F b ∨ (b ∈ fp ∧ b ∉ f1) ∨ b ∈ Zg) := fun b hb => hb.imp id .inr
  obtain ⟨fq, fz, hq, hz, pq⟩ := mix fr.K H (fun b => F b ∨ (b ∈ fp ∧ b ∉ f1) ∨ b ∈ Zg) _ fx fg (hxs.mono mo1) (hg.mono mo2)
  have nd1 : (R ++ a :: fx).Nodup := pm.nodup_iff.mp (nd.sublist sub1)
  obtain ⟨nR, nax, dR⟩ := List.nodup_append.mp nd1
  obtain ⟨na, nfx⟩ := List.nodup_cons.mp nax
  obtain ⟨nfg, nZg, dg⟩ := List.nodup_append.mp ndg
  have sR : ∀ b ∈ R ++ a :: fx, lab b = some (.s i) := fun b hb => hl b (sub1.subset (pm.symm.subset hb))
  have sa : lab a = some (.s i) := sR a (by simp)
  have sx : ∀ b ∈ fx, lab b = some (.s i) := fun b hb => sR b (by simp [hb])
  have tg : ∀ b ∈ fg, ∃ j, tm0.length ≤ j ∧ lab b = some (.t j) := fun b hb => let ⟨j, q1, q2⟩ := lg b (List.mem_append_left _ hb); ⟨j, hL j q1, q2⟩
  have tZ : ∀ b ∈ Zg, ∃ j, tm0.length ≤ j ∧ lab b = some (.t j) := fun b hb => let ⟨j, q1, q2⟩ := lg b (List.mem_append_right _ hb); ⟨j, hL j q1, q2⟩
  have sZ : ∀ b, (b ∈ fp ∧ b ∉ f1) → lab b = some (.s i) := fun b hb => hl b hb.1
  have nfg' : (fx ++ fg).Nodup := List.nodup_append.mpr ⟨nfx, nfg, fun b hb c hc z => by
    subst z
    obtain ⟨j, _, q⟩ := tg b hc
    rw [sx b hb] at q; cases q⟩
  have nqz : (fq ++ fz).Nodup := pq.nodup_iff.mpr nfg'
  obtain ⟨nq, nz, dqz⟩ := List.nodup_append.mp nqz
  have aqz : a ∉ fq ++ fz := fun hm => by
    rcases List.mem_append.mp (pq.subset hm) with z | z
    · exact na z
    · obtain ⟨j, _, q⟩ := tg a z
      rw [sa] at q; cases q
  have inqz : ∀ b ∈ fq ++ fz, lab b = some (.s i) ∨ ∃ j, tm0.length ≤ j ∧ lab b = some (.t j) := fun b hb => by
    rcases List.mem_append.mp (pq.subset hb) with z | z
    · exact .inl (sx b z)
    · exact .inr (tg b z)
  have noF : ∀ b, F b → b ≠ a := fun b hb z => by have := s.good.fl b hb; rw [z, sa] at this; cases this
  have noF' : ∀ b, (F b ∨ (b ∈ fp ∧ b ∉ f1) ∨ b ∈ Zg) → b ≠ a := fun b hb z => by
    rcases hb with hb | hb | hb
    · exact noF b hb z
    · subst z; exact hb.2 (pm.symm.subset (by simp))
    · subst z; obtain ⟨j, _, q⟩ := tZ b hb; rw [sa] at q; cases q
  have kp : Keeps (fun b => b = a) H (upd H a (.lst ys)) := keeps_at
  have nt : Lists (fun b => b = a) H := lists_at hH
  have hq' : Reps fr.K (upd H a (.lst ys)) (fun b => F b ∨ (b ∈ fp ∧ b ∉ f1) ∨ b ∈ Zg) (min (k - p.length - 1) j) ys ds' fq := hq.keep kp nt noF' (fun _ z => z) fun b hb z => aqz (List.mem_append_left _ (z ▸ hb))
  have hz' : Reps fr.K (upd H a (.lst ys)) (fun b => F b ∨ (b ∈ fp ∧ b ∉ f1) ∨ b ∈ Zg) (min (k - p.length - 1) j) rv rd fz := hz.keep kp nt noF' (fun _ z => z) fun b hb z => aqz (List.mem_append_right _ (z ▸ hb))
  obtain ⟨fp', g1, g2⟩ := go (upd H a (.lst ys)) (fun b => F b ∨ (b ∈ fp ∧ b ∉ f1) ∨ b ∈ Zg) ys ds' fq kp (fun b hb => noF' b (mo1 b hb)) mo1 upd_same hq'
  classical
  have kl : ∀ b l, lab b = some l → l ≠ .s i → (∀ j, tm0.length ≤ j → l ≠ .t j) → (if (b ∈ fp ∧ b ∉ f1) ∨ b ∈ Zg then none else if b ∈ fz then some (Lb.t tm0.length) else if b ∈ fq then some (.s i) else lab b) = some l ∧ b ≠ a := fun b l hb h1 h2 => by
    have q1 : ¬ ((b ∈ fp ∧ b ∉ f1) ∨ b ∈ Zg) := fun z => by
      rcases z with z | z
      · exact h1 (Option.some.inj (hb.symm.trans (sZ b z)))
      · obtain ⟨j, hj, q⟩ := tZ b z
        exact h2 j hj (Option.some.inj (hb.symm.trans q))
    have q2 : b ∉ fq ++ fz := fun z => by
      rcases inqz b z with z | ⟨j, hj, z⟩
      · exact h1 (Option.some.inj (hb.symm.trans z))
      · exact h2 j hj (Option.some.inj (hb.symm.trans z))
    rw [if_neg q1, if_neg (fun z => q2 (List.mem_append_right _ z)), if_neg (fun z => q2 (List.mem_append_left _ z))]
    exact ⟨hb, fun z => h1 (Option.some.inj (hb.symm.trans (z ▸ sa)))⟩
  have lists : ∀ b, (∃ us, H b = some (.lst us)) → ∃ us, upd H a (.lst ys) b = some (.lst us) := fun b ⟨us, hb⟩ => by
    by_cases z : b = a
    · rw [z]; exact ⟨ys, upd_same⟩
    · rw [upd_ne z]; exact ⟨us, hb⟩
  have alive : ∀ b l, (if (b ∈ fp ∧ b ∉ f1) ∨ b ∈ Zg then none else if b ∈ fz then some (Lb.t tm0.length) else if b ∈ fq then some (.s i) else lab b) = some l → ∃ l', lab b = some l' := fun b l hb => by
    split at hb
    · cases hb
    · split at hb
      · rename_i hz
        rcases inqz b (List.mem_append_right _ hz) with z | ⟨_, _, z⟩ <;> exact ⟨_, z⟩
      · split at hb
        · rename_i hz
          rcases inqz b (List.mem_append_left _ hz) with z | ⟨_, _, z⟩ <;> exact ⟨_, z⟩
        · exact ⟨l, hb⟩
  refine ⟨fun b => F b ∨ (b ∈ fp ∧ b ∉ f1) ∨ b ∈ Zg, fun b => if (b ∈ fp ∧ b ∉ f1) ∨ b ∈ Zg then none else if b ∈ fz then some (Lb.t tm0.length) else if b ∈ fq then some (.s i) else lab b,
    ⟨⟨fun b hb => .inl (s.good.f0 b hb), fun b hb => ?_, fun b hb => ?_, fun b hb => ?_, fun b l hb => ?_, fun b l hb => ?_, fun b ob hb hn => ?_, fun b hb => ?_, fun b hb => lists b (s.good.p0 b hb), s.good.ftup, fun q hq => ?_⟩, ⟨by rw [List.length_set]; exact s.slots.1, fun i' k' d' h' => ?_⟩, ?_⟩, fz, hz', nz, fun b hb => ?_⟩
  · rcases hb with hb | hb | hb
    · exact s.good.fnew b hb
    · exact .inr (s.good.lnew b _ (sZ b hb))
    · obtain ⟨j, _, q⟩ := tZ b hb
      exact .inr (s.good.lnew b _ q)
  · show (if (b ∈ fp ∧ b ∉ f1) ∨ b ∈ Zg then none else if b ∈ fz then some (Lb.t tm0.length) else if b ∈ fq then some (.s i) else lab b) = none
    rcases hb with hb | hb
    · have hn := s.good.fl b hb
      split
      · rfl
      · have q2 : b ∉ fq ++ fz := fun z => by
          rcases inqz b z with z | ⟨j, hj, z⟩ <;> (rw [hn] at z; cases z)
        rw [if_neg (fun z => q2 (List.mem_append_right _ z)), if_neg (fun z => q2 (List.mem_append_left _ z))]
        exact hn
    · rw [if_pos hb]
  · refine lists b ?_
    rcases hb with hb | hb | hb
    · exact s.good.ft b hb
    · exact s.good.lt b _ (sZ b hb)
    · obtain ⟨j, _, q⟩ := tZ b hb
      exact s.good.lt b _ q
  · obtain ⟨l', q⟩ := alive b l hb
    exact lists b (s.good.lt b l' q)
  · obtain ⟨l', q⟩ := alive b l hb
    exact s.good.lnew b l' q
  · have hb2 := s.good.keep b ob hb hn
    by_cases z : b = a
    · exfalso
      subst z
      rcases s.good.lnew b _ sa with z | z
      · exact hn z
      · rw [hb] at z; cases z
    · rw [upd_ne z]; exact hb2
  · by_cases z : b = a
    · rw [z, upd_same]; simp
    · rw [upd_ne z]; exact s.good.there b hb
  · refine (s.good.pth q hq).keep (fun b ob hb ho => ?_) fun b hb => (kl b _ hb (fun z => o.2 q hq (Lb.s.inj z)) fun _ _ z => by cases z).1
    rw [upd_ne (kl b _ hb (fun z => o.2 q hq (Lb.s.inj z)) fun _ _ z => by cases z).2]; exact ho
  · by_cases z : i' = i
    · subst z
      rw [List.getElem?_set_self hi] at h'
      cases h'
      refine ⟨r, hσ, fp', g1, ?_, fun b hb => ?_⟩
      · refine g2.nodup_iff.mpr (List.nodup_append.mpr ⟨nR, List.nodup_cons.mpr ⟨fun z => aqz (List.mem_append_left _ z), nq⟩, fun b hb c hc z => ?_⟩)
        subst z
        rcases List.mem_cons.mp hc with z | z
        · exact dR b hb a (by simp) z
        · rcases List.mem_append.mp (pq.subset (List.mem_append_left fz z)) with z | z
          · exact dR b hb b (by simp [z]) rfl
          · obtain ⟨j, _, q⟩ := tg b z
            rw [sR b (by simp [hb])] at q; cases q
      · show (if (b ∈ fp ∧ b ∉ f1) ∨ b ∈ Zg then none else if b ∈ fz then some (Lb.t tm0.length) else if b ∈ fq then some (.s i') else lab b) = some (.s i')
        have hb' := g2.subset hb
        have q1 : ¬ ((b ∈ fp ∧ b ∉ f1) ∨ b ∈ Zg) ∧ b ∉ fz ∧ (b ∉ fq → lab b = some (.s i')) := by
          rcases List.mem_append.mp hb' with z | z
          · have hs := sR b (by simp [z])
            refine ⟨fun y => ?_, fun y => ?_, fun _ => hs⟩
            · rcases y with y | y
              · exact y.2 (pm.symm.subset (by simp [z]))
              · obtain ⟨j, _, q⟩ := tZ b y; rw [hs] at q; cases q
            · rcases List.mem_append.mp (pq.subset (List.mem_append_right fq y)) with y | y
              · exact dR b z b (by simp [y]) rfl
              · obtain ⟨j, _, q⟩ := tg b y; rw [hs] at q; cases q
          · rcases List.mem_cons.mp z with z | z
            · subst z
              refine ⟨fun y => noF' b (.inr y) rfl, fun y => aqz (List.mem_append_right _ y), fun _ => sa⟩
            · refine ⟨fun y => ?_, fun y => dqz b z b y rfl, fun y => absurd z y⟩
              rcases List.mem_append.mp (pq.subset (List.mem_append_left fz z)) with u | u
              · rcases y with y | y
                · exact y.2 (pm.symm.subset (by simp [u]))
                · obtain ⟨j, _, q⟩ := tZ b y; rw [sx b u] at q; cases q
              · rcases y with y | y
                · obtain ⟨j, _, q⟩ := tg b u; rw [sZ b y] at q; cases q
                · exact dg b u b y rfl
        rw [if_neg q1.1, if_neg q1.2.1]
        split
        · rfl
        · rename_i g; exact q1.2.2 g
    · rw [List.getElem?_set_ne (Ne.symm z)] at h'
      obtain ⟨v', q1, q2⟩ := s.slots.2 i' k' d' h'
      exact ⟨v', q1, q2.keep kp nt noF (fun _ h => .inl h) fun b hb => let ⟨y1, y2⟩ := kl b _ hb (fun y => z (Lb.s.inj y)) (fun _ _ y => by cases y); ⟨y2, y1⟩⟩
  · exact ht.keep kp nt noF (fun _ h => .inl h) fun b l hb z => by
      have y := kl b l hb (fun y => by
        rcases z with ⟨n, _, rfl⟩ | ⟨c, hc, i', hi', rfl⟩
        · cases y
        · exact o.1 c hc (Lb.s.inj y ▸ hi')) (fun j hj y => by
        rcases z with ⟨n, hn, rfl⟩ | ⟨c, hc, i', hi', rfl⟩
        · cases y; omega
        · cases y)
      exact ⟨y.2, y.1⟩
  · show (if (b ∈ fp ∧ b ∉ f1) ∨ b ∈ Zg then none else if b ∈ fz then some (Lb.t tm0.length) else if b ∈ fq then some (.s i) else lab b) = _
    have q1 : ¬ ((b ∈ fp ∧ b ∉ f1) ∨ b ∈ Zg) := fun y => by
      rcases List.mem_append.mp (pq.subset (List.mem_append_right fq hb)) with u | u
      · rcases y with y | y
        · exact y.2 (pm.symm.subset (by simp [u]))
        · obtain ⟨j, _, q⟩ := tZ b y; rw [sx b u] at q; cases q
      · rcases y with y | y
        · obtain ⟨j, _, q⟩ := tg b u; rw [sZ b y] at q; cases q
        · exact dg b u b y rfl
    rw [if_neg q1, if_pos hb]
end
end VI
set_option autoImplicit true
set_option Elab.async false
set_option linter.all false
set_option maxRecDepth 100000
set_option maxHeartbeats 4000000
namespace VI
open PySem PySem.Spec PyProof.Rows L2
section
variable {fr : Fr} {K : PySem.W.Frag} {σ : L2.St} {H H' : Hp} {e e' : Env} {tm : List Tmp} {F F' W : Addr → Prop} {lab lab' : Lab} {l l' : Lb} {k j n i m : Nat} {v w r x : V} {d d' : D} {p : List Nat} {a : Addr} {t : Tg} {vs xs ys gv rv : List V} {ds ds' gd rd : List D} {fp fq : List Addr} {L : Nat → Prop}
theorem looseAll : ∀ {as : List (Tg × D)} {vs : List V} {tm : List Tmp} {k : Nat}, Tmps K H F lab (pushAll as vs tm) → as.length = vs.length → minK as = some k →
    Loose K H F lab (fun j => tm.length ≤ j ∧ j < tm.length + as.length) k vs (as.map (·.2)) ∧ Tmps K H F lab tm
  | [], [], tm, k, h, _, _ => ⟨Loose.nil, h⟩
  | [], _ :: _, _, _, _, hl, _ => by cases hl
  | _ :: _, [], _, _, _, hl, _ => by cases hl
  | (t, d) :: as, v :: vs, tm, k, h, hl, hk => by
    simp only [minK] at hk
    cases hm : minK as with
    | none => rw [hm] at hk; cases hk
    | some k' =>
      rw [hm] at hk
      dsimp only at hk
      obtain ⟨x, ⟨y1, y2⟩⟩ := looseAll (as := as) (vs := vs) (tm := ⟨t, v, d⟩ :: tm) h (by simpa using hl) hm
      refine ⟨?_, y2⟩
      by_cases hf : d.flat = true
      · rw [if_pos hf] at hk; cases hk
        have h1 : Loose K H F lab (fun j => j = tm.length) k [v] [d] := y1.loose1F hf
        have := Loose.append h1 x (fun j q1 q2 => by simp only [List.length_cons] at q2; omega)
        exact this.mono fun j hj => by simp only [List.length_cons] at hj ⊢; omega
      · rw [if_neg hf] at hk
        cases t with
        | bor i b => cases hk
        | own q =>
          cases hk
          have h1 : Loose K H F lab (fun j => j = tm.length) q [v] [d] := y1.loose1 rfl
          have := Loose.append' h1 x (fun j q1 q2 => by simp only [List.length_cons] at q2; omega)
          exact this.mono fun j hj => by simp only [List.length_cons] at hj ⊢; omega
theorem Rl.display {as : List (Tg × D)} {p : Addr} (s : Rl fr σ H e (pushAll as vs tm)) (hl : as.length = vs.length) (hk : minK as = some k) (hp : H p = none) : Rl fr σ (upd H p (.lst vs)) e (⟨.own (k + 1), .ref p, .lst (as.map (·.2))⟩ :: tm) := by
  obtain ⟨F, lab, st⟩ := s
  obtain ⟨x, y⟩ := looseAll st.tmps hl hk
  exact St.mkL ⟨st.good, st.slots, y⟩ hp x fun j hj => hj.1
theorem Rl.displayT {as : List (Tg × D)} {p : Addr} {o : Obj} (s : Rl fr σ H e (pushAll as vs tm)) (hl : as.length = vs.length) (hk : minK as = some k) (hp : H p = none) (ho : o.dict = none) : Rl fr σ (upd H p (.frz o (.tup vs))) e (⟨.own k, .ref p, .tup (as.map (·.2))⟩ :: tm) := by
  obtain ⟨F, lab, st⟩ := s
  obtain ⟨x, y⟩ := looseAll st.tmps hl hk
  exact St.mkT ⟨st.good, st.slots, y⟩ hp ho x fun j hj => hj.1
theorem Reps.cutAt : ∀ {vs : List V} {ds : List D} {fp : List Addr} (n : Nat), Reps K H F k vs ds fp → ∃ f1 f2, fp = f1 ++ f2 ∧ Reps K H F k (vs.take n) (ds.take n) f1 ∧ Reps K H F k (vs.drop n) (ds.drop n) f2
  | _, _, fp, 0, r => ⟨[], fp, rfl, by simpa using Reps.nil, by simpa using r⟩
  | _, _, _, n + 1, .nil => ⟨[], [], rfl, by simpa using Reps.nil, by simpa using Reps.nil⟩
  | _, _, _, n + 1, .cons (fp := fp) (fq := fq) h r => by
    obtain ⟨f1, f2, e, h1, h2⟩ := Reps.cutAt n r
    exact ⟨fp ++ f1, f2, by rw [e]; simp, by simpa using Reps.cons h h1, by simpa using h2⟩
theorem mix_append : Mix xs (xs ++ gv) gv [] ds (ds ++ gd) gd [] := fun K H F m fx fg h1 h2 => ⟨fx ++ fg, [], h1.append h2, .nil, by simp⟩
theorem mix_insert (n : Nat) : Mix xs (xs.take n ++ gv ++ xs.drop n) gv [] ds (ds.take n ++ gd ++ ds.drop n) gd [] := fun K H F m fx fg h1 h2 => by
  obtain ⟨f1, f2, rfl, q1, q2⟩ := h1.cutAt n
  refine ⟨f1 ++ fg ++ f2, [], (q1.append h2).append q2, .nil, ?_⟩
  rw [List.append_nil, List.append_assoc, List.append_assoc]
  exact (List.perm_append_comm).append_left f1
theorem eraseIdx_cut {α : Type} (l : List α) (n : Nat) : l.eraseIdx n = l.take n ++ l.drop (n + 1) := List.eraseIdx_eq_take_drop_succ l n
theorem mix_erase {n : Nat} (hx : xs[n]? = some x) (hd : ds[n]? = some d) : Mix xs (xs.eraseIdx n) [] [x] ds (ds.eraseIdx n) [] [d] := fun K H F m fx fg h1 h2 => by
  cases h2
  obtain ⟨f1, f2, rfl, q1, q2⟩ := h1.cutAt n
  have e1 : xs.drop n = x :: xs.drop (n + 1) := by
    obtain ⟨hn, e⟩ := List.getElem?_eq_some_iff.mp hx
    rw [List.drop_eq_getElem_cons hn, e]
  have e2 : ds.drop n = d :: ds.drop (n + 1) := by
    obtain ⟨hn, e⟩ := List.getElem?_eq_some_iff.mp hd
    rw [List.drop_eq_getElem_cons hn, e]
  rw [e1, e2] at q2
  cases q2 with
  | cons h r =>
    rename_i g1 g2
    refine ⟨f1 ++ g2, g1, ?_, h.one, ?_⟩
    · rw [eraseIdx_cut, eraseIdx_cut]
      exact q1.append r
    · rw [List.append_nil, List.append_assoc]
      exact (List.perm_append_comm).append_left f1
theorem mix_set {n : Nat} {y : V} {dy : D} (hx : xs[n]? = some x) (hd : ds[n]? = some d) : Mix xs (xs.set n y) [y] [x] ds (ds.set n dy) [dy] [d] := fun K H F m fx fg h1 h2 => by
  obtain ⟨f1, f2, rfl, q1, q2⟩ := h1.cutAt n
  obtain ⟨hn, ex⟩ := List.getElem?_eq_some_iff.mp hx
  obtain ⟨hm, ed⟩ := List.getElem?_eq_some_iff.mp hd
  have e1 : xs.drop n = x :: xs.drop (n + 1) := by rw [List.drop_eq_getElem_cons hn, ex]
  have e2 : ds.drop n = d :: ds.drop (n + 1) := by rw [List.drop_eq_getElem_cons hm, ed]
  rw [e1, e2] at q2
  cases q2 with
  | cons h r =>
    rename_i g1 g2
    refine ⟨f1 ++ (fg ++ g2), g1, ?_, h.one, ?_⟩
    · rw [List.set_eq_take_append_cons_drop, if_pos hn, List.set_eq_take_append_cons_drop, if_pos hm]
      exact q1.append (by simpa using h2.append r)
    · simp only [List.append_assoc]
      refine List.Perm.append_left f1 ?_
      exact (List.perm_append_comm (l₁ := fg) (l₂ := g2 ++ g1)).trans ((List.perm_append_comm (l₁ := g2) (l₂ := g1)).append_right fg |>.trans (by rw [List.append_assoc]))
def rdM (K : PySem.W.Frag) (m : Str) : V → List V → Hp → VK → Prop := fun x vs H Q => ∃ fr σ e tm as i p r F lab t d e' bs, fr.K = K ∧ as.length = vs.length ∧ St fr σ H e (pushAll as vs tm) F lab ∧ σ[i]? = some (some r) ∧ RP H lab i r p x ∧ Off fr tm i ∧
  mutE bs m i p as e = .ok (t, d, e') ∧ ∀ v H', Rl fr σ H' e' (⟨t, v, d⟩ :: tm) → Q v H'
theorem Tmps.base : ∀ {as : List (Tg × D)} {vs : List V} {tm : List Tmp}, Tmps K H F lab (pushAll as vs tm) → Tmps K H F lab tm
  | [], _, _, h => by cases ‹List V› <;> exact h
  | _ :: _, [], _, h => h
  | a :: as, v :: vs, tm, h => (Tmps.base (as := as) (vs := vs) h).2
theorem mutE_ok {bs : List Nat} {m : Str} {as : List (Tg × D)} {e₀ : Env} (h : mutE bs m i p as e = .ok (t, d, e₀)) : ∃ k d₀ xs mine ys gone j, e.get i = some (k, d₀) ∧ p.length < k ∧ atP p d₀ = some xs ∧ mutV m xs as = some (mine, d, ys, gone) ∧ minK gone = some j ∧
    e₀ = e.set i (some (min k (p.length + 1 + j), putP p ys d₀)) ∧ t = if mine then nrm (.own (min (k - p.length - 1) j)) d else .own 9 := by
  unfold mutE at h
  cases h1 : e.get i with
  | none => rw [h1] at h; cases h
  | some kd =>
    obtain ⟨k, d₀⟩ := kd
    rw [h1] at h
    dsimp only at h
    split at h
    · cases h
    · rename_i g
      simp only [Bool.or_eq_true, not_or, Bool.not_eq_true] at g
      have hk : p.length < k := by
        have : ¬ (k ≤ p.length) := fun z => by have := Nat.ble_eq_true_of_le z; rw [this] at g; simp at g
        omega
      cases h2 : atP p d₀ with
      | none => rw [h2] at h; cases h
      | some xs =>
        rw [h2] at h
        dsimp only at h
        cases h3 : mutV m xs as with
        | none => rw [h3] at h; cases h
        | some q =>
          obtain ⟨mine, r, ys, gone⟩ := q
          rw [h3] at h
          dsimp only at h
          cases h4 : minK gone with
          | none => rw [h4] at h; cases h
          | some j =>
            rw [h4] at h
            dsimp only at h
            cases mine <;> (cases h; exact ⟨k, d₀, xs, _, ys, gone, j, rfl, hk, h2, h3, h4, rfl, rfl⟩)
section
variable {X : Cx}
theorem mt_appendV : MtR X "list.append" (rdM X.K "append") := by
  intro pins s σ H x vs v us Q I rx rs h
  obtain ⟨fr, σ₀, e, tm, as, i, p, r, F, lab, t, d, e', bs, hK, hl, st, hσ, rp, off, hm, w⟩ := h
  obtain ⟨k, d₀, xs, mine, ys, gone, j, h1, h2, h3, h4, h5, rfl, rfl⟩ := mutE_ok hm
  unfold mutV at h4
  rw [if_pos (by decide)] at h4
  split at h4
  · rename_i y
    split at h4
    · rename_i g
      cases h4
      obtain ⟨z, rfl⟩ := one_of hl rfl
      obtain ⟨lo, _⟩ := looseAll st.tmps hl h5
      obtain ⟨a, us', rfl, ha, hn, hrp, go⟩ := st.mut st.tmps.base (get_env h1) hσ off rp h2 h3 lo (fun j hj => hj.1)
      refine mt_append pins s σ H _ _ v us Q I rx rs ⟨a, us', z, rfl, rfl, ha, by have := lim_le g; omega, w _ _ ?_⟩
      obtain ⟨F', lab', s', _⟩ := go (us' ++ [z]) (xs ++ [y.2]) [] [] mix_append
      exact Rl.sc ⟨F', lab', s'⟩ rfl
    · cases h4
  · cases h4
theorem mt_insertV : MtR X "list.insert" (rdM X.K "insert") := by
  intro pins s σ H x vs v us Q I rx rs h
  obtain ⟨fr, σ₀, e, tm, as, i, p, r, F, lab, t, d, e', bs, hK, hl, st, hσ, rp, off, hm, w⟩ := h
  obtain ⟨k, d₀, xs, mine, ys, gone, j, h1, h2, h3, h4, h5, rfl, rfl⟩ := mutE_ok hm
  unfold mutV at h4
  rw [if_neg (by decide), if_neg (by decide), if_pos (by decide)] at h4
  split at h4
  · rename_i t0 ii y
    split at h4
    · rename_i g
      cases h4
      obtain ⟨z0, z, rfl⟩ := two_of hl rfl
      have st' : Tmps fr.K H F lab (⟨y.1, z, y.2⟩ :: ⟨t0, z0, .int ii⟩ :: tm) := st.tmps
      obtain rfl : z0 = .int ii := by
        obtain ⟨_, _, r⟩ := st'.2.1.rep
        exact r.int_v
      obtain ⟨lo, _⟩ := looseAll (as := [y]) (vs := [z]) (tm := ⟨t0, .int ii, .int ii⟩ :: tm) st' rfl h5
      obtain ⟨a, us', rfl, ha, hn, hrp, go⟩ := st.mut st.tmps.base (get_env h1) hσ off rp h2 h3 lo (fun j hj => by simp only [List.length_cons] at hj; omega)
      refine mt_insert pins s σ H _ _ v us Q I rx rs ⟨a, us', ii, z, rfl, rfl, ha, by have := lim_le g.2.2; omega, g.1, g.2.1, w _ _ ?_⟩
      obtain ⟨F', lab', s', _⟩ := go (us'.take ii.toNat ++ [z] ++ us'.drop ii.toNat) (xs.take ii.toNat ++ [y.2] ++ xs.drop ii.toNat) [] [] (mix_insert ii.toNat)
      have e1 : xs.take ii.toNat ++ [y.2] ++ xs.drop ii.toNat = xs.take ii.toNat ++ y.2 :: xs.drop ii.toNat := by simp
      rw [e1] at s'
      exact Rl.sc ⟨F', lab', s'⟩ rfl
    · cases h4
  · cases h4
theorem dropLast_erase {α : Type} (l : List α) : l.dropLast = l.eraseIdx (l.length - 1) := List.eraseIdx_length_sub_one.symm
theorem Rl.popped {F' : Addr → Prop} {lab' : Lab} {m : Nat} {fz : List Addr} (s : St fr σ H e tm F' lab') (r : Reps fr.K H F' m [w] [d] fz) (nd : fz.Nodup) (hl : ∀ b ∈ fz, lab' b = some (.t tm.length)) : Rl fr σ H e (⟨VI.nrm (.own m) d, w, d⟩ :: tm) := by
  refine Rl.nrm ⟨F', lab', s.good, s.slots, ?_, s.tmps⟩
  cases r with
  | cons h r => cases r; exact ⟨_, h, by simpa using nd, fun b hb => hl b (by simpa using hb)⟩
theorem mt_popV : MtR X "list.pop" (rdM X.K "pop") := by
  intro pins s σ H x vs v us Q I rx rs h
  obtain ⟨fr, σ₀, e, tm, as, i, p, r, F, lab, t, d, e', bs, hK, hl, st, hσ, rp, off, hm, w⟩ := h
  obtain ⟨k, d₀, xs, mine, ys, gone, j, h1, h2, h3, h4, h5, rfl, rfl⟩ := mutE_ok hm
  unfold mutV at h4
  rw [if_neg (by decide), if_pos (by decide)] at h4
  split at h4
  · cases hy : xs[xs.length - 1]? with
    | none => rw [hy] at h4; cases h4
    | some y =>
      rw [hy] at h4; cases h4; cases h5
      obtain rfl : vs = [] := List.eq_nil_of_length_eq_zero hl.symm
      obtain ⟨a, us', rfl, ha, hn, hrp, go⟩ := st.mut (L := fun _ => False) (j := 9) st.tmps (get_env h1) hσ off rp h2 h3 Loose.nil (fun j hj => hj.elim)
      obtain ⟨z, hz⟩ : ∃ z, us'[xs.length - 1]? = some z := by
        have := (List.getElem?_eq_some_iff.mp hy).1
        exact ⟨us'[xs.length - 1]'(by omega), List.getElem?_eq_getElem _⟩
      obtain ⟨F', lab', s', fz, q1, q2, q3⟩ := go (us'.eraseIdx (xs.length - 1)) (xs.eraseIdx (xs.length - 1)) [z] [d] (mix_erase hz hy)
      refine mt_pop pins s σ H _ _ v us Q I rx rs ⟨a, us', z, rfl, rfl, ha, by rw [hn]; exact hz, w _ _ ?_⟩
      rw [dropLast_erase us', hn, dropLast_erase xs]
      exact Rl.popped s' q1 q2 q3
  · rename_i t0 ii
    split at h4
    · rename_i g
      split at h4
      · rename_i kk hk
        cases hy : xs[kk]? with
        | none => rw [hy] at h4; cases h4
        | some y =>
          rw [hy] at h4; cases h4; cases h5
          obtain ⟨z0, rfl⟩ := one_of hl rfl
          have st' : Tmps fr.K H F lab (⟨t0, z0, .int ii⟩ :: tm) := st.tmps
          obtain rfl : z0 = .int ii := by
            obtain ⟨_, _, r⟩ := st'.1.rep
            exact r.int_v
          obtain ⟨a, us', rfl, ha, hn, hrp, go⟩ := st.mut (L := fun _ => False) (j := 9) st'.2 (get_env h1) hσ off rp h2 h3 Loose.nil (fun j hj => hj.elim)
          obtain ⟨z, hz⟩ : ∃ z, us'[kk]? = some z := by
            have := (List.getElem?_eq_some_iff.mp hy).1
            exact ⟨us'[kk]'(by omega), List.getElem?_eq_getElem _⟩
          obtain ⟨F', lab', s', fz, q1, q2, q3⟩ := go (us'.eraseIdx kk) (xs.eraseIdx kk) [z] [d] (mix_erase hz hy)
          exact mt_popAt pins s σ H _ _ v us Q I rx rs ⟨a, us', ii, kk, z, rfl, rfl, ha, g.1, g.2, by rw [hn]; exact hk, hz, w _ _ (Rl.popped s' q1 q2 q3)⟩
      · cases h4
    · cases h4
  · cases h4
theorem mt_remI : MtR X "list.remove" (fun x vs H Q => ∃ (l : Addr) (ns : List Int) (k : Int), x = .ref l ∧ vs = [.int k] ∧ H l = some (.lst (ns.map V.int)) ∧ k ∈ ns ∧ Q .non (upd H l (.lst ((ns.map V.int).eraseIdx (ns.idxOf k))))) := by
  intro pins s σ H x vs v us Q I rx rs h
  obtain ⟨l, ns, k, rfl, rfl, hH, hk, q⟩ := h
  cases rx
  obtain ⟨u, rfl, t, rfl⟩ := vals1 rs
  obtain ⟨z, its, n, r, hl, e0⟩ := I.lstM hH
  have hi : IntsAre its ns := intsAre_of r
  have heq := eq_isInt k t hi
  have hnl : ns.length = its.length := by rw [← hl, List.length_map]
  have hsz : its.toArray.size ≤ sizeLine := by rw [List.size_toArray, ← hl]; exact z
  have j1 : ns.idxOf k < ns.length := List.idxOf_lt_length_iff.mpr hk
  have j2 : ns[ns.idxOf k]? = some k := by rw [List.getElem?_eq_getElem j1, List.getElem_idxOf]
  have hj : ns.idxOf k < its.length := by omega
  refine call_meets PySem.F.slot_list_remove ⟨_, e0, rfl⟩ PySem.F.entry_list_remove (PySem.F.args_list_remove_2 _ _)
    (MeetsSeq.list_remove l its.toArray n (.int k t) (isInt k) (fun y hy => heq y (by simpa using hy)) (ns.idxOf k) (by rw [List.size_toArray]; exact hj) ?hit (fun i hi2 hlt => ?hno) hsz) ⟨e0, ?_⟩
  case hit =>
    show isInt k its[ns.idxOf k] = true
    exact (L2.isInt_at k hi (ns.idxOf k) hj).mpr j2
  case hno =>
    have hi3 : i < its.length := by rw [List.size_toArray] at hi2; exact hi2
    show isInt k its[i] = false
    rw [Bool.eq_false_iff]
    intro w
    have w2 := (L2.isInt_at k hi i hi3).mp w
    have hi4 : i < ns.length := by omega
    have w3 : ns[i] = k := by rw [List.getElem?_eq_getElem hi4] at w2; exact Option.some.inj w2
    have w4 := List.not_of_lt_findIdx (p := (· == k)) (xs := ns) hlt
    rw [w3] at w4
    simp at w4
  refine ⟨.non, _, I.lset (its' := its.eraseIdx (ns.idxOf k)) hH e0 ?_ (r.eraseIdx _) ?_, rfl, q⟩
  · show its.toArray.eraseIdxIfInBounds (ns.idxOf k) = (its.eraseIdx (ns.idxOf k)).toArray
    rw [List.eraseIdxIfInBounds_toArray]
  · have := len_erase (ns.map V.int) (ns.idxOf k)
    omega
theorem mt_removeV : MtR X "list.remove" (rdM X.K "remove") := by
  intro pins s σ H x vs v us Q I rx rs h
  obtain ⟨fr, σ₀, e, tm, as, i, p, r, F, lab, t, d, e', bs, hK, hl, st, hσ, rp, off, hm, w⟩ := h
  obtain ⟨k, d₀, xs, mine, ys, gone, j, h1, h2, h3, h4, h5, rfl, rfl⟩ := mutE_ok hm
  unfold mutV at h4
  rw [if_neg (by decide), if_neg (by decide), if_neg (by decide), if_pos (by decide)] at h4
  split at h4
  · rename_i t0 y
    split at h4
    · rename_i ns hns
      split at h4
      · rename_i g
        cases h4; cases h5
        obtain ⟨z0, rfl⟩ := one_of hl rfl
        have st' : Tmps fr.K H F lab (⟨t0, z0, .int y⟩ :: tm) := st.tmps
        obtain rfl : z0 = .int y := by
          obtain ⟨_, _, r⟩ := st'.1.rep
          exact r.int_v
        have hm : y ∈ ns := by simpa using g
        obtain ⟨a, us', rfl, ha, hn, hrp, go⟩ := st.mut (L := fun _ => False) (j := 9) st'.2 (get_env h1) hσ off rp h2 h3 Loose.nil (fun j hj => hj.elim)
        have hus : us' = ns.map V.int := by
          obtain ⟨k1, F1, fx, hr⟩ := hrp
          rw [intsD_map hns] at hr
          exact hr.ints
        subst hus
        have hj : ns.idxOf y < ns.length := List.idxOf_lt_length_iff.mpr hm
        have e1 : (ns.map V.int)[ns.idxOf y]? = some (.int y) := by rw [List.getElem?_map, List.getElem?_eq_getElem hj, List.getElem_idxOf]; rfl
        have e2 : xs[ns.idxOf y]? = some (.int y) := by rw [intsD_map hns, List.getElem?_map, List.getElem?_eq_getElem hj, List.getElem_idxOf]; rfl
        obtain ⟨F', lab', s', _⟩ := go ((ns.map V.int).eraseIdx (ns.idxOf y)) (xs.eraseIdx (ns.idxOf y)) [.int y] [.int y] (mix_erase e1 e2)
        exact mt_remI pins s σ H _ _ v us Q I rx rs ⟨a, ns, y, rfl, rfl, ha, hm, w _ _ (Rl.sc ⟨F', lab', s'⟩ rfl)⟩
      · cases h4
    · cases h4
  · cases h4
end
end
end VI
set_option autoImplicit true
set_option Elab.async false
set_option linter.all false
set_option maxRecDepth 100000
set_option maxHeartbeats 4000000
namespace VI
open PySem PySem.Spec PyProof.Rows L2
section
variable {fr : Fr} {K : PySem.W.Frag} {σ : L2.St} {H H' : Hp} {e e' : Env} {tm : List Tmp} {F F' W : Addr → Prop} {lab lab' : Lab} {l l' : Lb} {k j n i m : Nat} {v w r x : V} {d d' : D} {p : List Nat} {a : Addr} {t : Tg} {vs xs ys gv rv : List V} {ds ds' gd rd : List D} {fp fq : List Addr} {L : Nat → Prop} {X : Cx}
theorem St.seti (st : St fr σ H e tm F lab) {tm0 : List Tmp} {t : Tg} {vv : V} {dv : D} {j : Nat} {jj : Nat} (ht : Tmps fr.K H F lab tm0) (h1 : e.get i = some (k, d)) (hσ : σ[i]? = some (some r)) (off : Off fr tm0 i) (rp : RP H lab i r p x) (h2 : p.length < k)
    (ha : atP p d = some ds) (lo : Loose fr.K H F lab L j [vv] [dv]) (hL : ∀ j, L j → tm0.length ≤ j) {n : Int} (hn : ixN ds.length n = some jj) :
    ∃ a us, x = .ref a ∧ H a = some (.lst us) ∧ ixN us.length n = some jj ∧ Rl fr σ (upd H a (.lst (us.set jj vv))) (e.set i (some (min k (p.length + 1 + j), putP p (ds.set jj dv) d))) tm0 := by
  obtain ⟨a, us, rfl, hH, hl, hrp, go⟩ := st.mut ht (get_env h1) hσ off rp h2 ha lo hL
  refine ⟨a, us, rfl, hH, by rw [hl]; exact hn, ?_⟩
  obtain ⟨q1, q2, q3⟩ := ixN_seq hn
  obtain ⟨z, hz⟩ : ∃ z, us[jj]? = some z := ⟨us[jj]'(by omega), List.getElem?_eq_getElem _⟩
  obtain ⟨y, hy⟩ : ∃ y, ds[jj]? = some y := ⟨ds[jj]'(by omega), List.getElem?_eq_getElem _⟩
  obtain ⟨F', lab', s', _⟩ := go (us.set jj vv) (ds.set jj dv) [z] [y] (mix_set hz hy)
  exact ⟨F', lab', s'⟩
def TyD (T : String) (x : V) (H : Hp) : Prop := match x with
  | .str _ => T = "str"
  | .ref p => (T = "list" ∧ ∃ xs, H p = some (.lst xs)) ∨ (T = "tuple" ∧ ∃ o xs, H p = some (.frz o (.tup xs)) ∧ o.dict = none)
  | _ => False
theorem tyD_is {pins : List (Addr × Obj)} {σ : L2.St} {H : Hp} {s : Shared} {T : String} {x : V} {v : Value} (I : Inv X pins σ H s) (r : RelV x v) (ty : TyD T x H) :
    s.TypeIs v T ∧ ∀ a, v = .ref a → ∃ ob, s.heap.get? a = some ob ∧ ob.dict = none := by
  cases x with
  | str z =>
    obtain ⟨t, rfl⟩ := r
    cases (show T = "str" from ty)
    exact ⟨typeIs_str s z t, fun _ e => nomatch e⟩
  | ref p =>
    cases r
    rcases ty with ⟨rfl, xs, hq⟩ | ⟨rfl, o, xs, hq, hd⟩
    · obtain ⟨its, _, pl, _⟩ := I.list (.of hq)
      refine ⟨pl.isList.typeIs, fun a e => ?_⟩
      cases e
      obtain ⟨o, n, e, c, hd, _⟩ := pl
      exact ⟨o, e, hd⟩
    · obtain ⟨e, _, its, rv, ht⟩ := I.hok p _ hq
      refine ⟨ht.typeIs, fun a e' => ?_⟩
      cases e'
      exact ⟨o, e, hd⟩
  | _ => exact False.elim ty
def MtAll (X : Cx) (name : Str) (ok : String → Prop) (r : String → V → List V → Hp → VK → Prop) : Prop :=
  ∀ T, ok T → ∃ id, ∃ _ : PlainAttrs T, Slot T name id ∧ typeOf (.builtin id) = pure (.type "method_descriptor") ∧ MtR X id (r T)
def tMD (ok : String → Prop) (r : String → V → List V → Hp → VK → Prop) (to : TE) (t : TA) : TE := fun σ H Q => to σ H fun x H1 => ∃ T, ok T ∧ TyD T x H1 ∧ t σ H1 fun xs H2 => r T x xs H2 Q
def tMD0 (ok : String → Prop) (r : String → V → List V → Hp → VK → Prop) (to : TE) : TE := fun σ H Q => to σ H fun x H1 => ∃ T, ok T ∧ TyD T x H1 ∧ r T x [] H1 Q
variable {o e₁ : Expr} {es : List Expr} {to : TE} {ta : TA} {name : Str} {apos cpos : Pos} {ok : String → Prop} {rr : String → V → List V → Hp → VK → Prop}
theorem pe_md0 (hm : MtAll X name ok rr) (ho : PE X o to)
    (hbase : attributeBase o name X.env (eval o X.env) = eval o X.env) (hline : (apos.endLine == cpos.line) = true) : PE X (.Call (.Attribute o name apos) [] [] cpos) (tMD0 ok rr to) := by
  refine ⟨fun pins s σ H Q I h => ?_⟩
  refine wpAny_Call_method0_late hbase hline (thn (ho.run pins s σ H _ I h) fun v s1 ⟨x, H1, I1, r1, T, hT, ty, q1⟩ => ?_)
  obtain ⟨h1, h2⟩ := tyD_is I1 r1 ty
  obtain ⟨id, pa, slot, hty, hr⟩ := hm T hT
  exact ⟨T, id, pa, slot, hty, h1, h2, Calls.callWith_builtin rfl (PySem.evalArgs_none (hr pins s1 σ H1 x [] v [] Q I1 r1 .nil q1))⟩
theorem pe_md (hm : MtAll X name ok rr) (ho : PE X o to) (ha : PA X (e₁ :: es) ta)
    (hbase : attributeBase o name X.env (eval o X.env) = eval o X.env)
    (hfew : ((backTo cpos (starEach (e₁ :: es) X.env)).all (fun x => !x.1) && (backToKw cpos (keywordEach [] X.env)).all (fun x => x.1.isSome)
      && decide ((e₁ :: es).length + ([] : List Keyword).length + (if ([] : List Keyword).isEmpty then 0 else 1) < 30)) = true)
    (hline : (apos.endLine == cpos.line) = true) (hs : starEach (e₁ :: es) X.env = (false, eval e₁ X.env) :: starEach es X.env) (hplain : (backTo cpos (starEach es X.env)).any (·.1) = false) :
    PE X (.Call (.Attribute o name apos) (e₁ :: es) [] cpos) (tMD ok rr to ta) := by
  refine ⟨fun pins s σ H Q I h => ?_⟩
  refine wpAny_Call_method_late hbase hfew hline rfl (thn (ho.run pins s σ H _ I h) fun v s1 ⟨x, H1, I1, r1, T, hT, ty, q1⟩ => ?_)
  obtain ⟨h1, h2⟩ := tyD_is I1 r1 ty
  obtain ⟨id, pa, slot, hty, hr⟩ := hm T hT
  refine ⟨T, id, pa, slot, hty, h1, h2, ?_⟩
  have hA := ha.run cpos pins s1 σ H1 _ I1 q1
  rw [hs] at hA ⊢
  refine Calls.callWith_builtin (by show (false || (backTo cpos (starEach es X.env)).any (·.1)) = false; rw [hplain] <;> rfl) (Calls.evalArgs_plain ?_)
  exact thn hA fun us s2 ⟨vs, H2, I2, r2, q2⟩ => hr pins s2 σ H2 x vs v us Q I2 r1 r2 q2
theorem flat_ints (ns : List Int) : (ns.map V.int).all flatV = true := by
  rw [List.all_map]
  exact List.all_eq_true.mpr fun _ _ => rfl
theorem mt_tup_indexI : MtR X "tuple.index" (fun x xs H Q => ∃ p, ∃ ys : List Int, ∃ z j, x = .ref p ∧ xs = [.int z] ∧ SqT X.K H p (ys.map V.int) ∧ ys[j]? = some z ∧ (∀ m, m < j → ys[m]? ≠ some z) ∧ Q (.int (j : Nat)) H) := by
  intro pins s σ H x xs v us Q I rx rs h
  obtain ⟨p, ys, z, j, rfl, rfl, hq, hy, hno, q⟩ := h
  cases rx
  obtain ⟨u, rfl, t, rfl⟩ := vals1 rs
  obtain ⟨its, r, pl, hz⟩ := I.tuple hq
  obtain ⟨⟨cls, dd, dt, sl⟩, ho, hc, n, hd⟩ := pl
  simp only at hc hd
  subst hc
  subst hd
  have hl : its.toArray.size = ys.length := by rw [List.size_toArray, ← r.length, List.length_map]
  have hj : j < its.toArray.size := by rw [hl]; exact (List.getElem?_eq_some_iff.mp hy).1
  have at' : ∀ (m : Nat) (hm : m < its.toArray.size), ∃ y t', ys[m]? = some y ∧ its.toArray[m] = Value.int y t' := fun m hm => by
    have hm' : m < ys.length := by rw [← hl]; exact hm
    obtain ⟨w, hw, t', hw'⟩ := r.get (i := m) (x := .int ys[m]) (by simp [hm'])
    refine ⟨ys[m], t', List.getElem?_eq_getElem hm', ?_⟩
    have e := (List.getElem?_eq_some_iff.mp hw).2
    rw [← hw', ← e]
    simp
  refine call_meets PySem.F.slot_tuple_index ⟨_, ho, rfl⟩ PySem.F.entry_tuple_index (PySem.F.args_tuple_index_2 _ _) (TI.tuple_indexAt p its.toArray n dd sl (.int z t) (eqU (.int z)) j hj ?_ ?_)
    ⟨ho, fun w hw => mem_eqAt (x := .int z) ⟨t, rfl⟩ rfl r (flat_ints ys) w (by simpa using hw), ⟨.int (j : Nat), H, I.tok _, ⟨_, rfl⟩, q⟩⟩
  · obtain ⟨y, t', h1, h2⟩ := at' j hj
    rw [hy] at h1
    cases h1
    rw [h2]
    show (z == z) = true
    exact beq_self_eq_true z
  · intro m hm hmj
    obtain ⟨y, t', h1, h2⟩ := at' m hm
    rw [h2]
    show (y == z) = false
    exact beq_eq_false_iff_ne.mpr fun e => hno m hmj (e ▸ h1)
theorem idx_first {ns : List Int} {y : Int} (h : y ∈ ns) : ns[ns.idxOf y]? = some y ∧ ∀ m, m < ns.idxOf y → ns[m]? ≠ some y := by
  have j1 : ns.idxOf y < ns.length := List.idxOf_lt_length_iff.mpr h
  refine ⟨by rw [List.getElem?_eq_getElem j1, List.getElem_idxOf], fun m hm z => ?_⟩
  have hi4 : m < ns.length := by omega
  have w4 := List.not_of_lt_findIdx (p := (· == y)) (xs := ns) hm
  rw [List.getElem?_eq_getElem hi4] at z
  rw [Option.some.inj z] at w4
  simp at w4
def rdO (K : PySem.W.Frag) (m : Str) : V → List V → Hp → VK → Prop := fun x vs H Q => ∃ fr σ e tm tx dx as t d, fr.K = K ∧ as.length = vs.length ∧ Rl fr σ H e (pushAll as vs (⟨tx, x, dx⟩ :: tm)) ∧ metV m (tx, dx) as = some (t, d) ∧ Wd fr σ e tm t d Q
def rdOT (K : PySem.W.Frag) (m : Str) (T : String) : V → List V → Hp → VK → Prop := fun x vs H Q => TyD T x H ∧ rdO K m x vs H Q
theorem mt_indexL : MtR X "list.index" (rdOT X.K "index" "list") := by
  intro pins s σ H x vs v us Q I rx rs h
  obtain ⟨ty, fr, σ₀, e, tm, tx, dx, as, t, d, hK, hl, s2, hf, w⟩ := h
  have s0 := s2.dropAll
  have px := s0.top
  unfold metV at hf
  rw [if_pos (by decide)] at hf
  dsimp only at hf px
  split at hf
  · rename_i ys t0 y
    split at hf
    · rename_i ns hns
      split at hf
      · rename_i g
        cases hf
        obtain ⟨z0, rfl⟩ := one_of hl rfl
        obtain rfl := (s2.top).int
        have hm : y ∈ ns := by simpa using g
        obtain ⟨a, rfl, ha⟩ := px.intsL hns
        obtain ⟨q1, q2⟩ := idx_first hm
        refine mt_index pins s σ H _ _ v us Q I rx rs ⟨a, ns.map V.int, .int y, ns.idxOf y, .int y, rfl, rfl, .of ha, rfl, flat_ints ns, by rw [List.getElem?_map, q1]; rfl, ?_, fun m z' hm' hz => ?_, w.sc s0.drop rfl⟩
        · show (y == y) = true
          exact beq_self_eq_true y
        · rw [List.getElem?_map] at hz
          cases hq : ns[m]? with
          | none => rw [hq] at hz; cases hz
          | some c =>
            rw [hq] at hz; cases hz
            show (c == y) = false
            exact beq_eq_false_iff_ne.mpr fun e => q2 m hm' (by rw [hq, e])
      · cases hf
    · cases hf
  · obtain ⟨a, o, us', rfl, ha, _⟩ := px.tup
    rcases ty with ⟨_, xs, hq⟩ | ⟨hq, _⟩
    · rw [ha] at hq; cases hq
    · exact absurd hq (by decide)
  · cases hf
theorem mt_indexT : MtR X "tuple.index" (rdOT X.K "index" "tuple") := by
  intro pins s σ H x vs v us Q I rx rs h
  obtain ⟨ty, fr, σ₀, e, tm, tx, dx, as, t, d, hK, hl, s2, hf, w⟩ := h
  have s0 := s2.dropAll
  have px := s0.top
  unfold metV at hf
  rw [if_pos (by decide)] at hf
  dsimp only at hf px
  split at hf
  · obtain ⟨a, us', rfl, ha, _⟩ := px.lst
    rcases ty with ⟨hq, _⟩ | ⟨_, o, xs, hq, _⟩
    · exact absurd hq (by decide)
    · rw [ha] at hq; cases hq
  · rename_i ys t0 y
    split at hf
    · rename_i ns hns
      split at hf
      · rename_i g
        cases hf
        obtain ⟨z0, rfl⟩ := one_of hl rfl
        obtain rfl := (s2.top).int
        have hm : y ∈ ns := by simpa using g
        obtain ⟨a, o, rfl, ha, ho⟩ := px.intsT hns
        obtain ⟨q1, q2⟩ := idx_first hm
        exact mt_tup_indexI pins s σ H _ _ v us Q I rx rs ⟨a, ns, y, ns.idxOf y, rfl, rfl, .inl (.inr ⟨o, ha⟩), q1, q2, w.sc s0.drop rfl⟩
      · cases hf
    · cases hf
  · cases hf
theorem mt_joinV : MtR X "str.join" (rdOT X.K "join" "str") := by
  intro pins s σ H x vs v us Q I rx rs h
  obtain ⟨ty, fr, σ₀, e, tm, tx, dx, as, t, d, hK, hl, s2, hf, w⟩ := h
  have s0 := s2.dropAll
  have px := s0.top
  unfold metV at hf
  rw [if_neg (by decide), if_pos (by decide)] at hf
  dsimp only at hf px
  split at hf
  · rename_i z t0 ys
    obtain rfl := px.str
    split at hf
    · rename_i zs hz
      split at hf
      · rename_i g
        cases hf
        obtain ⟨z0, rfl⟩ := one_of hl rfl
        obtain ⟨a, rfl, ha⟩ := (s2.top).strsL hz
        have g' := Nat.le_of_ble_eq_true g
        refine mt_join pins s σ H _ _ v us Q I rx rs ⟨z, a, zs, rfl, rfl, .inl (.of ha), ?_, w.sc s0.drop rfl⟩
        rw [Nat.add_comm, Nat.mul_comm zs.length]; exact g'
      · cases hf
    · cases hf
  · cases hf
theorem mtAll_index : MtAll X "index" (fun T => T = "list" ∨ T = "tuple") (fun T => rdOT X.K "index" T) := fun T hT => by
  rcases hT with rfl | rfl
  · exact ⟨_, PySem.F.plainAttrs_list, PySem.F.slot_list_index, PySem.F.type_list_index, mt_indexL⟩
  · exact ⟨_, PySem.F.plainAttrs_tuple, PySem.F.slot_tuple_index, PySem.F.type_tuple_index, mt_indexT⟩
theorem mtAll_join : MtAll X "join" (fun T => T = "str") (fun T => rdOT X.K "join" T) := fun T hT => by
  subst hT
  exact ⟨_, PySem.F.plainAttrs_str, PySem.F.slot_str_join, PySem.F.type_str_join, mt_joinV⟩
theorem mtAll_mut {m : Str} {id : String} (slot : Slot "list" m id) (ty : typeOf (.builtin id) = pure (.type "method_descriptor")) (h : MtR X id (rdM X.K m)) : MtAll X m (fun T => T = "list") (fun _ => rdM X.K m) := fun T hT => by
  subst hT
  exact ⟨_, PySem.F.plainAttrs_list, slot, ty, h⟩
theorem mtAll_append : MtAll X "append" (fun T => T = "list") (fun _ => rdM X.K "append") := mtAll_mut PySem.F.slot_list_append PySem.F.type_list_append mt_appendV
theorem mtAll_pop : MtAll X "pop" (fun T => T = "list") (fun _ => rdM X.K "pop") := mtAll_mut PySem.F.slot_list_pop PySem.F.type_list_pop mt_popV
theorem mtAll_insert : MtAll X "insert" (fun T => T = "list") (fun _ => rdM X.K "insert") := mtAll_mut PySem.F.slot_list_insert PySem.F.type_list_insert mt_insertV
theorem mtAll_remove : MtAll X "remove" (fun T => T = "list") (fun _ => rdM X.K "remove") := mtAll_mut PySem.F.slot_list_remove PySem.F.type_list_remove mt_removeV
def tTupF (t : TA) : TE := fun σ H Q => t σ H fun xs H1 => xs.length ≤ sizeLine ∧ ∀ o : Obj, o.dict = none → ∀ p, H1 p = none → Q (.ref p) (upd H1 p (.frz o (.tup xs)))
theorem pe_tupF {x1} {pos : Pos} (h : PA X es ta) : PE X (.Tuple es x1 pos) (tTupF ta) := by
  refine ⟨fun pins s σ H Q I hq => ?_⟩
  refine wpAny_Tuple_spliced (thn (h.run pos pins s σ H _ I hq) fun us s1 ⟨xs, H1, I1, r, z, q⟩ => ⟨by rw [← r.length]; exact z, ?_⟩)
  exact laidT (X := X) (s := s1) (tk := s1.toks) I1 z r q
def tTupRevF (K : PySem.W.Frag) (te : TE) : TE := fun σ H Q => te σ H fun v H1 => ∃ (a : Addr) (xs : List V), v = .ref a ∧ SqL K H1 a xs ∧ ∀ o : Obj, o.dict = none → ∀ q, H1 q = none → Q (.ref q) (upd H1 q (.frz o (.tup xs.reverse)))
theorem pe_tupRevF {e : Expr} {te : TE} {p p2 pos pos2 : Pos} (hc : X.calm = true) (hg : Gl X "tuple") (hm : X.mg "tuple" = none) (hg2 : Gl X "reversed") (hm2 : X.mg "reversed" = none) (he : PE X e te)
    (hs : starEach [e] X.env = (false, eval e X.env) :: starEach [] X.env)
    (hs2 : starEach [.Call (.Name "reversed" p2) [e] [] pos2] X.env = (false, eval (.Call (.Name "reversed" p2) [e] [] pos2) X.env) :: starEach [] X.env) :
    PE X (.Call (.Name "tuple" p) [.Call (.Name "reversed" p2) [e] [] pos2] [] pos) (tTupRevF X.K te) := by
  refine ⟨fun pins s σ H Q I h => ?_⟩
  refine Call_ (ld_blt I hg hm boot_tuple (PyProof.Rows.callWith_type1 (args_cons (Call_ (ld_blt I hg2 hm2 PyProof.Rows.boot_reversed (PyProof.Rows.callWith_type1 (args_cons (thn (he.run pins s σ H _ I h) fun u s1 ⟨v, H1, I1, r1, q1⟩ => args_nil ?_) hs) hs rfl))) hs2) hs2 rfl))
  obtain ⟨a, xs, ev, hq, q⟩ := q1
  subst ev
  obtain rfl : u = Value.ref a := r1
  obtain ⟨its, rv, p', hz⟩ := I1.list hq
  refine call_reversed_list p'.isList (args_nil ?_)
  have k0 : ∀ b o, s1.heap.get? b = some o → (s1.heap.push (revObj a ((its.toArray.size : Int) - 1))).get? b = some o := fun b o e => Heap.get?_push_of_some _ e
  have I2 : Inv X pins σ H1 { s1 with heap := s1.heap.push (revObj a ((its.toArray.size : Int) - 1)) } := I1.kept (t' := s1.toks) k0
  obtain ⟨f0, f1, f2, f3, f4, f5⟩ := I1.fpOk (H' := H1) (b := s1.heap.objs.size) (Nat.le_refl _) (I1.hok.fresh (Nat.le_refl _))
  have hl := p'.isList
  obtain ⟨ol, hol, _⟩ := id hl
  have hne : a ≠ s1.heap.objs.size := Nat.ne_of_lt (Heap.lt_size hol)
  have hn : its.toArray.size ≤ sizeLine := by rw [List.size_toArray, ← rv.length]; exact hz
  refine RT.call_tuple_rev (s := { s1 with heap := s1.heap.push (revObj a ((its.toArray.size : Int) - 1)) }) (I1.ok.hd hc) ⟨_, Heap.get?_push_size _ rfl, rfl, rfl⟩ (hl.push _) hne hn fun h' tk acc hk hi => ?_
  have I3 : Inv X pins σ H1 { s1 with heap := h', toks := tk } := I2.turned (t' := tk) (fun b o hb e => hk b o hb e) f0 f1 f3 f4 f5
  have := laidT (X := X) (s := s1) (tk := tk) (its := acc.toList) I3 (ys := xs.reverse) (by rw [List.length_reverse]; exact hz) (RT.vals_rev rv hi) q
  simpa using this
end
end VI
set_option autoImplicit true
set_option Elab.async false
set_option linter.all false
set_option maxRecDepth 100000
set_option maxHeartbeats 4000000
namespace VI
open PySem PySem.Spec PyProof.Rows L2
section
variable {fr : Fr} {K : PySem.W.Frag} {σ : L2.St} {H H' : Hp} {e e' : Env} {tm : List Tmp} {F F' W P : Addr → Prop} {lab lab' : Lab} {l l' : Lb} {k j n i m : Nat} {v w r x : V} {d d' : D} {p : List Nat} {a : Addr} {t : Tg} {vs xs ys gv rv : List V} {ds ds' gd rd : List D} {fp fq : List Addr} {L : Nat → Prop} {as : List (Tg × D)}
def frOf (K : PySem.W.Frag) (H : Hp) (F P : Addr → Prop) (ino : Bool) (vs : List V) : Fr := ⟨K, H, F, P, [], match ino, vs with
  | true, v :: _ => [(0, v)]
  | _, _ => []⟩
def Looks (K : PySem.W.Frag) (H : Hp) (F : Addr → Prop) : List (Nat × D) → List V → Prop
  | [], [] => True
  | (k, d) :: as, v :: vs => k = 0 ∧ Rep K H F 0 v d [] ∧ Looks K H F as vs
  | _, _ => False
structure Entry (K : PySem.W.Frag) (H : Hp) (F P : Addr → Prop) (ino : Bool) (as : List (Nat × D)) (vs : List V) : Prop where
  ft : ∀ a, F a → ∃ xs, H a = some (.lst xs)
  pt : ∀ a, P a → ∃ xs, H a = some (.lst xs)
  dis : ∀ a, F a → ¬ P a
  args : match ino with
    | false => Looks K H F as vs ∧ ∀ a, ¬ P a
    | true => match as, vs with
      | (k, d) :: as, v :: vs => (∃ fp, Rep K H F k v d fp ∧ fp.Nodup ∧ ∀ a ∈ fp, P a) ∧ Looks K H F as vs
      | _, _ => False
def Exit (fr : Fr) (H' : Hp) (v : V) (k : Nat) (d : D) (out : Option (Nat × D)) : Prop := ∃ F' lab', Good fr H' F' lab' ∧ Cell fr.K H' F' lab' (.t 0) k v d ∧ match out with
  | none => True
  | some o => ∃ q ∈ fr.fix, Cell fr.K H' F' lab' (.s 0) o.1 q.2 o.2
theorem Looks.length : ∀ {as : List (Nat × D)} {vs : List V}, Looks K H F as vs → as.length = vs.length
  | [], [], _ => rfl
  | (_, _) :: _, _ :: _, h => by simp [Looks.length h.2.2]
  | [], _ :: _, h => h.elim
  | (_, _) :: _, [], h => h.elim
theorem Rep.ice (r : Rep K H F k v d fp) (nd : fp.Nodup) (h1 : ∀ a, F a → F' a) (h2 : ∀ a ∈ fp, F' a) : Rep K H F' 0 v d [] := by
  obtain ⟨fq, _, q⟩ := r.weak nd 0 (Nat.zero_le _)
  obtain rfl := q.fp0
  exact q.mono fun a ha => ha.elim (h1 a) fun z => h2 a z.1
theorem Cell.ice (c : Cell K H F lab l k v d) (h1 : ∀ a, F a → F' a) (h2 : ∀ a, lab a = some l → F' a) : Rep K H F' 0 v d [] := by
  obtain ⟨fp, r, nd, hl⟩ := c
  exact r.ice nd h1 fun a ha => h2 a (hl a ha)
theorem Rep.flat0 (r : Rep K H F k v d fp) (h : d.flat = true) {F' : Addr → Prop} : Rep K H F' 0 v d [] := (r.of_flat h).2 _ _
theorem looks_of : ∀ {as : List (Tg × D)} {vs : List V} {tm : List Tmp}, Tmps K H F lab (pushAll as vs tm) → as.length = vs.length → (∀ a, F a → F' a) → (∀ a j, tm.length ≤ j → lab a = some (.t j) → F' a) → (∀ a i, i ∈ others as → lab a = some (.s i) → F' a) → Looks K H F' (looked as) vs
  | [], [], _, _, _, _, _, _ => trivial
  | [], _ :: _, _, _, hl, _, _, _ => by cases hl
  | _ :: _, [], _, _, hl, _, _, _ => by cases hl
  | (t, d) :: as, v :: vs, tm, h, hl, h1, h2, h3 => by
    have q := Tmps.base (as := as) (vs := vs) h
    refine ⟨rfl, ?_, looks_of (as := as) (vs := vs) (tm := ⟨t, v, d⟩ :: tm) h (by simpa using hl) h1 (fun a j hj => h2 a j (by simp at hj; omega)) fun a i hi => h3 a i (List.mem_append_right _ hi)⟩
    by_cases hf : d.flat = true
    · obtain ⟨_, _, r⟩ := q.1.rep
      exact r.flat0 hf
    · have h4 := q.1
      unfold TmpOk at h4
      cases t with
      | own k => exact Cell.ice h4 h1 fun a ha => h2 a _ (Nat.le_refl _) ha
      | bor i b => exact Cell.ice h4 h1 fun a ha => h3 a i (by unfold others; rw [nrm, if_neg hf]; exact List.mem_append_left _ (List.mem_singleton.mpr rfl)) ha
theorem freeze_get : ∀ {os : List Nat} {e : Env} {i k : Nat} {d : D}, (freeze e os)[i]? = some (some (k, d)) → (∃ k', e[i]? = some (some (k', d)) ∧ ((i ∉ os ∧ k' = k) ∨ (k = 0 ∧ i ∈ os)))
  | [], e, i, k, d, h => ⟨k, h, .inl ⟨by simp, rfl⟩⟩
  | o :: os, e, i, k, d, h => by
    unfold freeze at h
    obtain ⟨k', h1, h2⟩ := freeze_get (os := os) h
    cases q : e.get o with
    | none =>
      rw [q] at h1
      refine ⟨k', h1, ?_⟩
      rcases h2 with ⟨h2, h3⟩ | ⟨h2, h3⟩
      · by_cases z : i = o
        · subst z
          unfold Env.get at q
          dsimp only at h1
          rw [h1] at q; cases q
        · exact .inl ⟨by simp [z, h2], h3⟩
      · exact .inr ⟨h2, by simp [h3]⟩
    | some kd =>
      obtain ⟨k0, d0⟩ := kd
      rw [q] at h1
      dsimp only at h1
      by_cases z : i = o
      · subst z
        rw [List.getElem?_set_self (get_lt q)] at h1
        cases h1
        refine ⟨k0, get_env q, .inr ⟨?_, by simp⟩⟩
        rcases h2 with ⟨_, h3⟩ | ⟨h2, _⟩
        · exact h3.symm
        · exact h2
      · rw [List.getElem?_set_ne (Ne.symm z)] at h1
        refine ⟨k', h1, ?_⟩
        rcases h2 with ⟨h2, h3⟩ | ⟨h2, h3⟩
        · exact .inl ⟨by simp [z, h2], h3⟩
        · exact .inr ⟨h2, by simp [h3]⟩
theorem freeze_length : ∀ {os : List Nat} {e : Env}, (freeze e os).length = e.length
  | [], _ => rfl
  | o :: os, e => by
    unfold freeze
    rw [freeze_length]
    split
    · rw [List.length_set]
    · rfl
theorem disj_not {a b : List Nat} (h : disj a b = true) : ∀ x ∈ a, x ∉ b := fun x hx hb => by
  have := List.all_eq_true.mp h x hx
  rw [List.contains_iff_mem.mpr hb] at this
  cases this
def eoOf (e : Env) : Option Nat → Option (Nat × D) → Env
  | some i, some o => e.set i (some o)
  | _, _ => e
theorem St.call (s : St fr σ H e tm F lab) {bs os : List Nat} (sb : Sub fr tm bs) {io : Option Nat} (ho : ∀ i, io = some i → i ∉ bs ∧ i ∉ os) {F1 P : Addr → Prop}
    (hP : ∀ a, P a ↔ ∃ i, io = some i ∧ lab a = some (.s i)) (hF : ∀ a, F1 a ↔ F a ∨ (∃ j, tm.length ≤ j ∧ lab a = some (.t j)) ∨ ∃ i, i ∈ os ∧ lab a = some (.s i))
    {vs : List V} {ino : Bool} {out : Option (Nat × D)} (hio : ino = io.isSome) (hv : ∀ i, io = some i → ∃ u, σ[i]? = some (some u) ∧ vs.head? = some u) {eo : Env} (heo : eo = eoOf e io out) (hout : out.isSome = ino)
    {own : Bool} (hown : own = true → D.within k d = true ∧ ∀ o, out = some o → D.within o.1 o.2 = true) {e' : Env} {t' : Tg} (hl : landE bs os k d eo own = .ok (t', d, e')) (x : Exit (frOf fr.K H F1 P ino vs) H' v k d out) :
    Rl fr σ H' e' (⟨t', v, d⟩ :: tm) := by
  obtain ⟨F', lab', g, c, co⟩ := x
  classical
  have lH : ∀ a l, lab a = some l → H a ≠ none := fun a l h z => by obtain ⟨xs, q⟩ := s.good.lt a l h; rw [z] at q; cases q
  have new' : ∀ a l, lab' a = some l → P a ∨ H a = none := fun a l h => g.lnew a l h
  have notP : ∀ a l, lab a = some l → (∀ i, io = some i → l ≠ .s i) → ¬ P a := fun a l h hn hp => by
    obtain ⟨i, h1, h2⟩ := (hP a).mp hp
    exact hn i h1 (Option.some.inj (h.symm.trans h2))
  have kp : Keeps P H H' := fun a o h hn => g.keep a o h hn
  have lP : Lists P H := fun a hp o h => by
    obtain ⟨i, _, h2⟩ := (hP a).mp hp
    obtain ⟨xs, q⟩ := s.good.lt a _ h2
    rw [h] at q; cases q; exact ⟨xs, rfl⟩
  have FP : ∀ a, F a → ¬ P a := fun a h hp => by
    obtain ⟨i, _, h2⟩ := (hP a).mp hp
    have := s.good.fl a h
    rw [this] at h2; cases h2
  have F1F' : ∀ a, F1 a → F' a := g.f0
  have nl : ∀ a l, lab a = some l → ¬ P a → lab' a = none := fun a l h hn => by
    cases q : lab' a with
    | none => rfl
    | some l' => exact absurd (new' a l' q) (by rintro (z | z); exact hn z; exact lH a l h z)
  have hH0 : ∀ a o, fr.H0 a = some o → ¬ fr.P0 a → H' a = some o := fun a o h hn => by
    refine kp a o (s.good.keep a o h hn) fun hp => ?_
    obtain ⟨i, _, h2⟩ := (hP a).mp hp
    rcases s.good.lnew a _ h2 with z | z
    · exact hn z
    · rw [h] at z; cases z
  have hth : ∀ a, fr.H0 a ≠ none → H' a ≠ none := fun a h => g.there a (s.good.there a h)
  have fresh : ∀ a, H a = none → fr.H0 a = none := fun a h => by
    cases q : fr.H0 a with
    | none => rfl
    | some o => exact absurd h (s.good.there a (by rw [q]; simp))
  have Pnew : ∀ a, P a → fr.P0 a ∨ fr.H0 a = none := fun a hp => by
    obtain ⟨i, _, h2⟩ := (hP a).mp hp
    exact s.good.lnew a _ h2
  have hp0 : ∀ a, fr.P0 a → ∃ xs, H' a = some (.lst xs) := fun a h => by
    obtain ⟨xs, q⟩ := s.good.p0 a h
    by_cases hp : P a
    · exact g.p0 a hp
    · exact ⟨xs, kp a _ q hp⟩
  have hlt : ∀ a l, lab a = some l → ¬ P a → ∃ xs, H' a = some (.lst xs) := fun a l h hn => by
    obtain ⟨xs, q⟩ := s.good.lt a l h
    exact ⟨xs, kp a _ q hn⟩
  have main : ∀ (F2 Z : Addr → Prop) (os' : List Nat), (∀ a, Z a → (∃ j, tm.length ≤ j ∧ lab a = some (.t j)) ∨ ∃ i, i ∈ os' ∧ lab a = some (.s i)) → (∀ a, F a → F2 a) → (∀ a, F2 a → F a ∨ Z a ∨ P a ∨ H a = none) → (∀ a, F2 a → ∃ xs, H' a = some (.lst xs)) →
      (∀ a, F2 a → lab' a = none) → (∀ i ∈ os', ∀ a, lab a = some (.s i) → F2 a) → (∀ i ∈ os', i ∈ os) → (∀ i ∈ os', i ∉ bs) → (∀ i, io = some i → i ∉ os') → Cell fr.K H' F2 lab' (.t 0) k v d → (∀ o, out = some o → ∃ u, vs.head? = some u ∧ Cell fr.K H' F2 lab' (.s 0) o.1 u o.2) →
      Rl fr σ H' (freeze eo os') (⟨nrm (.own k) d, v, d⟩ :: tm) := fun F2 Z os' hZ hFF hF2 hF2l hF2n hfz hos hobs hio' cr cout => by
    have kl : ∀ a l, lab a = some l → (∀ i, io = some i → l ≠ .s i) → ¬ Z a → (if lab' a = some (.t 0) then some (Lb.t tm.length) else if lab' a = some (.s 0) then (io.map Lb.s) else if P a then none else if Z a then none else lab a) = some l ∧ ¬ P a := fun a l h hn hz => by
      have hp := notP a l h hn
      have hn' := nl a l h hp
      rw [hn', if_neg (by simp), if_neg (by simp), if_neg hp, if_neg hz]
      exact ⟨h, hp⟩
    refine Rl.nrm ⟨F2, fun a => if lab' a = some (.t 0) then some (Lb.t tm.length) else if lab' a = some (.s 0) then (io.map Lb.s) else if P a then none else if Z a then none else lab a,
      ⟨fun a h => hFF a (s.good.f0 a h), fun a h => ?_, fun a h => ?_, hF2l, fun a l h => ?_, fun a l h => ?_, hH0, hth, hp0, s.good.ftup, fun q hq => ?_⟩, ⟨?_, fun i' k' d' h' => ?_⟩, ?_, ?_⟩
    · rcases hF2 a h with z | z | z | z
      · exact s.good.fnew a z
      · rcases hZ a z with ⟨j, _, q⟩ | ⟨i, _, q⟩ <;> exact .inr (s.good.lnew a _ q)
      · exact .inr (Pnew a z)
      · exact .inr (.inr (fresh a z))
    · show (if lab' a = some (.t 0) then some (Lb.t tm.length) else if lab' a = some (.s 0) then (io.map Lb.s) else if P a then none else if Z a then none else lab a) = none
      rw [hF2n a h, if_neg (by simp), if_neg (by simp)]
      split
      · rfl
      · split
        · rfl
        · rename_i hp hz
          rcases hF2 a h with z | z | z | z
          · exact s.good.fl a z
          · exact absurd z hz
          · exact absurd z hp
          · cases q : lab a with
            | none => rfl
            | some l => exact absurd z (lH a l q)
    · have h' : (if lab' a = some (.t 0) then some (Lb.t tm.length) else if lab' a = some (.s 0) then (io.map Lb.s) else if P a then none else if Z a then none else lab a) = some l := h
      split at h'
      · rename_i q; exact g.lt a _ q
      · split at h'
        · rename_i q; exact g.lt a _ q
        · split at h'
          · cases h'
          · split at h'
            · cases h'
            · rename_i hp _; exact hlt a l h' hp
    · have h' : (if lab' a = some (.t 0) then some (Lb.t tm.length) else if lab' a = some (.s 0) then (io.map Lb.s) else if P a then none else if Z a then none else lab a) = some l := h
      have via : ∀ l', lab' a = some l' → fr.P0 a ∨ fr.H0 a = none := fun l' q => by
        rcases new' a l' q with z | z
        · exact Pnew a z
        · exact .inr (fresh a z)
      split at h'
      · rename_i q; exact via _ q
      · split at h'
        · rename_i q; exact via _ q
        · split at h'
          · cases h'
          · split at h'
            · cases h'
            · exact s.good.lnew a l h'
    · have qb : q.i ∈ bs := sb.2.1 q hq
      have key : ∀ a, lab a = some (.s q.i) → _ := fun a h => kl a _ h (fun i hi z => (ho i hi).1 (Lb.s.inj z ▸ qb)) (fun hz => by
        rcases hZ a hz with ⟨j, _, z⟩ | ⟨i, hi, z⟩
        · rw [h] at z; cases z
        · rw [h] at z
          have := Lb.s.inj (Option.some.inj z)
          exact hobs i hi (this ▸ qb))
      exact (s.good.pth q hq).keep (fun a o h hh => kp a o hh (key a h).2) fun a h => (key a h).1
    · rw [freeze_length, heo]
      cases io with
      | none => exact s.slots.1
      | some i =>
        cases out with
        | none => exact s.slots.1
        | some o =>
          show _ = (List.set e i (some o)).length
          rw [List.length_set]; exact s.slots.1
    · obtain ⟨k0, h1, h2⟩ := freeze_get h'
      by_cases hi : io = some i'
      · -- the handed slot
        obtain ⟨u, hu1, hu2⟩ := hv i' hi
        have hne : i' ∉ os' := hio' i' hi
        obtain rfl : k0 = k' := by
          rcases h2 with ⟨_, z⟩ | ⟨_, z⟩
          · exact z
          · exact absurd z hne
        have ho2 : out.isSome = true := by rw [hout, hio, hi]; rfl
        obtain ⟨o, ho3⟩ := Option.isSome_iff_exists.mp ho2
        subst heo
        rw [hi, ho3] at h1
        simp only [eoOf] at h1
        have hlt' : i' < e.length := by
          have h0 : i' < σ.length := (List.getElem?_eq_some_iff.mp hu1).1
          rw [s.slots.1] at h0
          exact h0
        rw [List.getElem?_set_self hlt'] at h1
        cases h1
        obtain ⟨u', hu3, cc⟩ := cout _ ho3
        rw [hu2] at hu3; cases hu3
        obtain ⟨fp, r, nd, hl'⟩ := cc
        refine ⟨u, hu1, fp, r, nd, fun a ha => ?_⟩
        show (if lab' a = some (.t 0) then some (Lb.t tm.length) else if lab' a = some (.s 0) then (io.map Lb.s) else if P a then none else if Z a then none else lab a) = _
        rw [hl' a ha, if_neg (by simp), if_pos rfl, hi]; rfl
      · have h1' : e[i']? = some (some (k0, d')) := by
          rw [heo] at h1
          cases hio2 : io with
          | none => rw [hio2] at h1; exact h1
          | some i =>
            rw [hio2] at h1
            cases hout2 : out with
            | none => rw [hout2] at h1; exact h1
            | some o =>
              rw [hout2] at h1
              simp only [eoOf] at h1
              rw [List.getElem?_set_ne (fun z => hi (by rw [hio2, z]))] at h1
              exact h1
        obtain ⟨v', q1, q2⟩ := s.slots.2 i' k0 d' h1'
        refine ⟨v', q1, ?_⟩
        rcases h2 with ⟨h2, rfl⟩ | ⟨rfl, h2⟩
        · refine q2.keep kp lP FP hFF fun a ha => ?_
          have := kl a _ ha (fun i hii z => hi (by rw [hii, Lb.s.inj z])) (fun hz => by
            rcases hZ a hz with ⟨j, _, z⟩ | ⟨i, hi, z⟩
            · rw [ha] at z; cases z
            · rw [ha] at z
              have := Lb.s.inj (Option.some.inj z)
              exact h2 (this ▸ hi))
          exact ⟨this.2, this.1⟩
        · obtain ⟨fp, r, nd, hl'⟩ := q2
          have r' : Rep fr.K H' F2 k0 v' d' fp := r.keep kp lP FP hFF fun a ha => notP a _ (hl' a ha) fun i hii z => hi (by rw [hii, Lb.s.inj z])
          exact ⟨[], r'.ice nd (fun _ z => z) fun a ha => hfz i' h2 a (hl' a ha), List.nodup_nil, by simp⟩
    · obtain ⟨fp, r, nd, hl'⟩ := cr
      refine ⟨fp, r, nd, fun a ha => ?_⟩
      show (if lab' a = some (.t 0) then some (Lb.t tm.length) else if lab' a = some (.s 0) then (io.map Lb.s) else if P a then none else if Z a then none else lab a) = _
      rw [if_pos (hl' a ha)]
    · refine s.tmps.keep kp lP FP hFF fun a l h z => ?_
      have := kl a l h (fun i hii y => by
        rcases z with ⟨n, _, rfl⟩ | ⟨c, hc, i', hi', rfl⟩
        · cases y
        · exact (ho i hii).1 (Lb.s.inj y ▸ sb.1 c hc i' hi')) (fun hz => by
        rcases hZ a hz with ⟨j, hj, y⟩ | ⟨i, hi, y⟩
        · rw [h] at y
          have y := Option.some.inj y
          rcases z with ⟨n, hn, rfl⟩ | ⟨c, hc, i', hi', rfl⟩
          · cases y; omega
          · cases y
        · rw [h] at y
          have y := Option.some.inj y
          rcases z with ⟨n, hn, rfl⟩ | ⟨c, hc, i', hi', rfl⟩
          · cases y
          · exact hobs i hi (Lb.s.inj y ▸ sb.1 c hc i' hi'))
      exact ⟨this.2, this.1⟩
  have hfix : ∀ o, out = some o → ∃ q ∈ (frOf fr.K H F1 P ino vs).fix, Cell fr.K H' F' lab' (.s 0) o.1 q.2 o.2 := fun o h => by subst h; exact co
  have hhead : ∀ q ∈ (frOf fr.K H F1 P ino vs).fix, vs.head? = some q.2 := fun q hq => by
    unfold frOf at hq
    cases ino with
    | false => simp at hq
    | true =>
      cases vs with
      | nil => simp at hq
      | cons u us => simp at hq; subst hq; rfl
  unfold landE at hl
  cases own with
  | true =>
    obtain ⟨w1, w2⟩ := hown rfl
    rw [if_pos rfl] at hl
    cases hl
    have c2 : Cell fr.K H' F lab' (.t 0) k v d := by
      obtain ⟨fp, r, nd, hl'⟩ := c
      exact ⟨fp, r.of_within w1 _, nd, hl'⟩
    refine main F (fun _ => False) [] (fun _ z => z.elim) (fun _ h => h) (fun a h => .inl h) (fun a h => ?_) (fun a h => ?_) (fun i hi => by simp at hi) (fun i hi => by simp at hi) (fun i hi => by simp at hi) (fun i _ => by simp) c2 (fun o h => ?_)
    · obtain ⟨xs, q⟩ := s.good.ft a h
      exact ⟨xs, kp a _ q (FP a h)⟩
    · exact g.fl a (F1F' a ((hF a).mpr (.inl h)))
    · obtain ⟨q, hq, cc⟩ := hfix o h
      obtain ⟨fp, r, nd, hl'⟩ := cc
      exact ⟨q.2, hhead q hq, fp, r.of_within (w2 o h) _, nd, hl'⟩
  | false =>
    rw [if_neg (by simp)] at hl
    by_cases hd : disj os bs = true
    · rw [if_pos hd] at hl
      cases hl
      refine main F' (fun a => F1 a ∧ ¬ F a) os (fun a h => ?_) (fun a h => F1F' a ((hF a).mpr (.inl h))) (fun a h => ?_) g.ft g.fl (fun i hi a h => F1F' a ((hF a).mpr (.inr (.inr ⟨i, hi, h⟩)))) (fun i hi => hi) (disj_not hd) (fun i hi => (ho i hi).2) c (fun o h => ?_)
      · rcases (hF a).mp h.1 with z | z | z
        · exact absurd z h.2
        · exact .inl z
        · exact .inr z
      · rcases g.fnew a h with z | z | z
        · by_cases hf : F a
          · exact .inl hf
          · exact .inr (.inl ⟨z, hf⟩)
        · exact .inr (.inr (.inl z))
        · exact .inr (.inr (.inr z))
      · obtain ⟨q, hq, cc⟩ := hfix o h
        exact ⟨q.2, hhead q hq, cc⟩
    · rw [if_neg hd] at hl
      cases hl
end
end VI
set_option autoImplicit true
set_option Elab.async false
set_option linter.all false
set_option maxRecDepth 100000
set_option maxHeartbeats 4000000
namespace VI
open PySem PySem.Spec PyProof.Rows L2
abbrev EvT := Str → List D → Value → Option Addr → Hp → Prop
def OkR {α : Type} (P : α → Prop) (Z : Str → List D → Env → Prop) : R α → Prop
  | .ok x => P x
  | .exn c xs e => Z c xs e
  | .bad => False
section
variable {α β : Type} {P P' : α → Prop} {Z Z' : Str → List D → Env → Prop} {r : R α}
theorem OkR.mono (h : OkR P Z r) (m : ∀ x, r = .ok x → P x → P' x) (mz : ∀ c xs e, Z c xs e → Z' c xs e) : OkR P' Z' r := by
  cases r with
  | ok x => exact m x rfl h
  | exn c xs e => exact mz c xs e h
  | bad => exact h
theorem OkR.bind {P : β → Prop} {f : α → R β} (h : OkR P Z (r.bind f)) : OkR (fun x => OkR P Z (f x)) Z r := by
  cases r with
  | ok x => exact h
  | exn c xs e => exact h
  | bad => exact h
theorem OkR.okMv {o : Option α} (h : OkR P Z (VI.okM o)) : ∃ a, o = some a ∧ P a := by
  cases o with
  | none => exact h.elim
  | some a => exact ⟨a, rfl, h⟩
theorem OkR.okMb {P : β → Prop} {f : α → R β} {o : Option α} (h : OkR P Z ((VI.okM o).bind f)) : ∃ a, o = some a ∧ OkR P Z (f a) := by
  cases o with
  | none => exact h.elim
  | some a => exact ⟨a, rfl, h⟩
theorem OkR.guard {b : Bool} (h : OkR P Z (guardR b r)) : b = true ∧ OkR P Z r := by
  cases b with
  | false => exact h.elim
  | true => exact ⟨rfl, h⟩
end
section
variable (W : WX) (Ev : EvT) (Γ : Sm) (K : PySem.W.Frag)
def Zx (fr : Fr) (σ : L2.St) (tm : List Tmp) : Str → List D → Env → Prop := fun c xs e => ∀ cv dd H', Ev c xs cv dd H' → Rl fr σ H' e tm → W cv dd σ H'
def OkE (fr : Fr) (σ : L2.St) (tm : List Tmp) (Q : VK) : R (Tg × D × Env) → Prop := OkR (fun x => ∀ v H', Rl fr σ H' x.2.2 (⟨x.1, v, x.2.1⟩ :: tm) → Q v H') (Zx W Ev fr σ tm)
def rdE (c : CE) : TE := fun σ H Q => ∃ fr e tm bs, fr.K = K ∧ Rl fr σ H e tm ∧ Sub fr tm bs ∧ OkE W Ev fr σ tm Q (evE Γ c bs e)
def rdT (c : CE) : TT := fun σ H Q => ∃ fr e tm bs, fr.K = K ∧ Rl fr σ H e tm ∧ Sub fr tm bs ∧ OkR (fun x => ∀ H', Rl fr σ H' x.2 tm → Q x.1 H') (Zx W Ev fr σ tm) (tst (evE Γ c bs e))
def rdA (es : CEs) : TA := fun σ H Q => ∃ fr e tm bs, fr.K = K ∧ Rl fr σ H e tm ∧ Sub fr tm bs ∧ OkR (fun x => ∀ vs H', x.1.length = vs.length → Rl fr σ H' x.2 (pushAll x.1 vs tm) → Q vs H') (Zx W Ev fr σ tm) (evEs Γ es bs e)
def rdO1 (c : CE) : TO := fun σ H Q => ∃ fr e tm bs, fr.K = K ∧ Rl fr σ H e tm ∧ Sub fr tm bs ∧ OkR (fun x => ∀ H', Rl fr σ H' x.2 tm → Q x.1 H') (Zx W Ev fr σ tm) (part c.isNop (evE Γ c bs e) e)
def rdP (c : CE) : TE := fun σ H Q => ∃ fr e tm bs, fr.K = K ∧ Rl fr σ H e tm ∧ Sub fr tm bs ∧ OkR (fun x => ∀ v H' r, σ[x.1]? = some (some r) → Rl { fr with pts := ⟨x.1, r, x.2.1, v⟩ :: fr.pts } σ H' x.2.2 tm → Q v H') (Zx W Ev fr σ tm) (evP Γ c bs e)
end
theorem peI {X : Cx} {e : Expr} {t t' : TE} (h : PE X e t) (m : ∀ σ H Q, t' σ H Q → t σ H Q) : PE X e t' := ⟨fun pins s σ H Q I hw => h.run pins s σ H Q I (m _ _ _ hw)⟩
theorem ptI {X : Cx} {e : Expr} {t t' : TT} (h : PT X e t) (m : ∀ σ H Q, t' σ H Q → t σ H Q) : PT X e t' := ⟨fun pins s σ H Q I hw => h.run pins s σ H Q I (m _ _ _ hw)⟩
theorem pwI {X : Cx} {e : Expr} {t t' : TT} (h : PW X e t) (m : ∀ σ H Q, t' σ H Q → t σ H Q) : PW X e t' := ⟨fun w pins s σ H Q I hw => h.run w pins s σ H Q I (m _ _ _ hw)⟩
theorem paI {X : Cx} {es : List Expr} {t t' : TA} (h : PA X es t) (m : ∀ σ H Q, t' σ H Q → t σ H Q) : PA X es t' := ⟨fun p pins s σ H Q I hw => h.run p pins s σ H Q I (m _ _ _ hw)⟩
theorem poI {X : Cx} {e : Option Expr} {t t' : TO} (h : PO X e t) (m : ∀ σ H Q, t' σ H Q → t σ H Q) : PO X e t' := ⟨fun pins s σ H Q I hw => h.run pins s σ H Q I (m _ _ _ hw)⟩
section
variable {W : WX} {Ev : EvT} {Γ : Sm} {K : PySem.W.Frag} {X : Cx} {fr : Fr} {σ : L2.St} {H H' : Hp} {e : Env} {tm : List Tmp} {t : Tg} {v : V} {d : D} {c : Tmp}
theorem Zx.drop {cl : Str} {xs : List D} (h : Zx W Ev fr σ tm cl xs e) : Zx W Ev fr σ (c :: tm) cl xs e := fun cv dd H' ev r => h cv dd H' ev r.drop
theorem Zx.dropAll {as : List (Tg × D)} {vs : List V} {cl : Str} {xs : List D} (h : Zx W Ev fr σ tm cl xs e) : Zx W Ev fr σ (pushAll as vs tm) cl xs e := fun cv dd H' ev r => h cv dd H' ev r.dropAll
theorem rd_int {i : Int} {j pos} : PE X (.Constant (.int i) j pos) (rdE W Ev Γ X.K (.int i)) := peI pe_int fun σ H Q ⟨fr, e, tm, bs, hK, s, sb, ok⟩ => ok _ _ (s.sc rfl)
theorem rd_bl {i : Bool} {j pos} : PE X (.Constant (.bool i) j pos) (rdE W Ev Γ X.K (.bl i)) := peI pe_bl fun σ H Q ⟨fr, e, tm, bs, hK, s, sb, ok⟩ => ok _ _ (s.sc rfl)
theorem rd_str {i : Str} {j pos} : PE X (.Constant (.str i) j pos) (rdE W Ev Γ X.K (.str i)) := peI pe_str fun σ H Q ⟨fr, e, tm, bs, hK, s, sb, ok⟩ => ok _ _ (s.sc rfl)
theorem rd_non {j pos} : PE X (.Constant .none j pos) (rdE W Ev Γ X.K .non) := peI pe_non fun σ H Q ⟨fr, e, tm, bs, hK, s, sb, ok⟩ => ok _ _ (s.sc rfl)
variable {i k : Nat} {x : Str} {pos : Pos}
theorem rd_var (h : PE X (.Name x pos) (tVar i)) : PE X (.Name x pos) (rdE W Ev Γ X.K (.var i)) := peI h fun σ H Q ⟨fr, e, tm, bs, hK, s, sb, ok⟩ => by
  simp only [evE] at ok
  cases q : e.get i with
  | none => rw [q] at ok; exact ok.elim
  | some kd =>
    obtain ⟨k, d⟩ := kd
    rw [q] at ok
    obtain ⟨v, h1, h2⟩ := s.var q
    exact ⟨v, h1, ok v H h2⟩
theorem rd_mv (h : PE X (.Name x pos) (tVar i)) : PE X (.Name x pos) (rdE W Ev Γ X.K (.mv i)) := peI h fun σ H Q ⟨fr, e, tm, bs, hK, s, sb, ok⟩ => by
  simp only [evE] at ok
  cases q : e.get i with
  | none => rw [q] at ok; exact ok.elim
  | some kd =>
    obtain ⟨k, d⟩ := kd
    rw [q] at ok
    obtain ⟨g, ok⟩ := OkR.guard ok
    obtain ⟨v, h1, h2⟩ := s.mv q (sb.off (by simpa using g))
    exact ⟨v, h1, ok v H h2⟩
theorem rd_fz (h : PE X (.Name x pos) (tVar i)) : PE X (.Name x pos) (rdE W Ev Γ X.K (.fz i k)) := peI h fun σ H Q ⟨fr, e, tm, bs, hK, s, sb, ok⟩ => by
  simp only [evE] at ok
  cases q : e.get i with
  | none => rw [q] at ok; exact ok.elim
  | some kd =>
    obtain ⟨j, d⟩ := kd
    rw [q] at ok
    dsimp only at ok
    split at ok
    · obtain ⟨v, h1, h2⟩ := s.var q
      exact ⟨v, h1, ok v H h2⟩
    · rename_i g
      have g' : k ≤ j := by
        simp only [Bool.or_eq_true, decide_eq_true_eq, not_or] at g
        omega
      obtain ⟨g, ok⟩ := OkR.guard ok
      obtain ⟨v, h1, h2⟩ := s.fz q (sb.off (by simpa using g)) g'
      exact ⟨v, h1, ok v H h2⟩
variable {a b cc : CE} {ea eb ec : Expr}
theorem bin_imp {op : Operator} {H : Hp} {σ : L2.St} {Q : VK} (h : rdE W Ev Γ K (.bin op a b) σ H Q) : tOp (rd2 K (binV op)) (rdE W Ev Γ K a) (rdE W Ev Γ K b) σ H Q := by
  obtain ⟨fr, e, tm, bs, hK, s, sb, ok⟩ := h
  simp only [evE] at ok
  refine ⟨fr, e, tm, bs, hK, s, sb, (OkR.bind ok).mono (fun x hx ok1 v H1 s1 => ?_) fun _ _ _ z => z⟩
  refine ⟨fr, x.2.2, _, x.1.slots ++ bs, hK, s1, sb.push, (OkR.bind ok1).mono (fun y hy ok2 w H2 s2 => ?_) fun _ _ _ z => z.drop⟩
  obtain ⟨r, hr, ok3⟩ := OkR.okMb ok2
  exact ⟨fr, σ, y.2.2, tm, x.1, x.2.1, y.1, y.2.1, r.1, r.2, hK, s2, hr, fun v H' s => ok3 v H' s⟩
theorem rd_bin {op : Operator} (ha : PE X ea (rdE W Ev Γ X.K a)) (hb : PE X eb (rdE W Ev Γ X.K b)) : PE X (.BinOp ea op eb pos) (rdE W Ev Γ X.K (.bin op a b)) :=
  peI (pe_op (op_bin op) ha hb) fun σ H Q h => bin_imp h
theorem rd_neg (ha : PE X ea (rdE W Ev Γ X.K a)) : PE X (.UnaryOp .USub ea pos) (rdE W Ev Γ X.K (.neg a)) :=
  peI (pe_un un_neg ha) fun σ H Q ⟨fr, e, tm, bs, hK, s, sb, ok⟩ => by
    simp only [evE] at ok
    refine ⟨fr, e, tm, bs, hK, s, sb, (OkR.bind ok).mono (fun x hx ok1 v H1 s1 => ?_) fun _ _ _ z => z⟩
    obtain ⟨t, d, e1⟩ := x
    cases d with
    | int n =>
      obtain rfl := s1.top.int
      exact ⟨n, rfl, ok1 _ _ (s1.drop.sc rfl)⟩
    | _ => exact ok1.elim
theorem cmp_imp {op : CmpOp} {H : Hp} {σ : L2.St} {Q : VK} (h : rdE W Ev Γ K (.cmp op a b) σ H Q) : tOp (rdC K op) (rdE W Ev Γ K a) (rdE W Ev Γ K b) σ H Q := by
  obtain ⟨fr, e, tm, bs, hK, s, sb, ok⟩ := h
  simp only [evE] at ok
  refine ⟨fr, e, tm, bs, hK, s, sb, (OkR.bind ok).mono (fun x hx ok1 v H1 s1 => ?_) fun _ _ _ z => z⟩
  refine ⟨fr, x.2.2, _, x.1.slots ++ bs, hK, s1, sb.push, (OkR.bind ok1).mono (fun y hy ok2 w H2 s2 => ?_) fun _ _ _ z => z.drop⟩
  obtain ⟨r, hr, ok3⟩ := OkR.okMb ok2
  exact ⟨x.2.1, y.2.1, r, hK ▸ s2.snd, hK ▸ s2.top, hr, ok3 _ _ (s2.drop.drop.sc rfl)⟩
theorem rd_cmp {op : CmpOp} (hu : X.A.units + 65 < cLine) (ha : PE X ea (rdE W Ev Γ X.K a)) (hb : PE X eb (rdE W Ev Γ X.K b)) (hm : behindInMarks op eb = false) : PE X (.Compare ea [op] [eb] pos) (rdE W Ev Γ X.K (.cmp op a b)) :=
  peI (pe_cmpR (op_cmp hu op) ha hb hm) fun σ H Q h => cmp_imp h
theorem rdT.val {H : Hp} {σ : L2.St} {Q : Bool → Hp → Prop} (h : rdT W Ev Γ K a σ H Q) : rdE W Ev Γ K a σ H (fun v H' => ∃ k, TruV K v H' k ∧ Q k H') := by
  obtain ⟨fr, e, tm, bs, hK, s, sb, ok⟩ := h
  refine ⟨fr, e, tm, bs, hK, s, sb, (OkR.bind ok).mono (fun x hx ok1 v H1 s1 => ?_) fun _ _ _ z => z⟩
  obtain ⟨r, hr, ok2⟩ := OkR.okMb ok1
  exact ⟨r, tru_of (hK ▸ s1.top) hr, ok2 H1 s1.drop⟩
theorem rdT.valB {H : Hp} {σ : L2.St} {Q : Bool → Hp → Prop} (h : rdT W Ev Γ K a σ H Q) (hb : ∀ bs e x, evE Γ a bs e = .ok x → ∃ k, x.2.1 = .bl k) : rdE W Ev Γ K a σ H (fun v H' => ∃ k, v = .bl k ∧ Q k H') := by
  obtain ⟨fr, e, tm, bs, hK, s, sb, ok⟩ := h
  refine ⟨fr, e, tm, bs, hK, s, sb, (OkR.bind ok).mono (fun x hx ok1 v H1 s1 => ?_) fun _ _ _ z => z⟩
  obtain ⟨k, hk⟩ := hb _ _ _ hx
  obtain ⟨r, hr, ok2⟩ := OkR.okMb ok1
  obtain ⟨t, d, e1⟩ := x
  cases hk
  cases hr
  exact ⟨k, s1.top.bl, ok2 H1 s1.drop⟩
theorem bind_ok {α β : Type} {r : R α} {f : α → R β} {y : β} (h : r.bind f = .ok y) : ∃ x, r = .ok x ∧ f x = .ok y := by
  cases r with
  | ok x => exact ⟨x, rfl, h⟩
  | exn => cases h
  | bad => cases h
theorem okM_ok {α β : Type} {o : Option α} {f : α → R β} {y : β} (h : (okM o).bind f = .ok y) : ∃ x, o = some x ∧ f x = .ok y := by
  cases o with
  | none => cases h
  | some x => exact ⟨x, rfl, h⟩
theorem cmp_bl {op : CmpOp} {bs : List Nat} {e : Env} {x} (h : evE Γ (.cmp op a b) bs e = .ok x) : ∃ k, x.2.1 = .bl k := by
  simp only [evE] at h
  obtain ⟨_, _, h⟩ := bind_ok h
  obtain ⟨_, _, h⟩ := bind_ok h
  obtain ⟨r, _, h⟩ := okM_ok h
  cases h
  exact ⟨r, rfl⟩
theorem rdT_cmp {op : CmpOp} (hu : X.A.units + 65 < cLine) (ha : PE X ea (rdE W Ev Γ X.K a)) (hb : PE X eb (rdE W Ev Γ X.K b)) (hm : behindInMarks op eb = false) : PT X (.Compare ea [op] [eb] pos) (rdT W Ev Γ X.K (.cmp op a b)) :=
  ptI (pt_cmpR (op_cmp hu op) ha hb hm) fun σ H Q h => cmp_imp (h.valB fun _ _ _ q => cmp_bl q)
theorem rdT_plain (ha : PE X ea (rdE W Ev Γ X.K a)) (he : ∀ whole, isTrue ea X.env whole = (do let v ← whole; standAt ea.pos; holding [v] (truthy v))) : PT X ea (rdT W Ev Γ X.K a) :=
  ptI (pt_truth ha he) fun σ H Q h => h.val
theorem chn_imp {o1 o2 : CmpOp} {H : Hp} {σ : L2.St} {Q : VK} (h : rdE W Ev Γ K (.chn o1 o2 a b cc) σ H Q) : tChain (rdC K o1) (rdC K o2) (rdE W Ev Γ K a) (rdE W Ev Γ K b) (rdE W Ev Γ K cc) σ H Q := by
  obtain ⟨fr, e, tm, bs, hK, s, sb, ok⟩ := h
  simp only [evE] at ok
  refine ⟨fr, e, tm, bs, hK, s, sb, (OkR.bind ok).mono (fun x hx ok1 v H1 s1 => ?_) fun _ _ _ z => z⟩
  refine ⟨fr, x.2.2, _, x.1.slots ++ bs, hK, s1, sb.push, (OkR.bind ok1).mono (fun y hy ok2 w H2 s2 => ?_) fun _ _ _ z => z.drop⟩
  obtain ⟨r, hr, ok3⟩ := OkR.okMb ok2
  refine ⟨x.2.1, y.2.1, r, hK ▸ s2.snd, hK ▸ s2.top, hr, r, rfl, ?_⟩
  cases r with
  | false => exact ok3 _ _ (s2.drop.drop.sc rfl)
  | true =>
    refine ⟨fr, y.2.2, _, y.1.slots ++ (x.1.slots ++ bs), hK, s2, sb.push.push, (OkR.bind ok3).mono (fun z hz ok4 u H3 s3 => ?_) fun _ _ _ z => z.drop.drop⟩
    obtain ⟨q, hq, ok5⟩ := OkR.okMb ok4
    exact ⟨y.2.1, z.2.1, q, hK ▸ s3.drop.top, hK ▸ s3.top, hq, ok5 _ _ (s3.drop.drop.drop.sc rfl)⟩
theorem chn_bl {o1 o2 : CmpOp} {bs : List Nat} {e : Env} {x} (h : evE Γ (.chn o1 o2 a b cc) bs e = .ok x) : ∃ k, x.2.1 = .bl k := by
  simp only [evE] at h
  obtain ⟨_, _, h⟩ := bind_ok h
  obtain ⟨_, _, h⟩ := bind_ok h
  obtain ⟨r, _, h⟩ := okM_ok h
  cases r with
  | false => cases h; exact ⟨_, rfl⟩
  | true =>
    obtain ⟨_, _, h⟩ := bind_ok h
    obtain ⟨q, _, h⟩ := okM_ok h
    cases h
    exact ⟨q, rfl⟩
theorem rd_chn {o1 o2 : CmpOp} (hu : X.A.units + 65 < cLine) (ha : PE X ea (rdE W Ev Γ X.K a)) (hb : PE X eb (rdE W Ev Γ X.K b)) (hc : PE X ec (rdE W Ev Γ X.K cc)) (hm : lastMarks [o1, o2] [eb, ec] = false) : PE X (.Compare ea [o1, o2] [eb, ec] pos) (rdE W Ev Γ X.K (.chn o1 o2 a b cc)) :=
  peI (pe_chain (op_cmp hu o1) (op_cmp hu o2) ha hb hc hm) fun σ H Q h => chn_imp h
theorem rdT_chn {o1 o2 : CmpOp} (hu : X.A.units + 65 < cLine) (ha : PE X ea (rdE W Ev Γ X.K a)) (hb : PE X eb (rdE W Ev Γ X.K b)) (hc : PE X ec (rdE W Ev Γ X.K cc)) (hm : lastMarks [o1, o2] [eb, ec] = false) : PT X (.Compare ea [o1, o2] [eb, ec] pos) (rdT W Ev Γ X.K (.chn o1 o2 a b cc)) :=
  ptI (pt_chain (op_cmp hu o1) (op_cmp hu o2) ha hb hc hm) fun σ H Q h => chn_imp (h.valB fun _ _ _ q => chn_bl q)
theorem and_imp {H : Hp} {σ : L2.St} {Q : VK} (h : rdE W Ev Γ K (.and a b) σ H Q) : tAndV (rdE W Ev Γ K a) (rdE W Ev Γ K b) σ H Q := by
  obtain ⟨fr, e, tm, bs, hK, s, sb, ok⟩ := h
  simp only [evE] at ok
  refine ⟨fr, e, tm, bs, hK, s, sb, (OkR.bind ok).mono (fun x hx ok1 v H1 s1 => ?_) fun _ _ _ z => z⟩
  obtain ⟨t, d, e1⟩ := x
  cases d with
  | bl k =>
    refine ⟨k, s1.top.bl, ?_⟩
    cases k with
    | true => exact ⟨fr, e1, tm, bs, hK, s1.drop, sb, ok1⟩
    | false => exact ok1 _ _ (s1.drop.sc rfl)
  | _ => exact ok1.elim
theorem or_imp {H : Hp} {σ : L2.St} {Q : VK} (h : rdE W Ev Γ K (.or a b) σ H Q) : tOrV (rdE W Ev Γ K a) (rdE W Ev Γ K b) σ H Q := by
  obtain ⟨fr, e, tm, bs, hK, s, sb, ok⟩ := h
  simp only [evE] at ok
  refine ⟨fr, e, tm, bs, hK, s, sb, (OkR.bind ok).mono (fun x hx ok1 v H1 s1 => ?_) fun _ _ _ z => z⟩
  obtain ⟨t, d, e1⟩ := x
  cases d with
  | bl k =>
    refine ⟨k, s1.top.bl, ?_⟩
    cases k with
    | false => exact ⟨fr, e1, tm, bs, hK, s1.drop, sb, ok1⟩
    | true => exact ok1 _ _ (s1.drop.sc rfl)
  | _ => exact ok1.elim
theorem not_imp {H : Hp} {σ : L2.St} {Q : VK} (h : rdE W Ev Γ K (.not a) σ H Q) : tNotV (rdE W Ev Γ K a) σ H Q := by
  obtain ⟨fr, e, tm, bs, hK, s, sb, ok⟩ := h
  simp only [evE] at ok
  refine ⟨fr, e, tm, bs, hK, s, sb, (OkR.bind ok).mono (fun x hx ok1 v H1 s1 => ?_) fun _ _ _ z => z⟩
  obtain ⟨t, d, e1⟩ := x
  cases d with
  | bl k => exact ⟨k, s1.top.bl, ok1 _ _ (s1.drop.sc rfl)⟩
  | _ => exact ok1.elim
theorem bind_assoc {α β γ : Type} (r : R α) (f : α → R β) (g : β → R γ) : (r.bind f).bind g = r.bind fun x => (f x).bind g := by cases r <;> rfl
theorem andT_imp {H : Hp} {σ : L2.St} {Q : Bool → Hp → Prop} (h : rdT W Ev Γ K (.and a b) σ H Q) : tAnd (rdT W Ev Γ K a) (rdT W Ev Γ K b) σ H Q := by
  obtain ⟨fr, e, tm, bs, hK, s, sb, ok⟩ := h
  simp only [evE, tst, bind_assoc] at ok
  refine ⟨fr, e, tm, bs, hK, s, sb, ?_⟩
  cases hq : evE Γ a bs e with
  | bad => rw [hq] at ok; exact ok
  | exn c xs e1 => rw [hq] at ok; exact ok
  | ok x =>
    rw [hq] at ok
    obtain ⟨t, d, e1⟩ := x
    cases d with
    | bl k =>
      cases k with
      | true => exact fun H' s' => ⟨fr, e1, tm, bs, hK, s', sb, ok⟩
      | false => exact fun H' s' => ok H' s'
    | _ => exact ok.elim
theorem orT_imp {H : Hp} {σ : L2.St} {Q : Bool → Hp → Prop} (h : rdT W Ev Γ K (.or a b) σ H Q) : tOr (rdT W Ev Γ K a) (rdT W Ev Γ K b) σ H Q := by
  obtain ⟨fr, e, tm, bs, hK, s, sb, ok⟩ := h
  simp only [evE, tst, bind_assoc] at ok
  refine ⟨fr, e, tm, bs, hK, s, sb, ?_⟩
  cases hq : evE Γ a bs e with
  | bad => rw [hq] at ok; exact ok
  | exn c xs e1 => rw [hq] at ok; exact ok
  | ok x =>
    rw [hq] at ok
    obtain ⟨t, d, e1⟩ := x
    cases d with
    | bl k =>
      cases k with
      | false => exact fun H' s' => ⟨fr, e1, tm, bs, hK, s', sb, ok⟩
      | true => exact fun H' s' => ok H' s'
    | _ => exact ok.elim
theorem notT_imp {H : Hp} {σ : L2.St} {Q : Bool → Hp → Prop} (h : rdT W Ev Γ K (.not a) σ H Q) : tNot (rdT W Ev Γ K a) σ H Q := by
  obtain ⟨fr, e, tm, bs, hK, s, sb, ok⟩ := h
  simp only [evE, tst, bind_assoc] at ok
  refine ⟨fr, e, tm, bs, hK, s, sb, ?_⟩
  cases hq : evE Γ a bs e with
  | bad => rw [hq] at ok; exact ok
  | exn c xs e1 => rw [hq] at ok; exact ok
  | ok x =>
    rw [hq] at ok
    obtain ⟨t, d, e1⟩ := x
    cases d with
    | bl k => exact fun H' s' => ok H' s'
    | _ => exact ok.elim
theorem ite_imp {H : Hp} {σ : L2.St} {Q : VK} (h : rdE W Ev Γ K (.ite cc a b) σ H Q) : tIf (rdT W Ev Γ K cc) (rdE W Ev Γ K a) (rdE W Ev Γ K b) σ H Q := by
  obtain ⟨fr, e, tm, bs, hK, s, sb, ok⟩ := h
  simp only [evE] at ok
  refine ⟨fr, e, tm, bs, hK, s, sb, ?_⟩
  unfold tst
  cases hq : evE Γ cc bs e with
  | bad => rw [hq] at ok; exact ok
  | exn c xs e1 => rw [hq] at ok; exact ok
  | ok x =>
    rw [hq] at ok
    obtain ⟨r, hr, ok2⟩ := OkR.okMb (show OkR _ _ ((okM (truV x.2.1)).bind fun r => if r = true then evE Γ a bs x.2.2 else evE Γ b bs x.2.2) from ok)
    show OkR _ _ ((okM (truV x.2.1)).bind fun b => .ok (b, x.2.2))
    rw [hr]
    intro H' s'
    cases r with
    | true => exact ⟨fr, x.2.2, tm, bs, hK, s', sb, ok2⟩
    | false => exact ⟨fr, x.2.2, tm, bs, hK, s', sb, ok2⟩
theorem iteT_imp {H : Hp} {σ : L2.St} {Q : Bool → Hp → Prop} (h : rdT W Ev Γ K (.ite cc a b) σ H Q) : rdT W Ev Γ K cc σ H fun c H1 => if c = true then rdT W Ev Γ K a σ H1 Q else rdT W Ev Γ K b σ H1 Q := by
  obtain ⟨fr, e, tm, bs, hK, s, sb, ok⟩ := h
  simp only [evE, tst, bind_assoc] at ok
  refine ⟨fr, e, tm, bs, hK, s, sb, ?_⟩
  unfold tst
  cases hq : evE Γ cc bs e with
  | bad => rw [hq] at ok; exact ok
  | exn c xs e1 => rw [hq] at ok; exact ok
  | ok x =>
    rw [hq] at ok
    obtain ⟨r, hr, ok2⟩ := OkR.okMb (f := fun r => (if r = true then evE Γ a bs x.2.2 else evE Γ b bs x.2.2).bind fun y => (okM (truV y.2.1)).bind fun b => .ok (b, y.2.2)) ok
    show OkR _ _ ((okM (truV x.2.1)).bind fun b => .ok (b, x.2.2))
    rw [hr]
    intro H' s'
    cases r with
    | true => exact ⟨fr, x.2.2, tm, bs, hK, s', sb, ok2⟩
    | false => exact ⟨fr, x.2.2, tm, bs, hK, s', sb, ok2⟩
end
end VI
set_option autoImplicit true
set_option Elab.async false
set_option linter.all false
set_option maxRecDepth 100000
set_option maxHeartbeats 4000000
namespace VI
open PySem PySem.Spec PyProof.Rows L2
section
variable {W : WX} {Ev : EvT} {Γ : Sm} {K : PySem.W.Frag} {X : Cx} {fr : Fr} {σ : L2.St} {H H' : Hp} {e : Env} {tm : List Tmp} {t : Tg} {v : V} {d : D} {c : Tmp} {i k : Nat} {x : Str} {p pos : Pos} {a b cc : CE} {ea eb ec : Expr} {es : CEs} {xs : List Expr} {ta : TA}
theorem args_nil' {Q : List V → Hp → Prop} (h : rdA W Ev Γ K .nil σ H Q) : tNil σ H Q := by
  obtain ⟨fr, e, tm, bs, hK, s, sb, ok⟩ := h
  simp only [evEs] at ok
  exact ok [] H rfl s
theorem args_cons' {Q : List V → Hp → Prop} (h : rdA W Ev Γ K (.cons a es) σ H Q) : tCons (rdE W Ev Γ K a) (rdA W Ev Γ K es) σ H Q := by
  obtain ⟨fr, e, tm, bs, hK, s, sb, ok⟩ := h
  simp only [evEs] at ok
  refine ⟨fr, e, tm, bs, hK, s, sb, (OkR.bind ok).mono (fun x hx ok1 v H1 s1 => ?_) fun _ _ _ z => z⟩
  refine ⟨fr, x.2.2, _, x.1.slots ++ bs, hK, s1, sb.push, (OkR.bind ok1).mono (fun y hy ok2 vs H2 hl s2 => ?_) fun _ _ _ z => z.drop⟩
  exact ok2 (v :: vs) H2 (by simp [hl]) s2
theorem rd_nil : PA X [] (rdA W Ev Γ X.K .nil) := paI pa_nil fun σ H Q h => args_nil' h
theorem rd_cons (ha : PE X ea (rdE W Ev Γ X.K a)) (hr : PA X xs (rdA W Ev Γ X.K es)) (hs : starEach (ea :: xs) X.env = (false, eval ea X.env) :: starEach xs X.env) : PA X (ea :: xs) (rdA W Ev Γ X.K (.cons a es)) :=
  paI (pa_cons ha hr hs) fun σ H Q h => args_cons' h
theorem rd_lst (h : PA X xs (rdA W Ev Γ X.K es)) : PE X (.List xs pos) (rdE W Ev Γ X.K (.lst es)) := peI (pe_lst h) fun σ H Q ⟨fr, e, tm, bs, hK, s, sb, ok⟩ => by
  simp only [evE] at ok
  refine ⟨fr, e, tm, bs, hK, s, sb, (OkR.bind ok).mono (fun x hx ok1 vs H1 hl s1 => ?_) fun _ _ _ z => z⟩
  obtain ⟨k, hk, ok2⟩ := OkR.okMb ok1
  obtain ⟨g, ok3⟩ := OkR.guard ok2
  exact ⟨by rw [← hl]; exact lim_le g, fun p hp => ok3 _ _ (s1.display hl hk hp)⟩
theorem rd_tup {x1 : Nat} (h : PA X xs (rdA W Ev Γ X.K es)) : PE X (.Tuple xs x1 pos) (rdE W Ev Γ X.K (.tup es)) := peI (pe_tupF h) fun σ H Q ⟨fr, e, tm, bs, hK, s, sb, ok⟩ => by
  simp only [evE] at ok
  refine ⟨fr, e, tm, bs, hK, s, sb, (OkR.bind ok).mono (fun x hx ok1 vs H1 hl s1 => ?_) fun _ _ _ z => z⟩
  obtain ⟨k, hk, ok2⟩ := OkR.okMb ok1
  obtain ⟨g, ok3⟩ := OkR.guard ok2
  exact ⟨by rw [← hl]; exact lim_le g, fun o ho p hp => ok3 _ _ (s1.displayT hl hk hp ho).nrm⟩
theorem rd_sub (ha : PE X ea (rdE W Ev Γ X.K a)) (hb : PE X eb (rdE W Ev Γ X.K b)) (hs : PlainIx eb) : PE X (.Subscript ea eb pos) (rdE W Ev Γ X.K (.sub a b)) :=
  peI (pe_ix ix_sub ha hb hs) fun σ H Q ⟨fr, e, tm, bs, hK, s, sb, ok⟩ => by
    simp only [evE] at ok
    refine ⟨fr, e, tm, bs, hK, s, sb, (OkR.bind ok).mono (fun x hx ok1 v H1 s1 => ?_) fun _ _ _ z => z⟩
    refine ⟨fr, x.2.2, _, x.1.slots ++ bs, hK, s1, sb.push, (OkR.bind ok1).mono (fun y hy ok2 w H2 s2 => ?_) fun _ _ _ z => z.drop⟩
    obtain ⟨r, hr, ok3⟩ := OkR.okMb ok2
    exact ⟨fr, σ, y.2.2, tm, x.1, x.2.1, y.1, y.2.1, r.1, r.2, hK, s2, hr, fun v H' s => ok3 v H' s⟩
theorem rd_part0 (ha : a.isNop = true) : PO X none (rdO1 W Ev Γ X.K a) := poI po_none fun σ H Q ⟨fr, e, tm, bs, hK, s, sb, ok⟩ => by
  rw [ha] at ok
  exact ok H s
theorem rd_part1 (hn : a.isNop = false) (ha : PE X ea (rdE W Ev Γ X.K a)) : PO X (some ea) (rdO1 W Ev Γ X.K a) := poI (po_some ha) fun σ H Q ⟨fr, e, tm, bs, hK, s, sb, ok⟩ => by
  rw [hn] at ok
  refine ⟨fr, e, tm, bs, hK, s, sb, (OkR.bind (f := fun y => match y.2.1 with | .int i => .ok (some i, y.2.2) | _ => .bad) ok).mono (fun x hx ok1 v H1 s1 => ?_) fun _ _ _ z => z⟩
  obtain ⟨t, d, e1⟩ := x
  cases d with
  | int n => exact ⟨n, s1.top.int, ok1 H1 s1.drop⟩
  | _ => exact ok1.elim
theorem rd_slc {lo hi : Option Expr} {p2 : Pos} (ha : PE X ea (rdE W Ev Γ X.K a)) (hb : PO X lo (rdO1 W Ev Γ X.K b)) (hc : PO X hi (rdO1 W Ev Γ X.K cc)) : PE X (.Subscript ea (.Slice lo hi none p2) pos) (rdE W Ev Γ X.K (.slc a b cc)) :=
  peI (pe_slice sl_slc ha hb hc) fun σ H Q ⟨fr, e, tm, bs, hK, s, sb, ok⟩ => by
    simp only [evE] at ok
    refine ⟨fr, e, tm, bs, hK, s, sb, (OkR.bind ok).mono (fun x hx ok1 v H1 s1 => ?_) fun _ _ _ z => z⟩
    refine ⟨fr, x.2.2, _, x.1.slots ++ bs, hK, s1, sb.push, (OkR.bind ok1).mono (fun y hy ok2 H2 s2 => ?_) fun _ _ _ z => z.drop⟩
    refine ⟨fr, y.2, _, x.1.slots ++ bs, hK, s2, sb.push, (OkR.bind ok2).mono (fun z hz ok3 H3 s3 => ?_) fun _ _ _ z => z.drop⟩
    obtain ⟨r, hr, ok4⟩ := OkR.okMb ok3
    exact ⟨fr, σ, z.2, tm, x.1, x.2.1, r.1, r.2, hK, s3, hr, fun v H' s => ok4 v H' s⟩
theorem Rl.rev {ds : List D} {q : Addr} {a : Addr} {us : List V} (s : Rl fr σ H e (⟨t, .ref a, .lst ds⟩ :: tm)) (h : H a = some (.lst us)) (hk : keepK t.item ds = some k) (hq : H q = none) : Rl fr σ (upd H q (.lst us.reverse)) e (⟨.own (k + 1), .ref q, .lst ds.reverse⟩ :: tm) := by
  obtain ⟨F, lab, st⟩ := s
  exact st.drop.mkL hq (TmpOk.looseL st.tmps.1 h hk).reverse (by intro i h; omega)
theorem Rl.revT {ds : List D} {q : Addr} {a : Addr} {us : List V} {o : Obj} (s : Rl fr σ H e (⟨t, .ref a, .lst ds⟩ :: tm)) (h : H a = some (.lst us)) (hk : keepK t.item ds = some k) (hq : H q = none) (ho : o.dict = none) : Rl fr σ (upd H q (.frz o (.tup us.reverse))) e (⟨.own k, .ref q, .tup ds.reverse⟩ :: tm) := by
  obtain ⟨F, lab, st⟩ := s
  exact st.drop.mkT hq ho (TmpOk.looseL st.tmps.1 h hk).reverse (by intro i h; omega)
theorem rd_rev {k : Nat} {p1 p2 p3 : Pos} (ha : PE X ea (rdE W Ev Γ X.K a)) : PE X (.Subscript ea (.Slice none none (some (.UnaryOp .USub (.Constant (.int 1) k p1) p2)) p3) pos) (rdE W Ev Γ X.K (.rev a)) :=
  peI (pe_revL ha) fun σ H Q ⟨fr, e, tm, bs, hK, s, sb, ok⟩ => by
    simp only [evE] at ok
    refine ⟨fr, e, tm, bs, hK, s, sb, (OkR.bind ok).mono (fun x hx ok1 v H1 s1 => ?_) fun _ _ _ z => z⟩
    obtain ⟨t, d, e1⟩ := x
    cases d with
    | lst ds =>
      obtain ⟨k, hk, ok2⟩ := OkR.okMb ok1
      obtain ⟨a, us, rfl, h1, h2⟩ := s1.top.lst
      exact ⟨a, us, rfl, .of h1, fun q hq => ok2 _ _ (s1.rev h1 hk hq)⟩
    | _ => exact ok1.elim
theorem bi_imp {f : Str} {Q : VK} (h : rdE W Ev Γ K (.bi f es) σ H Q) : tCB (rdN K (biV f)) (rdA W Ev Γ K es) σ H Q := by
  obtain ⟨fr, e, tm, bs, hK, s, sb, ok⟩ := h
  simp only [evE] at ok
  refine ⟨fr, e, tm, bs, hK, s, sb, (OkR.bind ok).mono (fun x hx ok1 vs H1 hl s1 => ?_) fun _ _ _ z => z⟩
  obtain ⟨r, hr, ok2⟩ := OkR.okMb ok1
  exact ⟨fr, σ, x.2, tm, x.1, r.1, r.2, hK, hl, s1, hr, fun v H' s => ok2 v H' s⟩
def biFn : List Str := ["len", "min", "max", "sorted"]
def biTy : List Str := ["int", "str", "list", "tuple"]
theorem rd_bi {f : Str} (hc : X.calm = true) (hg : Gl X f) (hm : X.mg f = none) (hf : f ∈ biFn ∨ f ∈ biTy) (ha : PA X (ea :: xs) (rdA W Ev Γ X.K es)) (he : starEach (ea :: xs) X.env = (false, eval ea X.env) :: starEach xs X.env) (hpl : (backTo pos (starEach xs X.env)).any (·.1) = false) :
    PE X (.Call (.Name f p) (ea :: xs) [] pos) (rdE W Ev Γ X.K (.bi f es)) := by
  rcases hf with hf | hf
  · simp only [biFn, List.mem_cons, List.not_mem_nil, or_false] at hf
    rcases hf with rfl | rfl | rfl | rfl
    · exact peI (pe_callB (id := "len") cr_len hg hm (by decide +kernel) ha (by decide) (by decide) he hpl) fun σ H Q h => bi_imp h
    · exact peI (pe_callB (id := "min") (cr_min2 hc) hg hm (by decide +kernel) ha (by decide) (by decide) he hpl) fun σ H Q h => bi_imp h
    · exact peI (pe_callB (id := "max") (cr_max2 hc) hg hm (by decide +kernel) ha (by decide) (by decide) he hpl) fun σ H Q h => bi_imp h
    · exact peI (pe_callB (id := "sorted") (cr_sortI hc) hg hm (by decide +kernel) ha (by decide) (by decide) he hpl) fun σ H Q h => bi_imp h
  · simp only [biTy, List.mem_cons, List.not_mem_nil, or_false] at hf
    rcases hf with rfl | rfl | rfl | rfl
    · exact peI (pe_callTy (T := "int") cr_int hg hm (by decide +kernel) ha (by decide) (by decide) he hpl) fun σ H Q h => bi_imp h
    · exact peI (pe_callTy (T := "str") cr_str hg hm (by decide +kernel) ha (by decide) (by decide) he hpl) fun σ H Q h => bi_imp h
    · exact peI (pe_callTy (T := "list") cr_list hg hm (by decide +kernel) ha (by decide) (by decide) he hpl) fun σ H Q h => bi_imp h
    · exact peI (pe_callTy (T := "tuple") cr_tuple hg hm (by decide +kernel) ha (by decide) (by decide) he hpl) fun σ H Q h => bi_imp h
theorem rd_tupRev {p2 pos2 : Pos} (hc : X.calm = true) (hg : Gl X "tuple") (hm : X.mg "tuple" = none) (hg2 : Gl X "reversed") (hm2 : X.mg "reversed" = none) (ha : PE X ea (rdE W Ev Γ X.K a))
    (hs : starEach [ea] X.env = (false, eval ea X.env) :: starEach [] X.env) :
    PE X (.Call (.Name "tuple" p) [.Call (.Name "reversed" p2) [ea] [] pos2] [] pos) (rdE W Ev Γ X.K (.sp 2 (.cons a .nil))) :=
  peI (pe_tupRevF hc hg hm hg2 hm2 ha hs rfl) fun σ H Q ⟨fr, e, tm, bs, hK, s, sb, ok⟩ => by
    simp only [evE, evEs] at ok
    have ok := OkR.bind ok
    refine ⟨fr, e, tm, bs, hK, s, sb, (OkR.bind ok).mono (fun x hx ok1 v H1 s1 => ?_) fun _ _ _ z => z⟩
    obtain ⟨t, d, e1⟩ := x
    cases d with
    | lst ds =>
      obtain ⟨k, hk, ok2⟩ := OkR.okMb (show OkE W Ev fr σ tm Q ((okM (keepK t.item ds)).bind fun k => .ok (nrm (.own k) (D.tup ds.reverse), D.tup ds.reverse, e1)) from ok1)
      obtain ⟨a, us, rfl, h1, h2⟩ := s1.top.lst
      exact ⟨a, us, rfl, .of h1, fun o ho q hq => ok2 _ _ (s1.revT h1 hk hq ho).nrm⟩
    | _ => exact ok1.elim
theorem Rl.newRg {q : Addr} {a b : Int} (s : Rl fr σ H e tm) (hq : H q = none) : Rl fr σ (upd H q (.lst (rgV a b))) e (⟨.own 10, .ref q, .lst (rngI a b)⟩ :: tm) := by
  have e1 : rgV a b = ((List.range (b - a).toNat).map fun (i : Nat) => a + i).map V.int := by unfold rgV; rw [List.map_map]; rfl
  have e2 : rngI a b = ((List.range (b - a).toNat).map fun (i : Nat) => a + i).map D.int := by unfold rngI; rw [List.map_map]; rfl
  rw [e1, e2]
  exact s.newInts hq 9
theorem rgOk_of {a b : Int} (h : (rngOk a b && lim (b - a).toNat) = true) : RgOk a b := by
  rw [Bool.and_eq_true] at h
  have h1 := of_decide_eq_true h.1
  have h2 := Nat.le_of_ble_eq_true h.2
  exact ⟨h1.1, h1.2.1, h1.2.2.1, h1.2.2.2, by omega⟩
theorem rd_listRg1 {p2 pos2 : Pos} (hc : X.calm = true) (hg : Gl X "list") (hm : X.mg "list" = none) (hg2 : Gl X "range") (hm2 : X.mg "range" = none) (ha : PE X ea (rdE W Ev Γ X.K a)) (hs : starEach [ea] X.env = (false, eval ea X.env) :: starEach [] X.env) :
    PE X (.Call (.Name "list" p) [.Call (.Name "range" p2) [ea] [] pos2] [] pos) (rdE W Ev Γ X.K (.sp 0 (.cons a .nil))) :=
  peI (pe_listRg hc hg hm (prg_1 hg2 hm2 ha hs) rfl) fun σ H Q ⟨fr, e, tm, bs, hK, s, sb, ok⟩ => by
    simp only [evE, evEs] at ok
    have ok := OkR.bind ok
    refine ⟨fr, e, tm, bs, hK, s, sb, (OkR.bind ok).mono (fun x hx ok1 v H1 s1 => ?_) fun _ _ _ z => z⟩
    obtain ⟨t, d, e1⟩ := x
    cases d with
    | int n =>
      obtain ⟨g, ok2⟩ := OkR.guard (show OkE W Ev fr σ tm Q (guardR (rngOk 0 n && lim n.toNat) (.ok (.own 10, D.lst (rngI 0 n), e1))) from ok1)
      exact ⟨n, s1.top.int, rgOk_of (by rw [Int.sub_zero]; exact g), fun q hq => ok2 _ _ (s1.drop.newRg hq)⟩
    | _ => exact ok1.elim
theorem rd_listRg2 {p2 pos2 : Pos} (hc : X.calm = true) (hg : Gl X "list") (hm : X.mg "list" = none) (hg2 : Gl X "range") (hm2 : X.mg "range" = none) (ha : PE X ea (rdE W Ev Γ X.K a)) (hb : PE X eb (rdE W Ev Γ X.K b)) (hs : starEach [ea, eb] X.env = (false, eval ea X.env) :: starEach [eb] X.env) (hs2 : starEach [eb] X.env = (false, eval eb X.env) :: starEach [] X.env) (hpl : (backTo pos2 (starEach [eb] X.env)).any (·.1) = false) :
    PE X (.Call (.Name "list" p) [.Call (.Name "range" p2) [ea, eb] [] pos2] [] pos) (rdE W Ev Γ X.K (.sp 1 (.cons a (.cons b .nil)))) :=
  peI (pe_listRg hc hg hm (prg_2 hg2 hm2 ha hb hs hs2 hpl) rfl) fun σ H Q ⟨fr, e, tm, bs, hK, s, sb, ok⟩ => by
    simp only [evE, evEs] at ok
    have ok := OkR.bind ok
    refine ⟨fr, e, tm, bs, hK, s, sb, (OkR.bind ok).mono (fun x hx ok1 v H1 s1 => ?_) fun _ _ _ z => z⟩
    have ok1 := OkR.bind ok1
    refine ⟨fr, x.2.2, _, x.1.slots ++ bs, hK, s1, sb.push, (OkR.bind ok1).mono (fun y hy ok2 w H2 s2 => ?_) fun _ _ _ z => z.drop⟩
    obtain ⟨t, d, e1⟩ := x
    obtain ⟨t', d', e2⟩ := y
    cases d with
    | int m =>
      cases d' with
      | int n =>
        obtain ⟨g, ok3⟩ := OkR.guard (show OkE W Ev fr σ tm Q (guardR (rngOk m n && lim (n - m).toNat) (.ok (.own 10, D.lst (rngI m n), e2))) from ok2)
        exact ⟨m, n, s2.snd.int, s2.top.int, rgOk_of g, fun q hq => ok3 _ _ (s2.drop.drop.newRg hq)⟩
      | _ => exact ok2.elim
    | _ => exact ok2.elim
theorem rgV_map (a b : Int) : rgV a b = ((List.range (b - a).toNat).map fun (i : Nat) => a + i).map V.int := by unfold rgV; rw [List.map_map]; rfl
theorem rngI_map (a b : Int) : rngI a b = ((List.range (b - a).toNat).map fun (i : Nat) => a + i).map D.int := by unfold rngI; rw [List.map_map]; rfl
end
end VI
set_option autoImplicit true
set_option Elab.async false
set_option linter.all false
set_option maxRecDepth 100000
set_option maxHeartbeats 4000000
namespace VI
open PySem PySem.Spec PyProof.Rows L2
section
variable {W : WX} {Ev : EvT} {Γ : Sm} {K : PySem.W.Frag} {X : Cx} {fr : Fr} {σ : L2.St} {H H' : Hp} {e e' : Env} {tm : List Tmp} {F : Addr → Prop} {lab : Lab} {t : Tg} {v r w : V} {d : D} {c : Tmp} {i j k : Nat} {x m : Str} {p pos apos : Pos} {a b cc : CE} {ea eb ec : Expr} {es : CEs} {xs : List Expr} {ta : TA} {q : List Nat} {vs : List V} {as : List (Tg × D)}
def spF (K : PySem.W.Frag) (Ev : EvT) (Γ : Sm) (f : Str) : Sp := fun vs H Q E => ∃ (as : List (Nat × D)) (F P : Addr → Prop), Entry K H F P (Γ.ino f) as vs ∧ match Γ.call f as with
  | .ok k d out => out.isSome = Γ.ino f ∧ ∀ v H', Exit (frOf K H F P (Γ.ino f) vs) H' v k d out → Q v H'
  | .exn c xs => Γ.ino f = false ∧ ∀ cv dd H', Ev c xs cv dd H' → (∃ F' lab', Good (frOf K H F P (Γ.ino f) vs) H' F' lab') → E cv dd H'
  | .bad => False
theorem Rl.stay (s : Rl fr σ H e tm) (k : ∀ a o, H a = some o → H' a = some o) : Rl fr σ H' e tm := by
  obtain ⟨F, lab, s⟩ := s
  have kp : Keeps (fun _ => False) H H' := fun a o h _ => k a o h
  refine ⟨F, lab, ⟨s.good.f0, s.good.fnew, s.good.fl, fun a h => let ⟨xs, q⟩ := s.good.ft a h; ⟨xs, k a _ q⟩, fun a l h => let ⟨xs, q⟩ := s.good.lt a l h; ⟨xs, k a _ q⟩, s.good.lnew, fun a o h n => k a _ (s.good.keep a o h n), fun a h => ?_, fun a h => let ⟨xs, q⟩ := s.good.p0 a h; ⟨xs, k a _ q⟩, s.good.ftup, fun q hq => (s.good.pth q hq).keep (fun a o _ h => k a o h) fun _ h => h⟩,
    s.slots.keep kp lists_none (fun _ _ z => z) (fun _ h => h) (fun a i h => ⟨id, h⟩), s.tmps.keep kp lists_none (fun _ _ z => z) (fun _ h => h) (fun a l h _ => ⟨id, h⟩)⟩
  have q := s.good.there a h
  cases z : H a with
  | none => exact absurd z q
  | some o => rw [k a o z]; simp
theorem Looks.none {as : List (Nat × D)} : True := trivial
theorem fn_imp {f : Str} {Q : VK} (hi : Γ.ino f = false) (h : rdE W Ev Γ K (.fn f es) σ H Q) : tCallS (spF K Ev Γ f) (WE W) (rdA W Ev Γ K es) σ H Q := by
  obtain ⟨fr, e, tm, bs, hK, s, sb, ok⟩ := h
  simp only [evE, hi, Bool.false_eq_true, if_false] at ok
  refine ⟨fr, e, tm, bs, hK, s, sb, (OkR.bind ok).mono (fun x hx ok1 vs H1 hl s1 => ?_) fun _ _ _ z => z⟩
  unfold callE at ok1
  rw [hi] at ok1
  simp only [Bool.false_eq_true, if_false] at ok1
  obtain ⟨F, lab, st⟩ := id s1
  have st0 := Tmps.base (as := x.1) (vs := vs) st.tmps
  refine ⟨looked x.1, fun a => F a ∨ (∃ j, tm.length ≤ j ∧ lab a = some (.t j)) ∨ ∃ i, i ∈ others x.1 ∧ lab a = some (.s i), fun _ => False, ⟨fun a ha => ?_, fun a ha => ha.elim, fun a _ z => z, ?_⟩, ?_⟩
  · rcases ha with ha | ⟨j, _, ha⟩ | ⟨i, _, ha⟩
    · exact st.good.ft a ha
    · exact st.good.lt a _ ha
    · exact st.good.lt a _ ha
  · rw [hi]
    exact ⟨hK ▸ looks_of st.tmps hl (fun a h => .inl h) (fun a j hj h => .inr (.inl ⟨j, hj, h⟩)) fun a i hi h => .inr (.inr ⟨i, hi, h⟩), fun _ z => z⟩
  · cases hc : Γ.call f (looked x.1) with
    | bad => rw [hc] at ok1; exact ok1
    | exn c ys =>
      rw [hc] at ok1
      refine ⟨hi, fun cv dd H' ev g => ok1 cv dd H' ev ?_⟩
      obtain ⟨F', lab', g⟩ := g
      exact (Rl.dropAll s1).stay fun a o h => g.keep a o h fun z => z
    | ok k d out =>
      rw [hc] at ok1
      cases out with
      | some o => exact ok1.elim
      | none =>
        refine ⟨by rw [hi]; rfl, fun v H' ex => ?_⟩
        dsimp only at ok1
        cases hl2 : landE bs (others x.1) k d x.2 (D.within k d) with
        | bad => rw [hl2] at ok1; exact ok1.elim
        | exn c ys e2 =>
          unfold landE at hl2
          split at hl2
          · cases hl2
          · split at hl2 <;> cases hl2
        | ok y =>
          rw [hl2] at ok1
          obtain ⟨t', d', e'⟩ := y
          have hd : d' = d := by
            unfold landE at hl2
            split at hl2
            · cases hl2; rfl
            · split at hl2
              · cases hl2; rfl
              · cases hl2
          subst hd
          refine ok1 v H' ?_
          rw [hi] at ex
          refine St.call (P := fun _ => False) (s := (⟨st.good, st.slots, st0⟩ : St fr σ H1 x.2 tm F lab)) (bs := bs) (os := others x.1) (io := none) (ino := false) (out := none) (vs := vs) sb (fun i h => by cases h) (fun a => ⟨fun z => z.elim, fun ⟨i, z, _⟩ => by cases z⟩) (fun a => Iff.rfl) rfl (fun i h => by cases h) rfl rfl (own := D.within k d') (fun h => ⟨h, fun o h => by cases h⟩) hl2 ?_
          rw [hK]; exact ex
theorem rd_fn {f : Addr} {fd : FuncData} {ps : List Str} {n : Nat} (tk : Takes X W) (hi : Γ.ino x = false) (Fn : FnOk X.prog X.w X.K X.mg X.base (L2.CX X.prog X.w) n f fd ps (spF X.K Ev Γ x)) (hr : Room n X.A) (hg : Gl X x) (hm : X.mg x = some (.ref f)) (hk : PySem.W.keepIn X.K (.ref f) = true) (hb : Binds X.K fd ps [])
    (ha : PA X (ea :: xs) (rdA W Ev Γ X.K es)) (hdb : (x == ("__debug__" : Str)) = false) (he : starEach (ea :: xs) X.env = (false, eval ea X.env) :: starEach xs X.env) (hpl : (backTo pos (starEach xs X.env)).any (·.1) = false) : PE X (.Call (.Name x p) (ea :: xs) [] pos) (rdE W Ev Γ X.K (.fn x es)) :=
  peI (pe_callS Fn hr hg hm hk hb (fun σ => passAt tk σ) ha hdb he hpl) fun σ H Q h => fn_imp hi h
theorem pe_callS0 {k : Nat} {f : Addr} {fd : FuncData} {ps : List Str} {sp : Sp} {E : L2.St → XK} (Fn : FnOk X.prog X.w X.K X.mg X.base (L2.CX X.prog X.w) k f fd ps sp) (hr : Room k X.A) (hg : Gl X x) (hm : X.mg x = some (.ref f)) (hk : PySem.W.keepIn X.K (.ref f) = true) (hb : Binds X.K fd ps []) (hx : ∀ σ, PassesAt (L2.CX X.prog X.w) X σ (E σ)) (hdb : (x == ("__debug__" : Str)) = false) :
    PE X (.Call (.Name x p) [] [] pos) (tCallS sp E tNil) :=
  ⟨fun pins s σ H Q I h => wpAny_Call_Name_kw (ld_glob I hg hm (PySem.W.callWith_K0 I.kIn hk (run_fnS Fn hr hb (hx σ) I .nil h)) hdb)⟩
theorem rd_fn0 {f : Addr} {fd : FuncData} {ps : List Str} {n : Nat} (tk : Takes X W) (hi : Γ.ino x = false) (Fn : FnOk X.prog X.w X.K X.mg X.base (L2.CX X.prog X.w) n f fd ps (spF X.K Ev Γ x)) (hr : Room n X.A) (hg : Gl X x) (hm : X.mg x = some (.ref f)) (hk : PySem.W.keepIn X.K (.ref f) = true) (hb : Binds X.K fd ps [])
    (hdb : (x == ("__debug__" : Str)) = false) : PE X (.Call (.Name x p) [] [] pos) (rdE W Ev Γ X.K (.fn x .nil)) :=
  peI (pe_callS0 Fn hr hg hm hk hb (fun σ => passAt tk σ) hdb) fun σ H Q h => args_nil' (fn_imp hi h)
theorem fnio_imp {f : Str} {Q : VK} (hi : Γ.ino f = true) (h : rdE W Ev Γ K (.fn f (.cons (.var i) es)) σ H Q) : tCallS (spF K Ev Γ f) (WE W) (tCons (tVar i) (rdA W Ev Γ K es)) σ H Q := by
  obtain ⟨fr, e, tm, bs, hK, s, sb, ok⟩ := h
  simp only [evE, evT, hi, if_true] at ok
  obtain ⟨g, ok⟩ := OkR.guard ok
  cases hq : e.get i with
  | none => exact absurd g (by simp [ioOk, hq])
  | some kd =>
    obtain ⟨k0, d0⟩ := kd
    obtain ⟨v0, hv, s0⟩ := s.var hq
    refine ⟨v0, hv, fr, e, tm, bs, hK, s, sb, (OkR.bind (OkR.bind ok)).mono (fun x hx ok1 vs H1 hl s1 => ?_) fun _ _ _ z => z⟩
    have ok1 : OkE W Ev fr σ tm Q (callE Γ bs f (.cons (.var i) es) ((.own 9, .non) :: x.1) x.2) := ok1
    unfold callE at ok1
    rw [hi] at ok1
    simp only [if_true] at ok1
    cases hg : x.2.get i with
    | none => rw [hg] at ok1; exact ok1.elim
    | some kd =>
      obtain ⟨k1, d1⟩ := kd
      rw [hg] at ok1
      dsimp only at ok1
      split at ok1
      · exact ok1.elim
      · rename_i hn
        simp only [Bool.or_eq_true, not_or, Bool.not_eq_true] at hn
        have n1 : i ∉ bs := fun z => by rw [List.contains_iff_mem.mpr z] at hn; exact absurd hn.1 (by simp)
        have n2 : i ∉ others x.1 := fun z => by rw [List.contains_iff_mem.mpr z] at hn; exact absurd hn.2 (by simp)
        obtain ⟨F, lab, st⟩ := id s1
        have st1 := Tmps.base (as := x.1) (vs := vs) st.tmps
        obtain ⟨v1, hv1, c1⟩ := st.slots.2 i k1 d1 (get_env hg)
        rw [hv] at hv1; cases hv1
        refine ⟨(k1, d1) :: looked x.1, fun a => F a ∨ (∃ j, tm.length ≤ j ∧ lab a = some (.t j)) ∨ ∃ i', i' ∈ others x.1 ∧ lab a = some (.s i'), fun a => ∃ i', some i = some i' ∧ lab a = some (.s i'), ⟨fun a ha => ?_, fun a ha => ?_, fun a ha hp => ?_, ?_⟩, ?_⟩
        · rcases ha with ha | ⟨j, _, ha⟩ | ⟨i, _, ha⟩
          · exact st.good.ft a ha
          · exact st.good.lt a _ ha
          · exact st.good.lt a _ ha
        · obtain ⟨i', _, ha⟩ := ha
          exact st.good.lt a _ ha
        · obtain ⟨i', hi', hp⟩ := hp
          cases hi'
          rcases ha with ha | ⟨j, _, ha⟩ | ⟨i2, hi2, ha⟩
          · rw [st.good.fl a ha] at hp; cases hp
          · rw [ha] at hp; cases hp
          · rw [ha] at hp; cases hp; exact n2 hi2
        · rw [hi]
          refine ⟨?_, ?_⟩
          · obtain ⟨fp, rr, nd, hl2⟩ := c1
            exact ⟨fp, hK ▸ rr.mono (fun a h => .inl h), nd, fun a ha => ⟨i, rfl, hl2 a ha⟩⟩
          · exact hK ▸ looks_of st.tmps hl (fun a h => .inl h) (fun a j hj h => .inr (.inl ⟨j, hj, h⟩)) fun a i hi h => .inr (.inr ⟨i, hi, h⟩)
        · cases hc : Γ.call f ((k1, d1) :: looked x.1) with
          | bad => rw [hc] at ok1; exact ok1
          | exn c ys => rw [hc] at ok1; exact ok1.elim
          | ok k d out =>
            rw [hc] at ok1
            cases out with
            | none => exact ok1.elim
            | some o =>
              refine ⟨by rw [hi]; rfl, fun v H' ex => ?_⟩
              dsimp only at ok1
              cases hl2 : landE bs (others x.1) k d (x.2.set i (some o)) (D.within k d && D.within o.1 o.2) with
              | bad => rw [hl2] at ok1; exact ok1.elim
              | exn c ys e2 =>
                unfold landE at hl2
                split at hl2
                · cases hl2
                · split at hl2 <;> cases hl2
              | ok y =>
                rw [hl2] at ok1
                obtain ⟨t', d', e'⟩ := y
                have hd : d' = d := by
                  unfold landE at hl2
                  split at hl2
                  · cases hl2; rfl
                  · split at hl2
                    · cases hl2; rfl
                    · cases hl2
                subst hd
                refine ok1 v H' ?_
                rw [hi] at ex
                refine St.call (s := (⟨st.good, st.slots, st1⟩ : St fr σ H1 x.2 tm F lab)) (bs := bs) (os := others x.1) (io := some i) (ino := true) (out := some o) (vs := v0 :: vs) sb (fun i' h => by cases h; exact ⟨n1, n2⟩) (fun a => Iff.rfl) (fun a => Iff.rfl) rfl (fun i' h => by cases h; exact ⟨v0, hv, rfl⟩) (eo := x.2.set i (some o)) rfl rfl (own := D.within k d' && D.within o.1 o.2) (fun h => ?_) hl2 ?_
                · rw [Bool.and_eq_true] at h
                  exact ⟨h.1, fun o' ho => by cases ho; exact h.2⟩
                · rw [hK]; exact ex
theorem rd_fnio {f : Addr} {fd : FuncData} {ps : List Str} {n : Nat} {y : Str} {py : Pos} (tk : Takes X W) (hi : Γ.ino x = true) (Fn : FnOk X.prog X.w X.K X.mg X.base (L2.CX X.prog X.w) n f fd ps (spF X.K Ev Γ x)) (hr : Room n X.A) (hg : Gl X x) (hm : X.mg x = some (.ref f)) (hk : PySem.W.keepIn X.K (.ref f) = true) (hb : Binds X.K fd ps [])
    (hv : PE X (.Name y py) (tVar i)) (ha : PA X xs (rdA W Ev Γ X.K es)) (hdb : (x == ("__debug__" : Str)) = false) (he : starEach (.Name y py :: xs) X.env = (false, eval (.Name y py) X.env) :: starEach xs X.env) (hpl : (backTo pos (starEach xs X.env)).any (·.1) = false) : PE X (.Call (.Name x p) (.Name y py :: xs) [] pos) (rdE W Ev Γ X.K (.fn x (.cons (.var i) es))) :=
  peI (pe_callS Fn hr hg hm hk hb (fun σ => passAt tk σ) (pa_cons hv ha he) hdb he hpl) fun σ H Q h => fnio_imp hi h
theorem tyD_of {dx : D} (p : Rp K H v dx) : (∀ ds, dx = .lst ds → TyD "list" v H) ∧ (∀ ds, dx = .tup ds → TyD "tuple" v H) ∧ (∀ z, dx = .str z → TyD "str" v H) := by
  refine ⟨fun ds h => ?_, fun ds h => ?_, fun z h => ?_⟩
  · subst h
    obtain ⟨a, us, rfl, ha, _⟩ := p.lst
    exact .inl ⟨rfl, us, ha⟩
  · subst h
    obtain ⟨a, o, us, rfl, ha, ho, _⟩ := p.tup
    exact .inr ⟨rfl, o, us, ha, ho⟩
  · subst h
    rw [p.str]; rfl
theorem met_imp {ok' : String → Prop} {Q : VK} (hok : ∀ d, metRcv m d = true → (∃ ds, d = .lst ds ∧ ok' "list") ∨ (∃ ds, d = .tup ds ∧ ok' "tuple") ∨ (∃ z, d = .str z ∧ ok' "str")) (h : rdE W Ev Γ K (.met m a es) σ H Q) : tMD ok' (fun T => rdOT K m T) (rdE W Ev Γ K a) (rdA W Ev Γ K es) σ H Q := by
  obtain ⟨fr, e, tm, bs, hK, s, sb, ok⟩ := h
  simp only [evE] at ok
  refine ⟨fr, e, tm, bs, hK, s, sb, (OkR.bind ok).mono (fun x hx ok1 v H1 s1 => ?_) fun _ _ _ z => z⟩
  obtain ⟨g, ok2⟩ := OkR.guard ok1
  have p0 := tyD_of (K := K) (hK ▸ s1.top : Rp K H1 v x.2.1)
  have key : ∀ T, ok' T → (∀ (H2 : Hp), Rp K H2 v x.2.1 → TyD T v H2) → ∃ T, ok' T ∧ TyD T v H1 ∧ rdA W Ev Γ K es σ H1 fun xs H2 => rdOT K m T v xs H2 Q := fun T hT hty => by
    refine ⟨T, hT, hty H1 (hK ▸ s1.top), fr, x.2.2, _, x.1.slots ++ bs, hK, s1, sb.push, (OkR.bind ok2).mono (fun y hy ok3 vs H2 hl s2 => ?_) fun _ _ _ z => z.drop⟩
    obtain ⟨r, hr, ok4⟩ := OkR.okMb ok3
    exact ⟨hty H2 (hK ▸ (Rl.dropAll s2).top), fr, σ, y.2, tm, x.1, x.2.1, y.1, r.1, r.2, hK, hl, s2, hr, fun v H' s => ok4 v H' s⟩
  rcases hok _ g with ⟨ds, hd, hT⟩ | ⟨ds, hd, hT⟩ | ⟨z, hd, hT⟩
  · exact key _ hT fun H2 p => (tyD_of p).1 ds hd
  · exact key _ hT fun H2 p => (tyD_of p).2.1 ds hd
  · exact key _ hT fun H2 p => (tyD_of p).2.2 z hd
theorem rcv_index : ∀ d, metRcv "index" d = true → (∃ ds, d = .lst ds ∧ ("list" = "list" ∨ "list" = "tuple")) ∨ (∃ ds, d = .tup ds ∧ ("tuple" = "list" ∨ "tuple" = "tuple")) ∨ (∃ z, d = .str z ∧ ("str" = "list" ∨ "str" = "tuple")) := fun d h => by
  unfold metRcv at h
  rw [if_pos (by decide)] at h
  cases d with
  | lst ds => exact .inl ⟨ds, rfl, .inl rfl⟩
  | tup ds => exact .inr (.inl ⟨ds, rfl, .inr rfl⟩)
  | _ => cases h
theorem rcv_join : ∀ d, metRcv "join" d = true → (∃ ds, d = .lst ds ∧ ("list" = "str")) ∨ (∃ ds, d = .tup ds ∧ ("tuple" = "str")) ∨ (∃ z, d = .str z ∧ ("str" = "str")) := fun d h => by
  unfold metRcv at h
  rw [if_neg (by decide), if_pos (by decide)] at h
  cases d with
  | str z => exact .inr (.inr ⟨z, rfl, rfl⟩)
  | _ => cases h
structure McOk (X : Cx) (o : Expr) (name : Str) (apos cpos : Pos) (args : List Expr) : Prop where
  base : attributeBase o name X.env (eval o X.env) = eval o X.env
  line : (apos.endLine == cpos.line) = true
  few : ((backTo cpos (starEach args X.env)).all (fun x => !x.1) && (backToKw cpos (keywordEach [] X.env)).all (fun x => x.1.isSome)
      && decide (args.length + ([] : List Keyword).length + (if ([] : List Keyword).isEmpty then 0 else 1) < 30)) = true
theorem rd_met {o : Expr} (hm : m = "index" ∨ m = "join") (ho : PE X o (rdE W Ev Γ X.K a)) (ha : PA X (ea :: xs) (rdA W Ev Γ X.K es)) (sh : McOk X o m apos pos (ea :: xs)) (hs : starEach (ea :: xs) X.env = (false, eval ea X.env) :: starEach xs X.env) (hpl : (backTo pos (starEach xs X.env)).any (·.1) = false) :
    PE X (.Call (.Attribute o m apos) (ea :: xs) [] pos) (rdE W Ev Γ X.K (.met m a es)) := by
  rcases hm with rfl | rfl
  · exact peI (pe_md mtAll_index ho ha sh.base sh.few sh.line hs hpl) fun σ H Q h => met_imp rcv_index h
  · exact peI (pe_md mtAll_join ho ha sh.base sh.few sh.line hs hpl) fun σ H Q h => met_imp rcv_join h
abbrev Fr.at (fr : Fr) (q : Pth) : Fr := { fr with pts := q :: fr.pts }
theorem St.pth {q : Pth} (s : St fr σ H e tm F lab) (h : RP H lab q.i q.r q.p q.v) : St (fr.at q) σ H e tm F lab :=
  ⟨⟨s.good.f0, s.good.fnew, s.good.fl, s.good.ft, s.good.lt, s.good.lnew, s.good.keep, s.good.there, s.good.p0, s.good.ftup, fun q' hq => by
    rcases List.mem_cons.mp hq with z | z
    · subst z; exact h
    · exact s.good.pth q' z⟩, s.slots, s.tmps⟩
theorem St.unpth {q : Pth} (s : St (fr.at q) σ H e tm F lab) : St fr σ H e tm F lab ∧ RP H lab q.i q.r q.p q.v :=
  ⟨⟨⟨s.good.f0, s.good.fnew, s.good.fl, s.good.ft, s.good.lt, s.good.lnew, s.good.keep, s.good.there, s.good.p0, s.good.ftup, fun q' hq => s.good.pth q' (List.mem_cons_of_mem _ hq)⟩, s.slots, s.tmps⟩, s.good.pth q List.mem_cons_self⟩
theorem Rl.unpth {q : Pth} (s : Rl (fr.at q) σ H e tm) : Rl fr σ H e tm := let ⟨F, lab, s⟩ := s; ⟨F, lab, s.unpth.1⟩
theorem Zx.pth {q : Pth} {cl : Str} {xs : List D} (h : Zx W Ev fr σ tm cl xs e) : Zx W Ev (fr.at q) σ tm cl xs e := fun cv dd H' ev r => h cv dd H' ev r.unpth
theorem Sub.pth {bs : List Nat} {q : Pth} (s : Sub fr tm bs) : Sub (fr.at q) tm (q.i :: bs) := ⟨fun c hc i hi => List.mem_cons_of_mem _ (s.1 c hc i hi), fun q' hq => by
  rcases List.mem_cons.mp hq with z | z
  · subst z; exact List.mem_cons_self
  · exact List.mem_cons_of_mem _ (s.2.1 q' z), s.2.2⟩
theorem RP.snoc {a : Addr} {us : List V} : ∀ {q : List Nat} {r v : V}, RP H lab i r q v → v = .ref a → lab a = some (.s i) → H a = some (.lst us) → us[j]? = some w → RP H lab i r (q ++ [j]) w
  | [], _, _, h, hv, hl, hh, hj => ⟨a, us, w, h ▸ hv, hl, hh, hj, rfl⟩
  | n :: q, _, _, ⟨b, zs, w', h1, h2, h3, h4, h5⟩, hv, hl, hh, hj => ⟨b, zs, w', h1, h2, h3, h4, RP.snoc h5 hv hl hh hj⟩
theorem St.atP {ds : List D} (s : St fr σ H e tm F lab) (h : e.get i = some (k, d)) (hσ : σ[i]? = some (some r)) (rp : RP H lab i r q v) (hk : q.length < k) (ha : VI.atP q d = some ds) : ∃ a us, v = .ref a ∧ H a = some (.lst us) ∧ lab a = some (.s i) ∧ us.length = ds.length := by
  obtain ⟨v', h1, fp, hr, nd, hl⟩ := s.slots.2 i k d (get_env h)
  rw [hσ] at h1; cases h1
  obtain ⟨a, us, fx, R, rfl, h2, h3, pm, _⟩ := Rep.put (m := k - q.length - 1) hr nd rp (by omega) ha
  exact ⟨a, us, rfl, h2, hl a (pm.symm.subset (by simp)), h3.length⟩
theorem okP_ok (h : okP e i q = true) : ∃ k d ds, e.get i = some (k, d) ∧ q.length < k ∧ VI.atP q d = some ds := by
  unfold okP at h
  cases h1 : e.get i with
  | none => rw [h1] at h; cases h
  | some kd =>
    obtain ⟨k, d⟩ := kd
    rw [h1] at h
    simp only [Bool.and_eq_true, Bool.not_eq_true'] at h
    obtain ⟨ds, hd⟩ := Option.isSome_iff_exists.mp h.2
    refine ⟨k, d, ds, rfl, ?_, hd⟩
    have : ¬ (k ≤ q.length) := fun z => by rw [Nat.ble_eq_true_of_le z] at h; exact absurd h.1 (by simp)
    omega
theorem rdP_var (h : PE X (.Name x pos) (tVar i)) : PE X (.Name x pos) (rdP W Ev Γ X.K (.var i)) := peI h fun σ H Q ⟨fr, e, tm, bs, hK, s, sb, ok⟩ => by
  simp only [evP] at ok
  cases hq : e.get i with
  | none => rw [hq] at ok; exact ok.elim
  | some kd =>
    obtain ⟨k, d⟩ := kd
    rw [hq] at ok
    obtain ⟨F, lab, st⟩ := s
    obtain ⟨v, h1, _⟩ := st.slots.2 i k d (get_env hq)
    exact ⟨v, h1, ok v H v h1 ⟨F, lab, st.pth rfl⟩⟩
theorem rdP_sub (ha : PE X ea (rdP W Ev Γ X.K a)) (hb : PE X eb (rdE W Ev Γ X.K b)) (hs : PlainIx eb) : PE X (.Subscript ea eb pos) (rdP W Ev Γ X.K (.sub a b)) :=
  peI (pe_ix ix_list ha hb hs) fun σ H Q ⟨fr, e, tm, bs, hK, s, sb, ok⟩ => by
    simp only [evP] at ok
    refine ⟨fr, e, tm, bs, hK, s, sb, (OkR.bind ok).mono (fun x hx ok1 v H1 r hσ s1 => ?_) fun _ _ _ z => z⟩
    obtain ⟨g, ok2⟩ := OkR.guard ok1
    refine ⟨fr.at ⟨x.1, r, x.2.1, v⟩, x.2.2, tm, x.1 :: bs, hK, s1, sb.pth, (OkR.bind ok2).mono (fun y hy ok3 w H2 s2 => ?_) fun _ _ _ z => z.pth⟩
    obtain ⟨t, d, e1⟩ := y
    obtain ⟨i, q, e0⟩ := x
    have ok3 : OkR _ _ (stepP i q d e1) := ok3
    unfold stepP at ok3
    cases d with
    | int n =>
      cases hg : e1.get i with
      | none => rw [hg] at ok3; exact ok3.elim
      | some kd =>
        obtain ⟨k, d0⟩ := kd
        rw [hg] at ok3
        dsimp only at ok3
        split at ok3
        · exact ok3.elim
        · rename_i hk
          have hk' : q.length < k := by
            have : ¬ (k ≤ q.length) := fun z => hk (Nat.ble_eq_true_of_le z)
            omega
          cases hat : VI.atP q d0 with
          | none => rw [hat] at ok3; exact ok3.elim
          | some ds =>
            rw [hat] at ok3
            dsimp only at ok3
            cases hn : ixN ds.length n with
            | none => rw [hn] at ok3; exact ok3.elim
            | some j =>
              rw [hn] at ok3
              obtain ⟨F, lab, st⟩ := s2
              obtain ⟨st0, rp⟩ := st.unpth
              obtain ⟨a, us, rfl, hu, hl, hlen⟩ := St.atP st0 hg hσ rp hk' hat
              obtain rfl := st.top.int
              obtain ⟨q1, q2, q3⟩ := ixN_seq hn
              have hj : j < us.length := by omega
              have hat2 : atI us n = some us[j] := by
                unfold atI
                rw [hlen, hn]
                exact List.getElem?_eq_getElem hj
              have rp2 : RP H2 lab i r (q ++ [j]) us[j] := rp.snoc rfl hl hu (List.getElem?_eq_getElem hj)
              exact ⟨a, us, n, us[j], rfl, rfl, .of hu, hat2, ok3 us[j] H2 r hσ ⟨F, lab, (st0.drop).pth rp2⟩⟩
    | _ => exact ok3.elim
theorem mut_tail {Q : VK} {bs : List Nat} {x : Nat × List Nat × Env} {v r : V} {H1 : Hp} (hK : fr.K = K) (hσ : σ[x.1]? = some (some r)) (s1 : Rl (fr.at ⟨x.1, r, x.2.1, v⟩) σ H1 x.2.2 tm) (sb : Sub fr tm bs) {as : List (Tg × D)} {vs : List V} {H2 : Hp} {e2 : Env}
    (hl : as.length = vs.length) (s2 : Rl (fr.at ⟨x.1, r, x.2.1, v⟩) σ H2 e2 (pushAll as vs tm)) (ok : OkE W Ev fr σ tm Q (mutE bs m x.1 x.2.1 as e2)) : rdM K m v vs H2 Q := by
  obtain ⟨F, lab, st⟩ := s2
  obtain ⟨st0, rp⟩ := st.unpth
  cases hm : mutE bs m x.1 x.2.1 as e2 with
  | bad => rw [hm] at ok; exact ok.elim
  | exn c ys e3 =>
    exfalso
    unfold mutE at hm
    repeat' split at hm
    all_goals first | cases hm | skip
  | ok y =>
    rw [hm] at ok
    obtain ⟨t, d, e'⟩ := y
    have off : Off fr tm x.1 := by
      refine sb.off ?_
      unfold mutE at hm
      split at hm
      · cases hm
      · split at hm
        · cases hm
        · rename_i g
          simp only [Bool.or_eq_true, not_or, Bool.not_eq_true] at g
          exact g.1.1
    exact ⟨fr, σ, e2, tm, as, x.1, x.2.1, r, F, lab, t, d, e', bs, hK, hl, st0, hσ, rp, off, hm, fun v H' s => ok v H' s⟩
theorem okP_list {x : Nat × List Nat × Env} {v r : V} {H1 : Hp} (g : okP x.2.2 x.1 x.2.1 = true) (hσ : σ[x.1]? = some (some r)) (s1 : Rl (fr.at ⟨x.1, r, x.2.1, v⟩) σ H1 x.2.2 tm) : TyD "list" v H1 := by
  obtain ⟨k, d, ds, h1, h2, h3⟩ := okP_ok g
  obtain ⟨F, lab, st⟩ := s1
  obtain ⟨st0, rp⟩ := st.unpth
  obtain ⟨a, us, rfl, hu, _⟩ := St.atP st0 h1 hσ rp h2 h3
  exact .inl ⟨rfl, us, hu⟩
theorem mut_imp {Q : VK} (h : rdE W Ev Γ K (.mut m a es) σ H Q) : tMD (fun T => T = "list") (fun _ => rdM K m) (rdP W Ev Γ K a) (rdA W Ev Γ K es) σ H Q := by
  obtain ⟨fr, e, tm, bs, hK, s, sb, ok⟩ := h
  simp only [evE] at ok
  refine ⟨fr, e, tm, bs, hK, s, sb, (OkR.bind ok).mono (fun x hx ok1 v H1 r hσ s1 => ?_) fun _ _ _ z => z⟩
  obtain ⟨g, ok2⟩ := OkR.guard ok1
  refine ⟨"list", rfl, okP_list g hσ s1, fr.at ⟨x.1, r, x.2.1, v⟩, x.2.2, tm, x.1 :: bs, hK, s1, sb.pth, (OkR.bind ok2).mono (fun y hy ok3 vs H2 hl s2 => ?_) fun _ _ _ z => z.pth⟩
  exact mut_tail hK hσ s1 sb hl s2 ok3
theorem mut0_imp {Q : VK} (h : rdE W Ev Γ K (.mut m a .nil) σ H Q) : tMD0 (fun T => T = "list") (fun _ => rdM K m) (rdP W Ev Γ K a) σ H Q := by
  obtain ⟨fr, e, tm, bs, hK, s, sb, ok⟩ := h
  simp only [evE, evEs] at ok
  refine ⟨fr, e, tm, bs, hK, s, sb, (OkR.bind ok).mono (fun x hx ok1 v H1 r hσ s1 => ?_) fun _ _ _ z => z⟩
  obtain ⟨g, ok2⟩ := OkR.guard ok1
  exact ⟨"list", rfl, okP_list g hσ s1, mut_tail hK hσ s1 sb rfl s1 ok2⟩
def mutNames : List Str := ["append", "pop", "insert", "remove"]
theorem mtAll_of (hm : m ∈ mutNames) : MtAll X m (fun T => T = "list") (fun _ => rdM X.K m) := by
  simp only [mutNames, List.mem_cons, List.not_mem_nil, or_false] at hm
  rcases hm with rfl | rfl | rfl | rfl
  · exact mtAll_append
  · exact mtAll_pop
  · exact mtAll_insert
  · exact mtAll_remove
theorem rd_mut {o : Expr} (hm : m ∈ mutNames) (ho : PE X o (rdP W Ev Γ X.K a)) (ha : PA X (ea :: xs) (rdA W Ev Γ X.K es)) (sh : McOk X o m apos pos (ea :: xs)) (hs : starEach (ea :: xs) X.env = (false, eval ea X.env) :: starEach xs X.env) (hpl : (backTo pos (starEach xs X.env)).any (·.1) = false) :
    PE X (.Call (.Attribute o m apos) (ea :: xs) [] pos) (rdE W Ev Γ X.K (.mut m a es)) :=
  peI (pe_md (mtAll_of hm) ho ha sh.base sh.few sh.line hs hpl) fun σ H Q h => mut_imp h
theorem rd_mut0 {o : Expr} (hm : m ∈ mutNames) (ho : PE X o (rdP W Ev Γ X.K a)) (hb : attributeBase o m X.env (eval o X.env) = eval o X.env) (hl : (apos.endLine == pos.line) = true) :
    PE X (.Call (.Attribute o m apos) [] [] pos) (rdE W Ev Γ X.K (.mut m a .nil)) :=
  peI (pe_md0 (mtAll_of hm) ho hb hl) fun σ H Q h => mut0_imp h
def tyS : D → String
  | .non => "NoneType" | .bl _ => "bool" | .int _ => "int" | .str _ => "str" | .tup _ => "tuple" | .lst _ => "list" | .dct _ => "dict" | .ins _ _ => "object" | .arg _ => "list"
def tyTab : List (Str × String) := [("int", "int"), ("bool", "bool"), ("str", "str"), ("list", "list"), ("tuple", "tuple"), ("dict", "dict")]
def isTy (d : D) (n : Str) : Bool := tyName d == n || (n == ("int" : Str) && tyName d == ("bool" : Str))
theorem Rp.tyX {dx : D} (p : Rp K H v dx) : TyX K H v (.type (tyS dx)) := by
  obtain ⟨_, _, _, r⟩ := p
  cases r with
  | non => exact .base .non
  | bl b => exact .base (.bl b)
  | int i => exact .base (.int i)
  | str s => exact .base (.str s)
  | arg h =>
    rcases h with ⟨o, h⟩ | ⟨o, _, _, h, c, _⟩
    · exact .base (.frz h)
    · exact .kList h c
  | tup h _ _ => exact .fTuple h
  | lst0 h _ _ => exact .base (.lst h)
  | lst1 h _ => exact .base (.lst h)
theorem Rp.kit {dx : D} (p : Rp K H v dx) {n : Str} {s : String} (h : (n, s) ∈ tyTab) : PySem.W.kitOne K (.type (tyS dx)) (.type s) = some (isTy dx n) := by
  refine kit_ty ?_
  obtain ⟨_, _, _, r⟩ := p
  simp only [tyTab, List.mem_cons, List.not_mem_nil, or_false, Prod.mk.injEq] at h
  rcases h with ⟨rfl, rfl⟩ | ⟨rfl, rfl⟩ | ⟨rfl, rfl⟩ | ⟨rfl, rfl⟩ | ⟨rfl, rfl⟩ | ⟨rfl, rfl⟩ <;> cases r <;> (simp only [tyS, isTy, tyName]; decide +kernel)
end
end VI
set_option autoImplicit true
set_option Elab.async false
set_option linter.all false
set_option maxRecDepth 100000
set_option maxHeartbeats 4000000
namespace VI
open PySem PySem.Spec PyProof.Rows L2
section
variable {W : WX} {Ev : EvT} {Γ : Sm} {K : PySem.W.Frag} {X : Cx} {fr : Fr} {σ σ' : L2.St} {H H' : Hp} {e e' : Env} {tm : List Tmp} {F : Addr → Prop} {lab : Lab} {t : Tg} {v r w : V} {d : D} {c : Tmp} {i j k : Nat} {x m : Str} {p pos apos : Pos} {a b cc : CE} {ea eb ec : Expr} {es : CEs} {xs : List Expr} {ta : TA} {q : List Nat} {vs : List V} {as : List (Tg × D)}
inductive TyNames (X : Cx) : List Expr → List Str → List String → Prop
  | nil : TyNames X [] [] []
  | cons {n : Str} {s : String} {p : Pos} {es : List Expr} {ns : List Str} {ss : List String} (h : (n, s) ∈ tyTab) (hg : Gl X n) (hm : X.mg n = none) (r : TyNames X es ns ss) : TyNames X (.Name n p :: es) (n :: ns) (s :: ss)
theorem ty_boot {n : Str} {s : String} (h : (n, s) ∈ tyTab) : bootBuiltins n = some (.type s) ∧ n ≠ "__name__" ∧ (n == ("__debug__" : Str)) = false := by
  simp only [tyTab, List.mem_cons, List.not_mem_nil, or_false, Prod.mk.injEq] at h
  rcases h with ⟨rfl, rfl⟩ | ⟨rfl, rfl⟩ | ⟨rfl, rfl⟩ | ⟨rfl, rfl⟩ | ⟨rfl, rfl⟩ | ⟨rfl, rfl⟩ <;> exact ⟨by decide +kernel, by decide, by decide⟩
theorem pe_ty {n : Str} {s : String} (h : (n, s) ∈ tyTab) (hg : Gl X n) (hm : X.mg n = none) : PE X (.Name n p) (tC (.ty s)) :=
  pe_bltn hg hm (ty_boot h).1 (show RelV (.ty s) (.type s) from rfl) (ty_boot h).2.1 (ty_boot h).2.2
theorem pa_tys {es : List Expr} {ns : List Str} {ss : List String} (h : TyNames X es ns ss) : PA X es (fun σ H Q => Q (ss.map V.ty) H) := by
  induction h with
  | nil => exact paI pa_nil fun σ H Q h => h
  | cons h hg hm r ih => exact paI (pa_cons (pe_ty h hg hm) ih rfl) fun σ H Q h => h
theorem tys_cls {es : List Expr} {ns : List Str} {ss : List String} (h : TyNames X es ns ss) : Paired ClsV (ss.map V.ty) (ss.map Value.type) := by
  induction h with
  | nil => exact .nil
  | cons h hg hm r ih => exact .cons (.ty _) ih
theorem tys_any {es : List Expr} {ns : List Str} {ss : List String} {dx : D} (p : Rp K H v dx) (h : TyNames X es ns ss) : PySem.W.kitAny K (.type (tyS dx)) (ss.map Value.type) = some (isiV dx ns) := by
  induction h with
  | nil => exact kitAny_nil
  | @cons n s p' es ns ss h hg hm r ih =>
    have h1 := p.kit h
    refine kitAny_cons h1 (fun hb => ?_) (fun hb => ?_)
    · rw [ih]
      congr 1
      show isiV dx ns = (isTy dx n || isiV dx ns)
      rw [hb]; rfl
    · show (isTy dx n || isiV dx ns) = true
      rw [hb]; rfl
theorem rd_isi1 {n : Str} {s : String} {p2 : Pos} (h : (n, s) ∈ tyTab) (hg : Gl X n) (hm : X.mg n = none) (hgi : Gl X "isinstance") (hmi : X.mg "isinstance" = none) (ha : PE X ea (rdE W Ev Γ X.K a))
    (hs : starEach (ea :: [.Name n p2]) X.env = (false, eval ea X.env) :: starEach [.Name n p2] X.env) : PE X (.Call (.Name "isinstance" p) [ea, .Name n p2] [] pos) (rdE W Ev Γ X.K (.isi a [n])) :=
  peI (pe_callB call_isi hgi hmi (by decide +kernel) (pa_cons ha (pa_cons (pe_ty h hg hm) pa_nil rfl) hs) (by decide) (by decide) hs rfl) fun σ H Q ⟨fr, e, tm, bs, hK, s', sb, ok⟩ => by
    simp only [evE] at ok
    refine ⟨fr, e, tm, bs, hK, s', sb, (OkR.bind ok).mono (fun x hx ok1 v H1 s1 => ?_) fun _ _ _ z => z⟩
    have p0 : Rp X.K H1 v x.2.1 := hK ▸ s1.top
    refine ⟨v, .ty s, .type (tyS x.2.1), .type s, isTy x.2.1 n, rfl, .ty s, p0.tyX, p0.kit h, ?_⟩
    have e1 : isTy x.2.1 n = isiV x.2.1 [n] := by
      show isTy x.2.1 n = (isTy x.2.1 n || false)
      rw [Bool.or_false]
    rw [e1]
    exact ok1 _ _ (s1.drop.sc rfl)
theorem Rl.laid {o : HO} {p : Addr} (s : Rl fr σ H e tm) (h : H p = none) : Rl fr σ (upd H p o) e tm := let ⟨F, lab, s⟩ := s; ⟨F, lab, s.laid h⟩
theorem rd_isiT {ns : List Str} {ss : List String} {ts : List Expr} {x1 : Nat} {p2 : Pos} (h : TyNames X ts ns ss) (hl : ss.length ≤ 100) (hgi : Gl X "isinstance") (hmi : X.mg "isinstance" = none) (ha : PE X ea (rdE W Ev Γ X.K a))
    (hs : starEach (ea :: [.Tuple ts x1 p2]) X.env = (false, eval ea X.env) :: starEach [.Tuple ts x1 p2] X.env) : PE X (.Call (.Name "isinstance" p) [ea, .Tuple ts x1 p2] [] pos) (rdE W Ev Γ X.K (.isi a ns)) :=
  peI (pe_callB call_isiT hgi hmi (by decide +kernel) (pa_cons ha (pa_cons (pe_tup (pa_tys h)) pa_nil rfl) hs) (by decide) (by decide) hs rfl) fun σ H Q ⟨fr, e, tm, bs, hK, s', sb, ok⟩ => by
    simp only [evE] at ok
    refine ⟨fr, e, tm, bs, hK, s', sb, (OkR.bind ok).mono (fun x hx ok1 v H1 s1 => ?_) fun _ _ _ z => z⟩
    refine ⟨by rw [List.length_map, sizeLine_eq]; omega, fun q hq => ?_⟩
    have s2 := s1.laid (o := .tup (ss.map V.ty)) hq
    have p0 : Rp X.K (upd H1 q (.tup (ss.map V.ty))) v x.2.1 := hK ▸ s2.top
    exact ⟨v, q, ss.map V.ty, .type (tyS x.2.1), ss.map Value.type, isiV x.2.1 ns, rfl, upd_same, tys_cls h, p0.tyX, tys_any p0 h, ok1 _ _ (s2.drop.sc rfl)⟩
def Fixed (fr : Fr) (σ : L2.St) : Prop := ∀ q ∈ fr.fix, σ[q.1]? = some (some q.2)
def CT.slots : CT → List Nat
  | .name i => [i]
  | .two a b => a.slots ++ b.slots
  | .three a b c => a.slots ++ (b.slots ++ c.slots)
def rdG (K : PySem.W.Frag) (g : CT) : TG := fun v σ H Q => ∃ fr e tm bs t d e', fr.K = K ∧ Rl fr σ H e (⟨t, v, d⟩ :: tm) ∧ Sub fr tm bs ∧ bindT g e bs t d = some e' ∧
  ∀ σ', Rl fr σ' H e' tm → (∀ i, i ∉ g.slots → σ'[i]? = σ[i]?) → Q σ' H
theorem rdG_name (h : PG X (.Name x pos) (gName i)) : PG X (.Name x pos) (rdG K (.name i)) := ⟨fun pins s σ H v u Q I r ⟨fr, e, tm, bs, t, d, e', hK, s', sb, hb, q⟩ =>
  h.run pins s σ H v u Q I r (q _ (s'.bind hb sb) fun j hj => List.getElem?_set_ne fun z => hj (by simp [CT.slots, z]))⟩
theorem Fixed.of (h : Fixed fr σ) {S : List Nat} (h0 : ∀ q ∈ fr.fix, q.1 = 0) (hf : 0 ∉ S) (hk : ∀ i, i ∉ S → σ'[i]? = σ[i]?) : Fixed fr σ' := fun q hq => by
  rw [hk q.1 (by rw [h0 q hq]; exact hf)]; exact h q hq
theorem Rl.unpack {ds : List D} (s : Rl fr σ H e (⟨t, v, .tup ds⟩ :: tm)) : ∃ a us, v = .ref a ∧ SqT fr.K H a us ∧ us.length = ds.length ∧ (∀ x y, ds = [x, y] → ∃ vx vy, us = [vx, vy] ∧ Rl fr σ H e (⟨VI.nrm t x, vx, x⟩ :: ⟨VI.nrm t y, vy, y⟩ :: tm))  := by
  obtain ⟨F, lab, st⟩ := s
  have h0 := st.tmps.1
  obtain ⟨a, o, us, rfl, ha, _, hl⟩ := st.top.tup
  refine ⟨a, us, rfl, .inl (.inr ⟨o, ha⟩), hl, fun x y hd => ?_⟩
  · subst hd
    unfold TmpOk at h0
    cases t with
    | bor i b =>
      obtain ⟨vx, h1, c1⟩ := Cell.itemT (i := 0) h0 ha rfl
      obtain ⟨vy, h2, c2⟩ := Cell.itemT (i := 1) h0 ha rfl
      have hus : us = [vx, vy] := by
        match us, hl with
        | [p, q], _ => simp at h1 h2; rw [h1, h2]
      exact ⟨vx, vy, hus, Rl.nrm ⟨F, lab, st.good, st.slots, c1, TmpOk.nrm (t := .bor i b) (n := tm.length) c2, st.tmps.2⟩⟩
    | own k =>
      obtain ⟨fp, r0, nd, hl'⟩ := h0
      obtain ⟨a', o', us', ea', ha', _, rr⟩ := r0.tup_v
      cases ea'
      rw [ha] at ha'; cases ha'
      clear r0
      cases rr with
      | @cons _ vx _ _ _ fx _ r1 rr1 =>
          cases rr1 with
          | @cons _ vy _ _ _ fy _ r2 rr2 =>
            cases rr2
            obtain ⟨n1, n2, n3⟩ := List.nodup_append.mp nd
            rw [List.append_nil] at n2 n3
            classical
            refine ⟨vx, vy, rfl, ?_⟩
            have hx : ∀ b ∈ fx, lab b = some (.t tm.length) := fun b hb => hl' b (List.mem_append_left _ hb)
            have hy : ∀ b ∈ fy, lab b = some (.t tm.length) := fun b hb => hl' b (List.mem_append_right _ (by simpa using hb))
            have kl : ∀ b l, lab b = some l → l ≠ .t tm.length → (if b ∈ fx then some (Lb.t (tm.length + 1)) else lab b) = some l := fun b l hb hn => by
              rw [if_neg (fun z => hn (Option.some.inj (hb.symm.trans (hx b z))))]; exact hb
            have lt' : ∀ b l, (if b ∈ fx then some (Lb.t (tm.length + 1)) else lab b) = some l → ∃ l', lab b = some l' := fun b l hb => by
              split at hb
              · rename_i hz; exact ⟨_, hx b hz⟩
              · exact ⟨l, hb⟩
            refine Rl.nrm ⟨F, fun b => if b ∈ fx then some (.t (tm.length + 1)) else lab b, ⟨st.good.f0, st.good.fnew, fun b hb => ?_, st.good.ft, fun b l hb => ?_, fun b l hb => ?_, st.good.keep, st.good.there, st.good.p0, st.good.ftup, fun q hq => (st.good.pth q hq).keep (fun _ _ _ h => h) fun b hb => kl b _ hb (by simp)⟩, ?_, ?_, ?_, ?_⟩
            · show (if b ∈ fx then some (Lb.t (tm.length + 1)) else lab b) = none
              rw [if_neg (fun z => by have := hx b z; rw [st.good.fl b hb] at this; cases this)]
              exact st.good.fl b hb
            · obtain ⟨l', h'⟩ := lt' b l hb; exact st.good.lt b l' h'
            · obtain ⟨l', h'⟩ := lt' b l hb; exact st.good.lnew b l' h'
            · exact st.slots.keep keeps_self lists_none (fun _ _ z => z) (fun _ h => h) fun b i hb => ⟨id, kl b _ hb (by simp)⟩
            · exact ⟨fx, r1, n1, fun b hb => if_pos hb⟩
            · refine TmpOk.nrm (t := .own k) (n := tm.length) ⟨fy, r2, n2, fun b hb => ?_⟩
              show (if b ∈ fx then some (Lb.t (tm.length + 1)) else lab b) = _
              rw [if_neg (fun z => n3 b z b hb rfl)]; exact hy b hb
            · exact st.tmps.2.keep keeps_self lists_none (fun _ _ z => z) (fun _ h => h) fun b l hb z => ⟨id, kl b l hb fun y => by
                rcases z with ⟨n, hn, rfl⟩ | ⟨c, hc, i', hi', rfl⟩
                · cases y; omega
                · cases y⟩
end
end VI
set_option autoImplicit true
set_option Elab.async false
set_option linter.all false
set_option maxRecDepth 100000
set_option maxHeartbeats 4000000
namespace VI
open PySem PySem.Spec PyProof.Rows L2
section
variable {W : WX} {Ev : EvT} {Γ : Sm} {K : PySem.W.Frag} {X : Cx} {fr : Fr} {σ σ' : L2.St} {H H' : Hp} {e e' : Env} {tm : List Tmp} {F : Addr → Prop} {lab : Lab} {t : Tg} {v r w : V} {d : D} {c : Tmp} {i j k n : Nat} {x m : Str} {p pos apos : Pos} {a b cc : CE} {ea eb ec : Expr} {es : CEs} {xs : List Expr} {ta : TA} {q : List Nat} {vs : List V} {as : List (Tg × D)} {g : CT}
theorem bindE_own {bs : List Nat} (h : e.bindE bs i t d = some e') : ∃ k, t = .own k := by
  unfold Env.bindE at h
  split at h
  · cases h
  · cases t with
    | own k => exact ⟨k, rfl⟩
    | bor i b => cases h
theorem bindT_own : ∀ {g : CT} {e e' : Env} {bs : List Nat} {t : Tg} {d : D}, bindT g e bs t d = some e' → (nrm t d).slots = []
  | .name i, e, e', bs, t, d, h => by
    obtain ⟨k, rfl⟩ := bindE_own h
    unfold nrm; split <;> rfl
  | .two a b, e, e', bs, t, d, h => by
    unfold bindT at h
    split at h
    · rename_i x y
      split at h
      · rename_i e1 h1
        have q1 := bindT_own h1
        have q2 := bindT_own h
        unfold nrm at q1 q2 ⊢
        by_cases hx : x.flat = true
        · by_cases hy : y.flat = true
          · rw [if_pos (by simp [D.flat, D.flats, hx, hy])]; rfl
          · rw [if_neg hy, if_neg hy] at q2
            split
            · rfl
            · exact q2
        · rw [if_neg hx, if_neg hx] at q1
          split
          · rfl
          · exact q1
      · cases h
    · cases h
  | .three _ _ _, _, _, _, _, _, h => by cases h
theorem nrm_nrm : nrm (nrm t d) d = nrm t d := by unfold nrm; split <;> rfl
theorem pgI {target : Expr} {t t' : TG} (h : PG X target t) (m : ∀ v σ H Q, t' v σ H Q → t v σ H Q) : PG X target t' := ⟨fun pins s σ H v u Q I r q => h.run pins s σ H v u Q I r (m _ _ _ _ q)⟩
def isStar : Expr → Bool
  | .Starred .. => true
  | _ => false
theorem star_cons {env : PySem.Env} {e : Expr} {es : List Expr} (h : isStar e = false) : starEach (e :: es) env = (false, eval e env) :: starEach es env := by cases e <;> first | rfl | cases h
theorem asg_cons {env : PySem.Env} {e : Expr} {es : List Expr} (h : isStar e = false) : assignEach (e :: es) env = (false, assign e env) :: assignEach es env := by cases e <;> first | rfl | cases h
theorem rdG_two {g1 g2 : CT} {e1 e2 : Expr} {k : Nat} (hc : X.calm = true) (h1 : PG X e1 (rdG X.K g1)) (h2 : PG X e2 (rdG X.K g2)) (n1 : isStar e1 = false) (n2 : isStar e2 = false) : PG X (.Tuple [e1, e2] k pos) (rdG X.K (.two g1 g2)) := by
  have a1 : assignEach [e1, e2] X.env = (false, assign e1 X.env) :: assignEach [e2] X.env := asg_cons n1
  have a2 : assignEach [e2] X.env = (false, assign e2 X.env) :: assignEach [] X.env := asg_cons n2
  refine pgI (pg_tup hc (pgs_cons h1 (pgs_cons h2 pgs_nil (by rw [a2]; rfl)) (by rw [a1]; rfl)) (by rw [a1, a2]; try rfl) (by rw [a1, a2]; try rfl)) fun v σ H Q ⟨fr, e, tm, bs, t, d, e', hK, s, sb, hb, q⟩ => ?_
  unfold bindT at hb
  split at hb
  · rename_i x y
    split at hb
    · rename_i ex hx
      obtain ⟨a, us, rfl, hq, hl, h2⟩ := s.unpack
      obtain ⟨vx, vy, rfl, s2⟩ := h2 x y rfl
      have sl := bindT_own hb
      rw [nrm_nrm] at sl
      refine ⟨a, _, rfl, hK ▸ hq, rfl, vx, [vy], rfl, fr, e, ⟨nrm t y, vy, y⟩ :: tm, bs, nrm t x, x, ex, hK, s2, ⟨fun c hc i hi => ?_, sb.2⟩, hx, fun σ1 s3 k1 => ?_⟩
      · rcases List.mem_cons.mp hc with z | z
        · subst z; dsimp only at hi; rw [sl] at hi; simp at hi
        · exact sb.1 c z i hi
      · refine ⟨vy, [], rfl, fr, ex, tm, bs, nrm t y, y, e', hK, s3, sb, hb, fun σ2 s4 k2 => ⟨rfl, q σ2 s4 fun i hi => ?_⟩⟩
        have hi' : i ∉ g1.slots ∧ i ∉ g2.slots := by simpa [CT.slots, not_or] using hi
        rw [k2 i hi'.2, k1 i hi'.1]
    · cases hb
  · cases hb
structure Wk (J : It) (n : Nat) (item : Nat → Hp → V → Prop) (ok : Hp → Prop) : Prop where
  go : ∀ i H, ok H → i < n → J.go i H
  yld : ∀ i H x H', ok H → i < n → J.yld i H x H' → H' = H ∧ item i H x
  stop : ∀ H, ok H → J.stop n H
theorem wk_list {a : Addr} : Wk (Itl K a) n (fun i H x => ∀ us, H a = some (.lst us) → us[i]? = some x) (fun H => ∃ us, H a = some (.lst us) ∧ us.length = n) where
  go := fun i H ⟨us, h1, h2⟩ hi => ⟨us, us[i]'(by omega), .of h1, List.getElem?_eq_getElem _⟩
  yld := fun i H x H' _ _ y => ⟨y.1, fun us hu => y.2 us (.of hu)⟩
  stop := fun H ⟨us, h1, h2⟩ => ⟨us, .of h1, by omega⟩
theorem wk_tup {a : Addr} : Wk (Itt K a) n (fun i H x => ∀ o us, H a = some (.frz o (.tup us)) → us[i]? = some x) (fun H => ∃ o us, H a = some (.frz o (.tup us)) ∧ us.length = n) where
  go := fun i H ⟨o, us, h1, h2⟩ hi => ⟨us, us[i]'(by omega), .inl (.inr ⟨o, h1⟩), List.getElem?_eq_getElem _⟩
  yld := fun i H x H' _ _ y => ⟨y.1, fun o us hu => y.2 us (.inl (.inr ⟨o, hu⟩))⟩
  stop := fun H ⟨o, us, h1, h2⟩ => ⟨us, .inl (.inr ⟨o, h1⟩), by omega⟩
theorem wk_rng {lo : Int} : Wk (Itr lo n) n (fun i H x => x = .int (lo + i)) (fun _ => True) where
  go := fun i H _ hi => hi
  yld := fun i H x H' _ _ y => y
  stop := fun H _ => Nat.le_refl _
theorem for_wk {J : It} {item : Nat → Hp → V → Prop} {ok : Hp → Prop} (wk : Wk J n item ok) {g : TG} {tb : TS} {D : Ends} {σ : L2.St} {H : Hp} (Pv : Nat → L2.St → Hp → Prop) (h0 : Pv 0 σ H) (hok : ∀ i σ H, Pv i σ H → ok H)
    (hs : ∀ i x σ H, i < n → item i H x → Pv i σ H → g x σ H fun σ2 H2 => tb { D with nx := Pv (i + 1), ct := Pv (i + 1), bk := D.nx } σ2 H2) (hd : ∀ σ H, Pv n σ H → D.nx σ H) :
    ∃ W : Nat → Nat → L2.St → Hp → Prop, (∃ m, W 0 m σ H) ∧ ∀ i m σ H, W i m σ H →
      (J.stop i H ∧ D.nx σ H) ∨ (J.go i H ∧ ∃ N : L2.St → Hp → Prop, (∀ σ' H', N σ' H' → ∃ m', m' < m ∧ W (i + 1) m' σ' H') ∧ ∀ x H', J.yld i H x H' → g x σ H' fun σ2 H2 => tb { D with nx := N, ct := N, bk := D.nx } σ2 H2) := by
  refine ⟨fun i m σ H => m = n - i ∧ i ≤ n ∧ Pv i σ H, ⟨n, by simp, Nat.zero_le _, h0⟩, ?_⟩
  rintro i m σ H ⟨rfl, hi, p⟩
  by_cases hlt : i < n
  · refine .inr ⟨wk.go i H (hok _ _ _ p) hlt, Pv (i + 1), fun σ' H' p' => ⟨n - (i + 1), by omega, rfl, hlt, p'⟩, fun x H' y => ?_⟩
    obtain ⟨rfl, y⟩ := wk.yld i H x H' (hok _ _ _ p) hlt y
    exact hs i x σ _ hlt y p
  · have e : i = n := by omega
    subst e
    exact .inl ⟨wk.stop H (hok _ _ _ p), hd σ H p⟩
structure Walk (fr : Fr) (tm : List Tmp) (s : Its) (J : It) (c : Tmp) : Prop where
  sl : ∀ i ∈ c.t.slots, i ∈ s.os
  isl : ∀ d, ∀ i ∈ (nrm s.t d).slots, i ∈ s.os
  wk : ∃ item ok, Wk J s.xs.length item ok ∧ (∀ σ H e, Rl fr σ H e (c :: tm) → ok H) ∧ ∀ i d σ H e x tm', s.xs[i]? = some d → (∃ tz, tm' = tz ++ c :: tm) → Rl fr σ H e tm' → item i H x → Rl fr σ H e (⟨nrm s.t d, x, d⟩ :: tm')
variable (W Ev Γ K) in
def rdI (it : CI) : TI := fun σ H R => ∃ fr e tm bs, fr.K = K ∧ Rl fr σ H e tm ∧ Sub fr tm bs ∧ OkR (fun s => ∀ J H1 c, Rl fr σ H1 s.2 (c :: tm) → Walk fr tm s.1 J c → R J H1) (Zx W Ev fr σ tm) (evI Γ it bs e)
def iSeq (K : PySem.W.Frag) (tl : TE) : TI := fun σ H R => tl σ H fun x H1 => ∃ a, x = .ref a ∧ (((∃ xs, SqL K H1 a xs) ∧ R (Itl K a) H1) ∨ ((∃ xs, SqT K H1 a xs) ∧ R (Itt K a) H1))
theorem piI {tg iter : Expr} {t t' : TI} (h : PI X tg iter t) (m : ∀ σ H Q, t' σ H Q → t σ H Q) : PI X tg iter t' := ⟨fun pins s σ H R I q => h.run pins s σ H R I (m _ _ _ q)⟩
theorem pi_seq {tg l : Expr} {tl : TE} (hl : PE X l tl) : PI X tg l (iSeq X.K tl) := by
  refine ⟨fun pins s σ H R I h => ?_⟩
  refine thn (hl.run pins s σ H _ I h) fun v s1 ⟨x, H1, I1, r1, a, e, q⟩ => ?_
  subst e
  cases r1
  rcases q with ⟨⟨xs, hq⟩, q⟩ | ⟨⟨xs, hq⟩, q⟩
  · obtain ⟨its, rv, p, hz⟩ := I1.list hq
    refine wpAny_pyIter_list p.isList ?_
    refine ⟨s1.heap.objs.size, [s1.heap.objs.size], _, _, H1, rfl, I1.kept (t' := s1.toks) fun b o e => Heap.get?_push_of_some _ e, turn_list a _, ⟨_, Heap.get?_push_size _ rfl, rfl, rfl⟩, fun b hb => ?_, q⟩
    have e : b = s1.heap.objs.size := by simpa using hb
    subst e
    exact I1.fpOk (Nat.le_refl _) (I1.hok.fresh (Nat.le_refl _))
  · obtain ⟨its, rv, p, hz⟩ := I1.tuple hq
    refine wpAny_pyIter_tuple (show s1.heap.IsTuple a its.toArray from p) ?_
    refine ⟨s1.heap.objs.size, [s1.heap.objs.size], _, _, H1, rfl, I1.kept (t' := s1.toks) fun b o e => Heap.get?_push_of_some _ e, turn_tuple a _, ⟨_, Heap.get?_push_size _ rfl, rfl, rfl⟩, fun b hb => ?_, q⟩
    have e : b = s1.heap.objs.size := by simpa using hb
    subst e
    exact I1.fpOk (Nat.le_refl _) (I1.hok.fresh (Nat.le_refl _))
theorem Rl.chill (s : Rl fr σ H e (⟨t, v, d⟩ :: tm)) : Rl fr σ H e (⟨froz t, v, d⟩ :: tm) := by
  cases t with
  | bor i b => exact s
  | own k =>
    obtain ⟨F, lab, st⟩ := s
    obtain ⟨fp, r, nd, hl⟩ := (show Cell fr.K H F lab (.t tm.length) k v d from st.tmps.1)
    obtain ⟨lab', s', h'⟩ := (St.drop st).frost (Z := fp) fun a ha => ⟨tm.length, Nat.le_refl _, hl a ha⟩
    exact ⟨_, lab', s'.good, s'.slots, ⟨[], r.ice nd (fun _ h => .inl h) (fun a ha => .inr ha), List.nodup_nil, by simp⟩, s'.tmps⟩
theorem Tmps.mem : ∀ {tm : List Tmp}, Tmps K H F lab tm → ∀ c ∈ tm, ∃ n, TmpOk K H F lab n c
  | [], _, _, h => by simp at h
  | x :: r, h, c, hc => by
    rcases List.mem_cons.mp hc with z | z
    · subst z; exact ⟨_, h.1⟩
    · exact Tmps.mem h.2 c z
theorem TmpOk.shift {m n : Nat} (x : TmpOk K H F lab n ⟨t, v, d⟩) (h : t = .own 0 ∨ ∃ i b, t = .bor i b) : TmpOk K H F lab m ⟨t, v, d⟩ := by
  rcases h with rfl | ⟨i, b, rfl⟩
  · exact Cell.zero x
  · exact x
theorem froz_item : (froz t).item = .own 0 ∨ ∃ i b, (froz t).item = .bor i b := by
  cases t with
  | own k => exact .inl rfl
  | bor i b => cases b with
    | zero => exact .inl rfl
    | succ b => exact .inr ⟨i, b, rfl⟩
theorem froz_own : froz t = .own 0 ∨ ∃ i b, froz t = .bor i b := by
  cases t with
  | own k => exact .inl rfl
  | bor i b => exact .inr ⟨i, b, rfl⟩
theorem item_slots : ∀ i ∈ (froz t).item.slots, i ∈ (froz t).slots := fun i hi => by
  cases t with
  | own k => simp [froz, Tg.item, Tg.slots] at hi
  | bor j b => cases b with
    | zero => simp [froz, Tg.item, Tg.slots] at hi
    | succ b => exact hi
theorem nrm_sl : ∀ i ∈ (nrm t d).slots, i ∈ t.slots := fun i hi => by
  unfold nrm at hi
  split at hi
  · simp [Tg.slots] at hi
  · exact hi
theorem rdI_seq {tg : Expr} (ha : PE X ea (rdE W Ev Γ X.K a)) : PI X tg ea (rdI W Ev Γ X.K (.seq a)) := piI (pi_seq ha) fun σ H R ⟨fr, e, tm, bs, hK, s, sb, ok⟩ => by
  simp only [evI] at ok
  refine ⟨fr, e, tm, bs, hK, s, sb, (OkR.bind ok).mono (fun x hx ok1 v H1 s1 => ?_) fun _ _ _ z => z⟩
  obtain ⟨it, hi, ok2⟩ := OkR.okMb ok1
  obtain ⟨t, d, e1⟩ := x
  have s2 := s1.chill
  unfold seqI at hi
  dsimp only at hi
  split at hi
  · rename_i ds
    cases hi
    obtain ⟨a, us, rfl, hu, hl⟩ := s1.top.lst
    refine ⟨a, rfl, .inl ⟨⟨us, .of hu⟩, ok2 _ H1 _ s2 ⟨fun i hi => hi, fun d i hi => item_slots i (nrm_sl i hi), _, _, wk_list, fun σ H e s => ?_, fun i d σ H e x tm' hd ht s hx => ?_⟩⟩⟩
    · obtain ⟨a', us', e', h1, h2⟩ := s.top.lst
      cases e'
      exact ⟨us', h1, h2⟩
    · obtain ⟨tz, rfl⟩ := ht
      obtain ⟨F, lab, st⟩ := s
      obtain ⟨n, hn⟩ := st.tmps.mem _ (List.mem_append_right _ List.mem_cons_self)
      obtain ⟨_, _, r⟩ := hn.rep
      obtain ⟨a', us', e', h1, _⟩ := r.lst_v
      cases e'
      obtain ⟨w, hw, tk⟩ := hn.itemL h1 hd
      have := hx us' h1
      rw [hw] at this; cases this
      exact Rl.nrm ⟨F, lab, st.good, st.slots, tk.shift froz_item, st.tmps⟩
  · rename_i ds
    cases hi
    obtain ⟨a, o, us, rfl, hu, ho, hl⟩ := s1.top.tup
    refine ⟨a, rfl, .inr ⟨⟨us, .inl (.inr ⟨o, hu⟩)⟩, ok2 _ H1 _ s2 ⟨fun i hi => hi, fun d i hi => nrm_sl i hi, _, _, wk_tup, fun σ H e s => ?_, fun i d σ H e x tm' hd ht s hx => ?_⟩⟩⟩
    · obtain ⟨a', o', us', e', h1, _, h2⟩ := s.top.tup
      cases e'
      exact ⟨o', us', h1, h2⟩
    · obtain ⟨tz, rfl⟩ := ht
      obtain ⟨F, lab, st⟩ := s
      obtain ⟨n, hn⟩ := st.tmps.mem _ (List.mem_append_right _ List.mem_cons_self)
      obtain ⟨_, _, r⟩ := hn.rep
      obtain ⟨a', o', us', e', h1, _⟩ := r.tup_v
      cases e'
      obtain ⟨w, hw, tk⟩ := hn.itemT h1 hd
      have := hx o' us' h1
      rw [hw] at this; cases this
      exact Rl.nrm ⟨F, lab, st.good, st.slots, tk.shift froz_own, st.tmps⟩
  · cases hi
theorem walk_rng {lo hi : Int} {o : List Nat} : Walk fr tm ⟨.own 9, rngI lo hi, []⟩ (Itr lo (hi - lo).toNat) ⟨.own 9, .non, .non⟩ := by
  have hl : (rngI lo hi).length = (hi - lo).toNat := by unfold rngI; rw [List.length_map, List.length_range]
  refine ⟨fun i hi => by simp [Tg.slots] at hi, fun d i hi => ?_, _, _, by dsimp only; rw [hl]; exact wk_rng, fun _ _ _ _ => trivial, fun i d σ H e x tm' hd _ s hx => ?_⟩
  · have := nrm_sl i hi; simp [Tg.slots] at this
  · subst hx
    dsimp only at hd
    unfold rngI at hd
    rw [List.getElem?_map] at hd
    have hi : i < (hi - lo).toNat := by
      cases q : (List.range (hi - lo).toNat)[i]? with
      | none => rw [q] at hd; cases hd
      | some z => have := (List.getElem?_eq_some_iff.mp q).1; simpa using this
    rw [List.getElem?_range hi] at hd
    cases hd
    exact s.sc rfl
theorem rdI_rng1 {tg : Expr} (hg : Gl X "range") (hm : X.mg "range" = none) (ha : PE X ea (rdE W Ev Γ X.K a)) (hs : starEach [ea] X.env = [(false, eval ea X.env)]) : PI X tg (.Call (.Name "range" p) [ea] [] pos) (rdI W Ev Γ X.K (.rng a)) :=
  piI (pi_range1 hg hm (pa_cons ha pa_nil hs) hs) fun σ H R ⟨fr, e, tm, bs, hK, s, sb, ok⟩ => by
    simp only [evI] at ok
    refine ⟨fr, e, tm, bs, hK, s, sb, (OkR.bind ok).mono (fun x hx ok1 v H1 s1 => ?_) fun _ _ _ z => z⟩
    obtain ⟨t, d, e1⟩ := x
    cases d with
    | int n =>
      obtain ⟨g, ok2⟩ := OkR.guard ok1
      have g := of_decide_eq_true g
      have := ok2 (Itr 0 (n - 0).toNat) H1 _ (s1.drop.sc (t := .own 9) (d := .non) rfl) (walk_rng (o := []))
      rw [Int.sub_zero] at this
      obtain rfl := s1.top.int
      exact ⟨n, rfl, g.2.2.1, g.2.2.2, this⟩
    | _ => exact ok1.elim
theorem rdI_rng2 {tg : Expr} (hg : Gl X "range") (hm : X.mg "range" = none) (ha : PE X ea (rdE W Ev Γ X.K a)) (hb : PE X eb (rdE W Ev Γ X.K b)) (hs : starEach [ea, eb] X.env = [(false, eval ea X.env), (false, eval eb X.env)]) (hs2 : starEach [eb] X.env = [(false, eval eb X.env)]) : PI X tg (.Call (.Name "range" p) [ea, eb] [] pos) (rdI W Ev Γ X.K (.rng2 a b)) :=
  piI (pi_range2 hg hm (pa_cons ha (pa_cons hb pa_nil hs2) (by rw [hs, hs2])) hs hs2) fun σ H R ⟨fr, e, tm, bs, hK, s, sb, ok⟩ => by
    simp only [evI] at ok
    refine ⟨fr, e, tm, bs, hK, s, sb, (OkR.bind ok).mono (fun x hx ok1 v H1 s1 => ?_) fun _ _ _ z => z⟩
    refine ⟨fr, x.2.2, _, x.1.slots ++ bs, hK, s1, sb.push, (OkR.bind ok1).mono (fun y hy ok2 w H2 s2 => ?_) fun _ _ _ z => z.drop⟩
    obtain ⟨t, d, e1⟩ := x
    obtain ⟨t', d', e2⟩ := y
    cases d with
    | int m =>
      cases d' with
      | int n =>
        obtain ⟨g, ok3⟩ := OkR.guard ok2
        have g := of_decide_eq_true g
        obtain rfl := s2.snd.int
        obtain rfl := s2.top.int
        exact ⟨m, n, rfl, g, ok3 (Itr m (n - m).toNat) H2 _ (s2.drop.drop.sc (t := .own 9) (d := .non) rfl) (walk_rng (o := []))⟩
      | _ => exact ok2.elim
    | _ => exact ok2.elim
end
end VI
set_option autoImplicit true
set_option Elab.async false
set_option linter.all false
set_option maxRecDepth 100000
set_option maxHeartbeats 4000000
namespace VI
open PySem PySem.Spec PyProof.Rows L2
section
variable {W : WX} {Ev : EvT} {Γ : Sm} {K : PySem.W.Frag} {X : Cx} {fr : Fr} {σ σ' : L2.St} {H H' : Hp} {e e' : Env} {tm : List Tmp} {F : Addr → Prop} {lab : Lab} {t : Tg} {v r w : V} {d : D} {c : Tmp} {i j k n : Nat} {x m : Str} {p pos apos : Pos} {a b cc : CE} {ea eb ec : Expr} {es : CEs} {xs : List Expr} {ta : TA} {q : List Nat} {vs : List V} {as : List (Tg × D)} {g : CT}
theorem Rl.grow {A : Addr} {acc : List V} {ds : List D} {ty : Tg} {y : V} {dy : D} (s : Rl fr σ H e (⟨ty, y, dy⟩ :: ⟨.own (k + 1), .ref A, .lst ds⟩ :: tm)) (hA : H A = some (.lst acc)) (hk : minK [(ty, dy)] = some j) (hj : k ≤ j) :
    Rl fr σ (upd H A (.lst (acc ++ [y]))) e (⟨.own (k + 1), .ref A, .lst (ds ++ [dy])⟩ :: tm) := by
  obtain ⟨F, lab, st⟩ := s
  obtain ⟨lo, _⟩ := looseAll (as := [(ty, dy)]) (vs := [y]) (tm := ⟨.own (k + 1), .ref A, .lst ds⟩ :: tm) st.tmps rfl hk
  obtain ⟨fg, Z, hg, ndg, lg⟩ := lo.weak hj
  obtain ⟨fp, r, nd, hl⟩ := (show Cell fr.K H F lab (.t tm.length) (k + 1) (.ref A) (.lst ds) from st.tmps.2.1)
  cases r with
  | lst1 e1 r =>
    rename_i us fx
    rw [hA] at e1; cases e1
    obtain ⟨nA, nx⟩ := List.nodup_cons.mp nd
    obtain ⟨n1, n2, n3⟩ := List.nodup_append.mp ndg
    have lx : ∀ b ∈ fx, lab b = some (.t tm.length) := fun b hb => hl b (List.mem_cons_of_mem _ hb)
    have lA : lab A = some (.t tm.length) := hl A List.mem_cons_self
    have lgt : ∀ b ∈ fg ++ Z, ∃ j, tm.length < j ∧ lab b = some (.t j) := fun b hb => by
      obtain ⟨j, q1, q2⟩ := lg b hb
      exact ⟨j, by simp only [List.length_cons] at q1; omega, q2⟩
    have lG : ∀ b ∈ fg, ∃ j, tm.length < j ∧ lab b = some (.t j) := fun b hb => lgt b (List.mem_append_left _ hb)
    have lZ : ∀ b ∈ Z, ∃ j, tm.length < j ∧ lab b = some (.t j) := fun b hb => lgt b (List.mem_append_right _ hb)
    have noA : ∀ b, lab b ≠ some (.t tm.length) → b ≠ A := fun b h z => h (z ▸ lA)
    have gA : ∀ b ∈ fg ++ Z, b ≠ A := fun b hb => noA b fun z => by obtain ⟨j, q1, q2⟩ := lgt b hb; rw [z] at q2; cases q2; omega
    have FA : ∀ b, F b → b ≠ A := fun b hb => noA b fun z => by rw [st.good.fl b hb] at z; cases z
    have FA' : ∀ b, (F b ∨ b ∈ Z) → b ≠ A := fun b hb => hb.elim (FA b) fun z => gA b (List.mem_append_right _ z)
    have kp : Keeps (fun b => b = A) H (upd H A (.lst (acc ++ [y]))) := keeps_at
    have nt : Lists (fun b => b = A) H := lists_at hA
    classical
    have kl : ∀ b l, lab b = some l → (∀ j, tm.length ≤ j → l ≠ .t j) → (if b ∈ Z then none else if b ∈ fg then some (Lb.t tm.length) else lab b) = some l ∧ b ≠ A := fun b l hb hn => by
      have h1 : b ∉ Z := fun z => by obtain ⟨j, q1, q2⟩ := lZ b z; exact hn j (by omega) (Option.some.inj (hb.symm.trans q2))
      have h2 : b ∉ fg := fun z => by obtain ⟨j, q1, q2⟩ := lG b z; exact hn j (by omega) (Option.some.inj (hb.symm.trans q2))
      rw [if_neg h1, if_neg h2]
      exact ⟨hb, noA b fun z => hn _ (Nat.le_refl _) (Option.some.inj (hb.symm.trans z))⟩
    have lists : ∀ b, (∃ us, H b = some (.lst us)) → ∃ us, upd H A (.lst (acc ++ [y])) b = some (.lst us) := fun b ⟨us, hb⟩ => by
      by_cases z : b = A
      · rw [z]; exact ⟨_, upd_same⟩
      · rw [upd_ne z]; exact ⟨us, hb⟩
    have alive : ∀ b l, (if b ∈ Z then none else if b ∈ fg then some (Lb.t tm.length) else lab b) = some l → ∃ l', lab b = some l' := fun b l hb => by
      split at hb
      · cases hb
      · split at hb
        · rename_i hz; obtain ⟨j, _, q⟩ := lG b hz; exact ⟨_, q⟩
        · exact ⟨l, hb⟩
    refine ⟨fun b => F b ∨ b ∈ Z, fun b => if b ∈ Z then none else if b ∈ fg then some (Lb.t tm.length) else lab b,
      ⟨fun b hb => .inl (st.good.f0 b hb), fun b hb => ?_, fun b hb => ?_, fun b hb => ?_, fun b l hb => ?_, fun b l hb => ?_, fun b ob hb hn => ?_, fun b hb => ?_, fun b hb => lists b (st.good.p0 b hb), st.good.ftup, fun q hq => ?_⟩, ?_, ?_, ?_⟩
    · rcases hb with hb | hb
      · exact st.good.fnew b hb
      · obtain ⟨j, _, q⟩ := lZ b hb; exact .inr (st.good.lnew b _ q)
    · show (if b ∈ Z then none else if b ∈ fg then some (Lb.t tm.length) else lab b) = none
      rcases hb with hb | hb
      · have hn := st.good.fl b hb
        split
        · rfl
        · rw [if_neg (fun z => by obtain ⟨j, _, q⟩ := lG b z; rw [hn] at q; cases q)]; exact hn
      · rw [if_pos hb]
    · refine lists b ?_
      rcases hb with hb | hb
      · exact st.good.ft b hb
      · obtain ⟨j, _, q⟩ := lZ b hb; exact st.good.lt b _ q
    · obtain ⟨l', q⟩ := alive b l hb; exact lists b (st.good.lt b l' q)
    · obtain ⟨l', q⟩ := alive b l hb; exact st.good.lnew b l' q
    · have hb2 := st.good.keep b ob hb hn
      by_cases z : b = A
      · exfalso
        subst z
        rcases st.good.lnew b _ lA with z | z
        · exact hn z
        · rw [hb] at z; cases z
      · rw [upd_ne z]; exact hb2
    · by_cases z : b = A
      · rw [z, upd_same]; simp
      · rw [upd_ne z]; exact st.good.there b hb
    · exact (st.good.pth q hq).keep (fun b ob hb ho => by rw [upd_ne (kl b _ hb (fun _ _ z => by cases z)).2]; exact ho) fun b hb => (kl b _ hb (fun _ _ z => by cases z)).1
    · exact st.slots.keep kp nt FA (fun _ h => .inl h) fun b i hb => let ⟨y1, y2⟩ := kl b _ hb (fun _ _ z => by cases z); ⟨y2, y1⟩
    · refine ⟨A :: (fx ++ fg), .lst1 upd_same ?_, List.nodup_cons.mpr ⟨fun z => ?_, List.nodup_append.mpr ⟨nx, n1, fun b hb b' hb' z => ?_⟩⟩, fun b hb => ?_⟩
      · refine Reps.append (r.keep kp nt FA (fun _ h => .inl h) fun b hb z => nA (z ▸ hb)) (hg.keep kp nt FA' (fun _ h => h) fun b hb => gA b (List.mem_append_left _ hb))
      · rcases List.mem_append.mp z with z | z
        · exact nA z
        · exact gA A (List.mem_append_left _ z) rfl
      · subst z
        obtain ⟨j, q1, q2⟩ := lG b hb'
        rw [lx b hb] at q2; cases q2; omega
      · show (if b ∈ Z then none else if b ∈ fg then some (Lb.t tm.length) else lab b) = _
        have hz : b ∉ Z := fun z => by
          rcases List.mem_cons.mp hb with y | y
          · exact gA b (List.mem_append_right _ z) y
          · rcases List.mem_append.mp y with y | y
            · obtain ⟨j, q1, q2⟩ := lZ b z; rw [lx b y] at q2; cases q2; omega
            · exact n3 b y b z rfl
        rw [if_neg hz]
        split
        · rfl
        · rename_i hg'
          rcases List.mem_cons.mp hb with y | y
          · rw [y]; exact lA
          · rcases List.mem_append.mp y with y | y
            · exact lx b y
            · exact absurd y hg'
    · exact st.tmps.2.2.keep kp nt FA (fun _ h => .inl h) fun b l hb z => by
        have := kl b l hb (fun j hj y => by
          rcases z with ⟨n, hn, rfl⟩ | ⟨c, hc, i', hi', rfl⟩
          · cases y; omega
          · cases y)
        exact ⟨this.2, this.1⟩
theorem Rl.sink {c : Tmp} (s : Rl fr σ H e (⟨.own k, v, d⟩ :: c :: tm)) : Rl fr σ H e (⟨.own k, v, d⟩ :: tm) := by
  obtain ⟨F, lab, st⟩ := s
  obtain ⟨fp, r, nd, hl⟩ := (show Cell fr.K H F lab (.t (tm.length + 1)) k v d from st.tmps.1)
  obtain ⟨lab', s', hY, _, _⟩ := St.retop (St.drop (St.drop st)) (Z := fun _ => False) (Y := fun b => b ∈ fp) (fun a z => z.elim) (fun a ha => ⟨tm.length + 1, by omega, hl a ha⟩) (fun a z => z.elim)
  exact ⟨_, lab', s'.good, s'.slots, ⟨fp, r.mono fun _ h => .inl h, nd, hY⟩, s'.tmps⟩
theorem Rl.newNil {A : Addr} (s : Rl fr σ H e tm) (hA : H A = none) (k : Nat) : Rl fr σ (upd H A (.lst [])) e (⟨.own (k + 1), .ref A, .lst []⟩ :: tm) := by
  obtain ⟨F, lab, st⟩ := s
  exact st.mkL (L := fun _ => False) hA Loose.nil (fun j h => h.elim)
theorem wipeE_get : ∀ {vs : List Nat} {e : Env} {i : Nat} {o : Nat × D}, (wipeE e vs)[i]? = some (some o) → e[i]? = some (some o) ∧ i ∉ vs
  | [], _, _, _, h => ⟨h, by simp⟩
  | v :: vs, e, i, o, h => by
    unfold wipeE at h
    by_cases hi : i = v
    · subst hi
      rw [List.getElem?_set] at h
      simp at h
    · rw [List.getElem?_set_ne (Ne.symm hi)] at h
      obtain ⟨h1, h2⟩ := wipeE_get h
      exact ⟨h1, by simp [hi, h2]⟩
theorem wipeE_len : ∀ {vs : List Nat} {e : Env}, (wipeE e vs).length = e.length
  | [], _ => rfl
  | v :: vs, e => by unfold wipeE; rw [List.length_set, wipeE_len]
theorem wipe_get : ∀ {vs : List Nat} {σ : L2.St} {i : Nat}, i ∉ vs → (wipe σ vs)[i]? = σ[i]?
  | [], _, _, _ => rfl
  | v :: vs, σ, i, h => by
    unfold wipe
    have : i ≠ v ∧ i ∉ vs := by simpa using h
    rw [List.getElem?_set_ne (Ne.symm this.1), wipe_get this.2]
theorem wipe_in : ∀ {vs : List Nat} {σ : L2.St} {i : Nat}, i ∈ vs → i < σ.length → (wipe σ vs)[i]? = some none
  | [], _, _, h, _ => by simp at h
  | v :: vs, σ, i, h, hl => by
    unfold wipe
    by_cases hi : i = v
    · subst hi
      rw [List.getElem?_set_self (by rw [wipe_length]; exact hl)]
    · have : i ∈ vs := by
        rcases List.mem_cons.mp h with z | z
        · exact absurd z hi
        · exact z
      rw [List.getElem?_set_ne (Ne.symm hi), wipe_in this hl]
theorem wipe_same {vs : List Nat} {σ σ' : L2.St} (hl : σ'.length = σ.length) (h : ∀ i, i ∉ vs → σ'[i]? = σ[i]?) : wipe σ' vs = wipe σ vs := by
  apply List.ext_getElem?
  intro i
  by_cases hi : i ∈ vs
  · by_cases hn : i < σ.length
    · rw [wipe_in hi hn, wipe_in hi (by omega)]
    · rw [List.getElem?_eq_none (by rw [wipe_length]; omega), List.getElem?_eq_none (by rw [wipe_length]; omega)]
  · rw [wipe_get hi, wipe_get hi, h i hi]
theorem wipe_wipe {vs : List Nat} {σ : L2.St} : wipe (wipe σ vs) vs = wipe σ vs := wipe_same (wipe_length _ _) fun i hi => wipe_get hi
theorem Rl.toBlk {vs : List Nat} (s : Rl fr σ H e tm) : Rl fr (L2.wipe σ vs) H (wipeE e vs) tm := by
  obtain ⟨F, lab, s⟩ := s
  refine ⟨F, lab, s.good, ⟨by rw [wipe_length, wipeE_len]; exact s.slots.1, fun i k d h => ?_⟩, s.tmps⟩
  obtain ⟨h1, h2⟩ := wipeE_get h
  obtain ⟨v, q1, q2⟩ := s.slots.2 i k d h1
  exact ⟨v, by rw [wipe_get h2]; exact q1, q2⟩
theorem Rl.inBlk {vs : List Nat} {σ2 : L2.St} (s : Rl fr σ2 H e tm) (h : L2.wipe σ2 vs = L2.wipe σ vs) : Rl fr (L2.wipe σ vs) H (wipeE e vs) tm := h ▸ s.toBlk
theorem Rl.ofBlk {vs : List Nat} (s : Rl fr (L2.wipe σ vs) H e tm) : Rl fr σ H e tm := by
  obtain ⟨F, lab, s⟩ := s
  refine ⟨F, lab, s.good, ⟨by rw [← s.slots.1, wipe_length], fun i k d h => ?_⟩, s.tmps⟩
  obtain ⟨v, q1, q2⟩ := s.slots.2 i k d h
  exact ⟨v, (wipe_some q1).1, q2⟩
theorem bindE_len {bs : List Nat} (h : e.bindE bs i t d = some e') : e'.length = e.length := by
  unfold Env.bindE at h
  split at h
  · cases h
  · cases hr : t.ret with
    | none => rw [hr] at h; cases h
    | some k => rw [hr] at h; cases h; rw [List.length_set]
theorem bindT_len : ∀ {g : CT} {e e' : Env} {bs : List Nat} {t : Tg} {d : D}, bindT g e bs t d = some e' → e'.length = e.length
  | .name i, e, e', bs, t, d, h => bindE_len h
  | .two a b, e, e', bs, t, d, h => by
    unfold bindT at h
    split at h
    · split at h
      · rename_i e1 h1
        rw [bindT_len h, bindT_len h1]
      · cases h
    · cases h
  | .three _ _ _, _, _, _, _, _, h => by cases h
def W0 : WX := fun _ _ _ _ => False
variable (Ev Γ K) in
def rdIf (c : CE) : TT := if c.isNop then tYes else rdT W0 Ev Γ K c
def lcTurn (Γ : Sm) (g : CT) (c el : CE) (bs vs : List Nat) (x : Tg × D) (e1 : Env) : R (Option (Tg × D) × Env) :=
  (okM (bindT g e1 bs x.1 x.2)).bind fun e2 => (test c.isNop (evE Γ c bs e2) e2).bind fun b =>
    if b.1 then (evE Γ el bs b.2).bind fun y => .ok (some (y.1, y.2.1), wipeE y.2.2 vs) else .ok (none, wipeE b.2 vs)
theorem minK_le : ∀ {as : List (Tg × D)} {a : Tg × D} {k : Nat}, minK (a :: as) = some k → ∃ j k', minK [a] = some j ∧ minK as = some k' ∧ k ≤ j ∧ k ≤ k'
  | as, (t, d), k, h => by
    simp only [minK] at h ⊢
    cases q : minK as with
    | none => rw [q] at h; cases h
    | some k' =>
      rw [q] at h
      dsimp only at h
      have k9 : k' ≤ 9 := by
        have : ∀ (as : List (Tg × D)) (k' : Nat), minK as = some k' → k' ≤ 9 := by
          intro as
          induction as with
          | nil => intro k' h; simp only [minK] at h; cases h; exact Nat.le_refl _
          | cons a as ih =>
            intro k' h
            obtain ⟨t, d⟩ := a
            simp only [minK] at h
            cases q : minK as with
            | none => rw [q] at h; cases h
            | some k2 =>
              rw [q] at h
              have := ih k2 q
              dsimp only at h
              split at h
              · cases h; exact this
              · split at h
                · cases h; omega
                · cases h
        exact this as k' q
      by_cases hf : d.flat = true
      · rw [if_pos hf] at h; cases h
        exact ⟨9, k, by rw [if_pos hf], rfl, k9, Nat.le_refl _⟩
      · rw [if_neg hf] at h ⊢
        cases t with
        | bor i b => cases h
        | own j => cases h; exact ⟨min j 9, k', rfl, rfl, by omega, by omega⟩
theorem lc_imp {it : CI} {el : CE} {own : List Nat} {Q : VK} (hg : ∀ i ∈ g.slots, i ∈ own) (h : rdE W Ev Γ K (.lc el g it cc own) σ H Q) :
    tLc (rdI W Ev Γ K it) (rdG K g) (rdIf Ev Γ K cc) (rdE W0 Ev Γ K el) own σ H Q := by
  obtain ⟨fr, e, tm, bs, hK, s, sb, ok⟩ := h
  simp only [evE] at ok
  refine ⟨fr, e, tm, bs, hK, s, sb, (OkR.bind ok).mono (fun x hx ok1 J H1 c s1 wl => ?_) fun _ _ _ z => z⟩
  intro A hA
  have ok1 : OkE W Ev fr σ tm Q ((noX (lcLoop (lcTurn Γ g cc el (x.1.os ++ bs) own) x.1.t x.1.xs (wipeE x.2 own))).bind fun q => (okM (minK q.1)).bind fun k => guardR (lim q.1.length && disj own (x.1.os ++ bs)) (.ok (.own (k + 1), .lst (q.1.map (·.2)), q.2))) := ok1
  cases hL : lcLoop (lcTurn Γ g cc el (x.1.os ++ bs) own) x.1.t x.1.xs (wipeE x.2 own) with
  | bad => rw [hL] at ok1; exact ok1.elim
  | exn c ys e2 => rw [hL] at ok1; exact ok1.elim
  | ok z =>
    rw [hL] at ok1
    have ok1 : OkE W Ev fr σ tm Q ((okM (minK z.1)).bind fun k => guardR (lim z.1.length && disj own (x.1.os ++ bs)) (R.ok (Tg.own (k + 1), D.lst (z.1.map (·.2)), z.2))) := ok1
    obtain ⟨kk, hk, ok2⟩ := OkR.okMb ok1
    obtain ⟨gd, ok3⟩ := OkR.guard ok2
    rw [Bool.and_eq_true] at gd
    have ndis := disj_not gd.2
    obtain ⟨item, okh, wk, wok, wit⟩ := wl.wk
    have sbc : Sub fr (c :: tm) (x.1.os ++ bs) := ⟨fun c' hc i hi => by
      rcases List.mem_cons.mp hc with y | y
      · subst y; exact List.mem_append_left _ (wl.sl i hi)
      · exact List.mem_append_right _ (sb.1 c' y i hi), fun q hq => List.mem_append_right _ (sb.2.1 q hq), sb.2.2⟩
    have sbD : ∀ (u : D) (k : Nat), Sub fr (⟨.own k, .ref A, u⟩ :: c :: tm) (x.1.os ++ bs) := fun u k => ⟨fun c' hc i hi => by
      rcases List.mem_cons.mp hc with y | y
      · subst y; simp [Tg.slots] at hi
      · exact sbc.1 c' y i hi, sbc.2⟩
    have hz := lim_le gd.1
    refine ⟨fun i m H => m = x.1.xs.length - i ∧ i ≤ x.1.xs.length ∧ ∃ ei done rest, Rl fr (wipe σ own) H ei (⟨.own (kk + 1), .ref A, .lst (done.map (·.2))⟩ :: c :: tm) ∧ lcLoop (lcTurn Γ g cc el (x.1.os ++ bs) own) x.1.t (x.1.xs.drop i) ei = .ok (rest, z.2) ∧ done ++ rest = z.1 ∧ ∃ k', minK rest = some k' ∧ kk ≤ k',
      ⟨x.1.xs.length, by simp, Nat.zero_le _, wipeE x.2 own, [], z.1, (s1.toBlk).newNil hA kk, by simpa using hL, rfl, kk, hk, Nat.le_refl _⟩, ?_⟩
    rintro i m H2 ⟨rfl, hi, ei, done, rest, sR, lp, dr, k', hk', hkk⟩
    by_cases hlt : i < x.1.xs.length
    · right
      have hx : x.1.xs[i]? = some x.1.xs[i] := List.getElem?_eq_getElem hlt
      rw [List.drop_eq_getElem_cons hlt] at lp
      simp only [lcLoop] at lp
      obtain ⟨y, hy, lp⟩ := bind_ok lp
      obtain ⟨y2, hy2, lp⟩ := bind_ok lp
      have okc : okh H2 := wok _ _ _ sR.drop
      refine ⟨wk.go i H2 okc hlt, _, fun H' hn => ⟨x.1.xs.length - (i + 1), by omega, rfl, by omega, hn⟩, fun xv H' hyl => ?_⟩
      obtain ⟨rfl, hit⟩ := wk.yld i H2 xv H' okc hlt hyl
      have sI := wit i _ _ _ _ xv _ hx ⟨[_], rfl⟩ sR hit
      unfold lcTurn at hy
      obtain ⟨e2, hb, hy⟩ := okM_ok hy
      obtain ⟨b, ht, hy⟩ := bind_ok hy
      refine ⟨fr, ei, _, x.1.os ++ bs, nrm x.1.t x.1.xs[i], x.1.xs[i], e2, hK, sI, sbD _ _, hb, fun σ2 s3 hσ2 => ?_⟩
      have hlen : σ2.length = (wipe σ own).length := by
        obtain ⟨_, _, q1⟩ := s3
        obtain ⟨_, _, q2⟩ := sR
        rw [q1.slots.1, q2.slots.1, bindT_len hb]
      have hw : wipe σ2 own = wipe σ own := by rw [← wipe_wipe (σ := σ)]; exact wipe_same hlen fun i hi => hσ2 i fun z => hi (hg i z)
      refine ⟨hw, ?_⟩
      have fin : ∀ H3, Rl fr σ2 H3 b.2 (⟨.own (kk + 1), .ref A, .lst (done.map (·.2))⟩ :: c :: tm) → (if b.1 = true then rdE W0 Ev Γ K el σ2 H3 (fun y H4 => ∃ acc, H4 A = some (.lst acc) ∧ acc.length < sizeLine ∧ (∃ ei done rest, Rl fr (wipe σ own) (upd H4 A (.lst (acc ++ [y]))) ei (⟨.own (kk + 1), .ref A, .lst (done.map (·.2))⟩ :: c :: tm) ∧ lcLoop (lcTurn Γ g cc el (x.1.os ++ bs) own) x.1.t (x.1.xs.drop (i + 1)) ei = .ok (rest, z.2) ∧ done ++ rest = z.1 ∧ ∃ k', minK rest = some k' ∧ kk ≤ k')) else
          (∃ ei done rest, Rl fr (wipe σ own) H3 ei (⟨.own (kk + 1), .ref A, .lst (done.map (·.2))⟩ :: c :: tm) ∧ lcLoop (lcTurn Γ g cc el (x.1.os ++ bs) own) x.1.t (x.1.xs.drop (i + 1)) ei = .ok (rest, z.2) ∧ done ++ rest = z.1 ∧ ∃ k', minK rest = some k' ∧ kk ≤ k')) := fun H3 s4 => by
        by_cases hb1 : b.1 = true
        · rw [if_pos hb1]
          rw [if_pos hb1] at hy
          obtain ⟨yv, he, hy⟩ := bind_ok hy
          cases hy
          refine ⟨fr, b.2, _, x.1.os ++ bs, hK, s4, sbD _ _, ?_⟩
          rw [he]
          intro w H4 s5
          obtain ⟨A', acc, hA', h4, hal⟩ := (Rl.drop s5).top.lst
          cases hA'
          have lp := R.ok.inj lp
          have lp1 : (yv.1, yv.2.1) :: y2.1 = rest := (Prod.mk.inj lp).1
          have lp2 : y2.2 = z.2 := (Prod.mk.inj lp).2
          subst lp1
          obtain ⟨j, k2, hj, hk2, le1, le2⟩ := minK_le hk'
          refine ⟨acc, h4, ?_, wipeE yv.2.2 own, done ++ [(yv.1, yv.2.1)], y2.1, ?_, by rw [hy2, ← lp2], by rw [← dr]; simp, k2, hk2, Nat.le_trans hkk le2⟩
          · have : (done ++ (yv.1, yv.2.1) :: y2.1).length = z.1.length := by rw [dr]
            simp only [List.length_append, List.length_cons] at this
            rw [hal, List.length_map]
            omega
          · have s6 := Rl.grow s5 h4 hj (Nat.le_trans hkk le1)
            have := Rl.inBlk s6 hw
            simpa using this
        · rw [if_neg hb1]
          rw [if_neg hb1] at hy
          cases hy
          have lp := R.ok.inj lp
          refine ⟨_, done, rest, s4.inBlk hw, ?_, dr, k', hk', hkk⟩
          rw [hy2]; exact congrArg R.ok lp
      unfold rdIf
      unfold test at ht
      by_cases hnp : cc.isNop = true
      · rw [if_pos hnp] at ht ⊢
        cases ht
        exact fin _ s3
      · rw [if_neg hnp] at ht ⊢
        refine ⟨fr, e2, _, x.1.os ++ bs, hK, s3, sbD _ _, ?_⟩
        rw [ht]
        exact fun H3 s4 => fin H3 s4
    · left
      have e1 : i = x.1.xs.length := by omega
      subst e1
      rw [List.drop_length] at lp
      simp only [lcLoop] at lp
      cases lp
      rw [List.append_nil] at dr
      subst dr
      exact ⟨wk.stop H2 (wok _ _ _ sR.drop), ok3 _ _ (sR.sink.ofBlk)⟩
theorem rd_lc {it : CI} {el : CE} {own : List (Str × Nat)} {elt tg iter : Expr} {ifs : List Expr} {scope : Scope} (hc : X.calm = true) (hN : X.N.Nodup) (hi : PI X tg iter (rdI W Ev Γ X.K it)) (ok : BlkOk X.N X.env.scope scope own)
    (hg : ∀ (s : Shared) (H : Hp) (C : Addr) (cl : List (Str × Addr)) (fp : List Addr), PG (X.blk s H scope (compEnvC scope cl C X.env) fp) tg (rdG X.K g)) (ht : ∀ (s : Shared) (H : Hp) (C : Addr) (cl : List (Str × Addr)) (fp : List Addr), PTs (X.blk s H scope (compEnvC scope cl C X.env) fp) ifs (rdIf Ev Γ X.K cc))
    (he : ∀ (s : Shared) (H : Hp) (C : Addr) (cl : List (Str × Addr)) (fp : List Addr), PE (X.blk s H scope (compEnvC scope cl C X.env) fp) elt (rdE W0 Ev Γ X.K el)) (hs : ∀ x, foldedSetIterable iter X.env x = pure x)
    (hgo : ∀ i ∈ g.slots, i ∈ own.map (·.2)) :
    PE X (.ListComp elt [⟨tg, iter, ifs, 0⟩] scope pos) (rdE W Ev Γ X.K (.lc el g it cc (own.map (·.2)))) :=
  peI (pe_lc hc hN hi ok hg ht he hs) fun σ H Q h => lc_imp hgo h
end
end VI
set_option autoImplicit true
set_option Elab.async false
set_option linter.all false
set_option maxRecDepth 100000
set_option maxHeartbeats 4000000
namespace VI
open PySem PySem.Spec PyProof.Rows L2
section
variable (W : WX) (Ev : EvT) (Γ : Sm) (K : PySem.W.Frag)
def OkS (fr : Fr) (tm : List Tmp) (D : Ends) : RS → Prop
  | .nx e => ∀ σ H, Rl fr σ H e tm → Fixed fr σ → D.nx σ H
  | .bk e => ∀ σ H, Rl fr σ H e tm → Fixed fr σ → D.bk σ H
  | .ct e => ∀ σ H, Rl fr σ H e tm → Fixed fr σ → D.ct σ H
  | .rt k d e => ∀ v σ H, Rl fr σ H e (⟨.own k, v, d⟩ :: tm) → Fixed fr σ → D.rt v H
  | .exn c xs e => ∀ cv dd σ H, Ev c xs cv dd H → Rl fr σ H e tm → Fixed fr σ → W cv dd σ H
  | .bad => False
def rdSt (c : CS) : TS := fun D σ H => ∃ fr e tm bs, fr.K = K ∧ Rl fr σ H e tm ∧ Sub fr tm bs ∧ Fixed fr σ ∧ OkS W Ev fr tm D (exS Γ c bs e)
def rdSts (c : CSs) : TS := fun D σ H => ∃ fr e tm bs, fr.K = K ∧ Rl fr σ H e tm ∧ Sub fr tm bs ∧ Fixed fr σ ∧ OkS W Ev fr tm D (exSs Γ c bs e)
end
theorem psI {X : Cx} {s : Stmt} {t t' : TS} (h : PS X s t) (m : ∀ D σ H, t' D σ H → t D σ H) : PS X s t' := ⟨fun pins s σ H D I hw => h.run pins s σ H D I (m _ _ _ hw)⟩
theorem pssI {X : Cx} {s : List Stmt} {t t' : TS} (h : PSs X s t) (m : ∀ D σ H, t' D σ H → t D σ H) : PSs X s t' := ⟨fun pins s σ H D I hw => h.run pins s σ H D I (m _ _ _ hw)⟩
section
variable {W : WX} {Ev : EvT} {Γ : Sm} {K : PySem.W.Frag} {X : Cx} {fr : Fr} {σ σ' : L2.St} {H H' : Hp} {e e' : Env} {tm : List Tmp} {F : Addr → Prop} {lab : Lab} {t : Tg} {v r w : V} {d : D} {c : Tmp} {i j k n : Nat} {x m : Str} {p pos apos : Pos} {a b cc : CE} {ea eb ec tg tg2 : Expr} {es : CEs} {xs : List Expr} {q : List Nat} {vs : List V} {as : List (Tg × D)} {g : CT} {D₀ : Ends} {s : CS} {ss s1 s2 : CSs} {st : Stmt} {sts sts2 : List Stmt}
theorem OkS.bind {α : Type} {r : R α} {f : α → RS} (h : OkS W Ev fr tm D₀ (r.toS f)) (hx : Fixed fr σ) : OkR (fun x => OkS W Ev fr tm D₀ (f x)) (Zx W Ev fr σ tm) r := by
  cases r with
  | ok x => exact h
  | exn c xs e => exact fun cv dd H' ev s => h cv dd σ H' ev s hx
  | bad => exact h
theorem OkS.opt {o : Option Env} {f : Env → RS} (h : OkS W Ev fr tm D₀ (optS o f)) : ∃ e, o = some e ∧ OkS W Ev fr tm D₀ (f e) := by
  cases o with
  | none => exact h.elim
  | some e => exact ⟨e, rfl, h⟩
theorem rd_snil : PSs X [] (rdSts W Ev Γ X.K .nil) := pssI pss_nil fun D σ H ⟨fr, e, tm, bs, hK, s, sb, fx, ok⟩ => ok σ H s fx
theorem rd_scons (h1 : PS X st (rdSt W Ev Γ X.K s)) (h2 : PSs X sts (rdSts W Ev Γ X.K ss)) : PSs X (st :: sts) (rdSts W Ev Γ X.K (.cons s ss)) := pssI (pss_cons h1 h2) fun D σ H ⟨fr, e, tm, bs, hK, s', sb, fx, ok⟩ => by
  simp only [exSs] at ok
  refine ⟨fr, e, tm, bs, hK, s', sb, fx, ?_⟩
  cases hq : exS Γ s bs e with
  | nx e1 => rw [hq] at ok; exact fun σ1 H1 s1 f1 => ⟨fr, e1, tm, bs, hK, s1, sb, f1, ok⟩
  | bk e1 => rw [hq] at ok; exact ok
  | ct e1 => rw [hq] at ok; exact ok
  | rt k d e1 => rw [hq] at ok; exact ok
  | exn c xs e1 => rw [hq] at ok; exact ok
  | bad => rw [hq] at ok; exact ok
theorem rd_bad : PS X st (rdSt W Ev Γ X.K .bad) := psI ps_never fun D σ H ⟨fr, e, tm, bs, hK, s, sb, fx, ok⟩ => ok
theorem rd_pas : PS X (.Pass pos) (rdSt W Ev Γ X.K .pas) := psI ps_pass fun D σ H ⟨fr, e, tm, bs, hK, s, sb, fx, ok⟩ => ok σ H s fx
theorem rd_brk : PS X (.Break pos) (rdSt W Ev Γ X.K .brk) := psI ps_break fun D σ H ⟨fr, e, tm, bs, hK, s, sb, fx, ok⟩ => ok σ H s fx
theorem rd_cnt : PS X (.Continue pos) (rdSt W Ev Γ X.K .cnt) := psI ps_continue fun D σ H ⟨fr, e, tm, bs, hK, s, sb, fx, ok⟩ => ok σ H s fx
theorem rd_retN : PS X (.Return none pos) (rdSt W Ev Γ X.K .retN) := psI ps_retN fun D σ H ⟨fr, e, tm, bs, hK, s, sb, fx, ok⟩ => ok .non σ H (s.sc rfl) fx
theorem rd_exp (ha : PE X ea (rdE W Ev Γ X.K a)) (hs : swapsWith ea none pos.line X.env = pure false) : PS X (.Expr ea pos) (rdSt W Ev Γ X.K (.exp a)) := psI (ps_expr ha hs) fun D σ H ⟨fr, e, tm, bs, hK, s, sb, fx, ok⟩ => by
  simp only [exS] at ok
  exact ⟨fr, e, tm, bs, hK, s, sb, (OkS.bind ok fx).mono (fun x hx ok1 v H1 s1 => ok1 σ H1 s1.drop fx) fun _ _ _ z => z⟩
theorem Rl.retv (s : Rl fr σ H e (⟨t, v, d⟩ :: tm)) (hk : minK [(t, d)] = some k) : Rl fr σ H e (⟨.own k, v, d⟩ :: tm) := by
  obtain ⟨F, lab, st⟩ := s
  obtain ⟨lo, _⟩ := looseAll (as := [(t, d)]) (vs := [v]) (tm := tm) st.tmps rfl hk
  obtain ⟨fp, Z, r, nd, hl⟩ := lo
  obtain ⟨n1, n2, n3⟩ := List.nodup_append.mp nd
  obtain ⟨lab', s', hY, _, _⟩ := St.retop (St.drop st) (Z := fun b => b ∈ Z) (Y := fun b => b ∈ fp) (fun a ha => let ⟨j, h1, h2⟩ := hl a (List.mem_append_right _ ha); ⟨j, h1.1, h2⟩) (fun a ha => let ⟨j, h1, h2⟩ := hl a (List.mem_append_left _ ha); ⟨j, h1.1, h2⟩) (fun a hz hy => n3 a hy a hz rfl)
  refine ⟨_, lab', s'.good, s'.slots, ?_, s'.tmps⟩
  cases r with
  | cons h r =>
    cases r
    exact ⟨_, h, by simpa using n1, fun b hb => hY b (by simpa using hb)⟩
theorem rd_ret (ha : PE X ea (rdE W Ev Γ X.K a)) : PS X (.Return (some ea) pos) (rdSt W Ev Γ X.K (.ret a)) := psI (ps_ret ha) fun D σ H ⟨fr, e, tm, bs, hK, s, sb, fx, ok⟩ => by
  simp only [exS] at ok
  refine ⟨fr, e, tm, bs, hK, s, sb, (OkS.bind ok fx).mono (fun x hx ok1 v H1 s1 => ?_) fun _ _ _ z => z⟩
  cases hk : minK [(x.1, x.2.1)] with
  | none => rw [hk] at ok1; exact ok1.elim
  | some k => rw [hk] at ok1; exact ok1 v σ H1 (s1.retv hk) fx
theorem rd_ite (hc : PT X ec (rdT W Ev Γ X.K cc)) (h1 : PSs X sts (rdSts W Ev Γ X.K s1)) (h2 : PSs X sts2 (rdSts W Ev Γ X.K s2)) : PS X (.If ec sts sts2 pos) (rdSt W Ev Γ X.K (.ite cc s1 s2)) := psI (ps_if hc h1 h2) fun D σ H ⟨fr, e, tm, bs, hK, s, sb, fx, ok⟩ => by
  simp only [exS] at ok
  refine ⟨fr, e, tm, bs, hK, s, sb, (OkS.bind ok fx).mono (fun x hx ok1 H1 s1 => ?_) fun _ _ _ z => z⟩
  by_cases hb : x.1 = true
  · rw [if_pos hb] at ok1 ⊢
    exact ⟨fr, x.2, tm, bs, hK, s1, sb, fx, ok1⟩
  · rw [if_neg hb] at ok1 ⊢
    exact ⟨fr, x.2, tm, bs, hK, s1, sb, fx, ok1⟩
theorem asg_imp {f : Env → RS} (h0 : 0 ∉ g.slots) (hf : ∀ e, f e = .nx e) {H : Hp} {D : Ends} (h : ∃ fr e tm bs, fr.K = K ∧ Rl fr σ H e tm ∧ Sub fr tm bs ∧ Fixed fr σ ∧ OkS W Ev fr tm D ((evE Γ a bs e).toS fun x => optS (bindT g x.2.2 bs x.1 x.2.1) f)) :
    tAsg (rdE W Ev Γ K a) (rdG K g) D σ H := by
  obtain ⟨fr, e, tm, bs, hK, s, sb, fx, ok⟩ := h
  refine ⟨fr, e, tm, bs, hK, s, sb, (OkS.bind ok fx).mono (fun x hx ok1 v H1 s1 => ?_) fun _ _ _ z => z⟩
  obtain ⟨e2, hb, ok2⟩ := OkS.opt ok1
  rw [hf] at ok2
  exact ⟨fr, x.2.2, tm, bs, x.1, x.2.1, e2, hK, s1, sb, hb, fun σ2 s2 k2 => ok2 σ2 H1 s2 (fx.of sb.2.2 h0 k2)⟩
theorem rd_set (h0 : i ≠ 0) (ha : PE X ea (rdE W Ev Γ X.K a)) (hg : PG X tg (rdG X.K (.name i))) (hs : swapsWithSole [tg] ea pos.line X.env = pure false) (hw : swappedStores [tg] ea X.env = pure none) (h1 : isStar tg = false) : PS X (.Assign [tg] ea pos) (rdSt W Ev Γ X.K (.set i a)) :=
  psI (ps_asg ha hg hs hw (by rw [asg_cons h1]; rfl)) fun D σ H ⟨fr, e, tm, bs, hK, s, sb, fx, ok⟩ => asg_imp (f := .nx) (by simpa [CT.slots] using h0.symm) (fun _ => rfl) ⟨fr, e, tm, bs, hK, s, sb, fx, by simpa only [exS, bindT] using ok⟩
theorem rd_unp (h0 : 0 ∉ g.slots) (ha : PE X ea (rdE W Ev Γ X.K a)) (hg : PG X tg (rdG X.K g)) (hs : swapsWithSole [tg] ea pos.line X.env = pure false) (hw : swappedStores [tg] ea X.env = pure none) (h1 : isStar tg = false) : PS X (.Assign [tg] ea pos) (rdSt W Ev Γ X.K (.unp g a)) :=
  psI (ps_asg ha hg hs hw (by rw [asg_cons h1]; rfl)) fun D σ H ⟨fr, e, tm, bs, hK, s, sb, fx, ok⟩ => asg_imp (f := .nx) h0 (fun _ => rfl) ⟨fr, e, tm, bs, hK, s, sb, fx, by simpa only [exS] using ok⟩
theorem rd_set2 (h0 : i ≠ 0) (h0' : j ≠ 0) (ha : PE X ea (rdE W Ev Γ X.K a)) (hg : PG X tg (rdG X.K (.name i))) (hg2 : PG X tg2 (rdG X.K (.name j))) (hps : ∀ {te : TE} {g1 g2 : TG}, PE X ea te → PG X tg g1 → PG X tg2 g2 → PS X (.Assign [tg, tg2] ea pos) (tAsg2 te g1 g2)) : PS X (.Assign [tg, tg2] ea pos) (rdSt W Ev Γ X.K (.set2 i j a)) :=
  psI (hps ha hg hg2) fun D σ H ⟨fr, e, tm, bs, hK, s, sb, fx, ok⟩ => by
    simp only [exS] at ok
    refine ⟨fr, e, tm, bs, hK, s, sb, (OkS.bind ok fx).mono (fun x hx ok1 v H1 s1 => ?_) fun _ _ _ z => z⟩
    split at ok1
    · rename_i hf
      obtain ⟨e2, hb, ok2⟩ := OkS.opt ok1
      obtain ⟨e3, hb2, ok3⟩ := OkS.opt ok2
      have s1' : Rl fr σ H1 x.2.2 (⟨x.1, v, x.2.1⟩ :: ⟨x.1, v, x.2.1⟩ :: tm) := by
        obtain ⟨F, lab, st⟩ := s1
        exact ⟨F, lab, st.good, st.slots, st.tmps.1.of_flat hf, st.tmps⟩
      have own : ∃ k, x.1 = .own k := bindE_own hb
      obtain ⟨k, hk⟩ := own
      refine ⟨fr, x.2.2, ⟨x.1, v, x.2.1⟩ :: tm, bs, x.1, x.2.1, e2, hK, s1', ⟨fun c hc i hi => ?_, sb.2⟩, hb, fun σ2 s2 k2 => ?_⟩
      · rcases List.mem_cons.mp hc with z | z
        · subst z; rw [hk] at hi; simp [Tg.slots] at hi
        · exact sb.1 c z i hi
      · exact ⟨fr, e2, tm, bs, x.1, x.2.1, e3, hK, s2, sb, hb2, fun σ3 s3 k3 => ok3 σ3 H1 s3 ((fx.of sb.2.2 (S := [i]) (by simpa using h0.symm) k2).of sb.2.2 (S := [j]) (by simpa using h0'.symm) k3)⟩
    · exact ok1.elim
theorem rd_six {o ei : Expr} {oc ic : CE} {p1 : Pos} (ha : PE X ea (rdE W Ev Γ X.K a)) (ho : PE X o (rdP W Ev Γ X.K oc)) (hi : PE X ei (rdE W Ev Γ X.K ic)) (hs : swapsWithSole [.Subscript o ei p1] ea pos.line X.env = pure false) (hw : swappedStores [.Subscript o ei p1] ea X.env = pure none)
    (hasg : ∀ v, assign (.Subscript o ei p1) X.env v = (do
      let ov ← holding [v] (eval o X.env)
      let iv ← holding [v, ov] (eval ei X.env)
      standAt p1
      holding [v, ov, iv] (setItem ov iv v)
      release [v, ov, iv] [])) : PS X (.Assign [.Subscript o ei p1] ea pos) (rdSt W Ev Γ X.K (.six oc ic a)) :=
  psI (ps_asg ha (pg_sub ho hi set_list hasg) hs hw rfl) fun D σ H ⟨fr, e, tm, bs, hK, s, sb, fx, ok⟩ => by
    simp only [exS] at ok
    refine ⟨fr, e, tm, bs, hK, s, sb, (OkS.bind ok fx).mono (fun x hx ok1 v H1 s1 => ?_) fun _ _ _ z => z⟩
    refine ⟨fr, x.2.2, _, x.1.slots ++ bs, hK, s1, sb.push, (OkS.bind ok1 fx).mono (fun q hq ok2 ov H2 r hσ s2 => ?_) fun _ _ _ z => z.drop⟩
    split at ok2
    · rename_i g
      refine ⟨fr.at ⟨q.1, r, q.2.1, ov⟩, q.2.2, _, q.1 :: (x.1.slots ++ bs), hK, s2, sb.push.pth, (OkS.bind ok2 fx).mono (fun y hy ok3 iv H3 s3 => ?_) fun _ _ _ z => z.drop.pth⟩
      obtain ⟨t, d, e1⟩ := y
      unfold sixE at ok3
      cases d with
      | int n =>
        dsimp only at ok3
        cases hg : e1.get q.1 with
        | none => rw [hg] at ok3; exact ok3.elim
        | some kd =>
          obtain ⟨k, d0⟩ := kd
          rw [hg] at ok3
          dsimp only at ok3
          split at ok3
          · exact ok3.elim
          · rename_i hn
            simp only [Bool.or_eq_true, not_or, Bool.not_eq_true] at hn
            have hk' : q.2.1.length < k := by
              have : ¬ (k ≤ q.2.1.length) := fun z => by rw [Nat.ble_eq_true_of_le z] at hn; exact absurd hn.2 (by simp)
              omega
            cases hat : VI.atP q.2.1 d0 with
            | none => rw [hat] at ok3; exact ok3.elim
            | some ds =>
              rw [hat] at ok3
              dsimp only at ok3
              cases hn2 : ixN ds.length n with
              | none => rw [hn2] at ok3; exact ok3.elim
              | some j =>
                cases hmk : minK [(x.1, x.2.1)] with
                | none => rw [hn2, hmk] at ok3; exact ok3.elim
                | some qq =>
                  rw [hn2, hmk] at ok3
                  obtain ⟨F, lab, st⟩ := s3
                  obtain ⟨st0, rp⟩ := st.unpth
                  obtain rfl := st.top.int
                  obtain ⟨lo, tms⟩ := looseAll (as := [(x.1, x.2.1)]) (vs := [v]) (tm := tm) (Tmps.base (as := []) (vs := []) st0.tmps.2) rfl hmk
                  have off0 : Off fr (⟨x.1, v, x.2.1⟩ :: tm) q.1 := sb.push.off hn.1
                  have off : Off fr tm q.1 := ⟨fun c hc => off0.1 c (List.mem_cons_of_mem _ hc), off0.2⟩
                  simp only [List.map_cons, List.map_nil] at lo
                  obtain ⟨A, us, rfl, hA, hix, sf⟩ := St.seti (t := .own 0) st0 tms hg hσ off rp hk' hat lo (fun j hj => hj.1) hn2
                  exact ⟨A, us, n, j, rfl, rfl, hA, hix, ok3 σ _ sf fx⟩
      | _ => exact ok3.elim
    · exact ok2.elim
end
end VI
set_option autoImplicit true
set_option Elab.async false
set_option linter.all false
set_option maxRecDepth 100000
set_option maxHeartbeats 4000000
namespace VI
open PySem PySem.Spec PyProof.Rows L2
section
variable {W : WX} {Ev : EvT} {Γ : Sm} {K : PySem.W.Frag} {X : Cx} {fr : Fr} {σ σ' : L2.St} {H H' : Hp} {e e' : Env} {tm : List Tmp} {F : Addr → Prop} {lab : Lab} {t : Tg} {v r w : V} {d : D} {c : Tmp} {i j k n : Nat} {x m : Str} {p pos apos : Pos} {a b cc : CE} {ea eb ec tg tg2 : Expr} {es : CEs} {xs : List Expr} {q : List Nat} {vs : List V} {as : List (Tg × D)} {g : CT} {D₀ : Ends} {s : CS} {ss s1 s2 : CSs} {st : Stmt} {sts sts2 : List Stmt}
theorem rd_for {it : CI} {iter : Expr} (hp : PassesOwn (model X.prog X.w) X.A X.env X.xe) (hc : X.calm = true) (hi : PI X tg iter (rdI W Ev Γ X.K it)) (hg : PG X tg (rdG X.K g)) (hb : PSs X sts (rdSts W Ev Γ X.K ss)) (h0 : 0 ∉ g.slots)
    (hs : ∀ x, foldedSetIterable iter X.env x = pure x) : PS X (.For tg iter sts [] pos) (rdSt W Ev Γ X.K (.for g it ss)) := psI (ps_for hp hc hi hg hb hs) fun D σ H ⟨fr, e, tm, bs, hK, s, sb, fx, ok⟩ => by
  simp only [exS] at ok
  refine ⟨fr, e, tm, bs, hK, s, sb, (OkS.bind ok fx).mono (fun x hx ok1 J H1 c s1 wl => ?_) fun _ _ _ z => z⟩
  obtain ⟨item, okh, wk, wok, wit⟩ := wl.wk
  have sbc : Sub fr (c :: tm) (x.1.os ++ bs) := ⟨fun c' hc i hi => by
    rcases List.mem_cons.mp hc with y | y
    · subst y; exact List.mem_append_left _ (wl.sl i hi)
    · exact List.mem_append_right _ (sb.1 c' y i hi), fun q hq => List.mem_append_right _ (sb.2.1 q hq), sb.2.2⟩
  refine for_wk wk (fun i σ H => ∃ ei, Rl fr σ H ei (c :: tm) ∧ Fixed fr σ ∧ OkS W Ev fr tm D (forLoop (fun x_1 e1 => optS (bindT g e1 (x.1.os ++ bs) x_1.1 x_1.2) fun e2 => exSs Γ ss (x.1.os ++ bs) e2) x.1.t (x.1.xs.drop i) ei)) ⟨x.2, s1, fx, by simpa using ok1⟩ (fun i σ H ⟨ei, s2, _, _⟩ => wok _ _ _ s2) (fun i xv σ2 H2 hi hit ⟨ei, s2, fx2, ok2⟩ => ?_) fun σ2 H2 ⟨ei, s2, fx2, ok2⟩ => ?_
  · have hx : x.1.xs[i]? = some x.1.xs[i] := List.getElem?_eq_getElem hi
    rw [List.drop_eq_getElem_cons hi] at ok2
    simp only [forLoop] at ok2
    have sI := wit i _ _ _ _ xv _ hx ⟨[], rfl⟩ s2 hit
    cases hb : bindT g ei (x.1.os ++ bs) (nrm x.1.t x.1.xs[i]) x.1.xs[i] with
    | none => rw [hb] at ok2; exact ok2.elim
    | some e2 =>
      rw [hb] at ok2
      refine ⟨fr, ei, _, x.1.os ++ bs, _, x.1.xs[i], e2, hK, sI, sbc, hb, fun σ3 s3 k3 => ?_⟩
      have fx3 := fx2.of sb.2.2 h0 k3
      refine ⟨fr, e2, _, x.1.os ++ bs, hK, s3, sbc, fx3, ?_⟩
      simp only [optS] at ok2
      cases hr : exSs Γ ss (x.1.os ++ bs) e2 with
      | nx e3 => rw [hr] at ok2; exact fun σ4 H4 s4 f4 => ⟨e3, s4, f4, ok2⟩
      | ct e3 => rw [hr] at ok2; exact fun σ4 H4 s4 f4 => ⟨e3, s4, f4, ok2⟩
      | bk e3 => rw [hr] at ok2; exact fun σ4 H4 s4 f4 => ok2 σ4 H4 s4.drop f4
      | rt k d e3 => rw [hr] at ok2; exact fun v σ4 H4 s4 f4 => ok2 v σ4 H4 s4.sink f4
      | exn cl ys e3 => rw [hr] at ok2; exact fun cv dd σ4 H4 ev s4 f4 => ok2 cv dd σ4 H4 ev s4.drop f4
      | bad => rw [hr] at ok2; exact ok2.elim
  · rw [List.drop_length] at ok2
    exact ok2 σ2 H2 s2.drop fx2
def WhlOk (w : (Env → R (Bool × Env)) → (Env → RS) → Env → RS) : Prop := ∀ t b e, w t b e ≠ .bad → ∃ n, w t b e = whileN t b n e
theorem rd_whl (hw : WhlOk Γ.whl) (hp : PassesOwn (model X.prog X.w) X.A X.env X.xe) (hc : PT X ec (rdT W Ev Γ X.K cc)) (hb : PSs X sts (rdSts W Ev Γ X.K ss)) : PS X (.While ec sts [] pos) (rdSt W Ev Γ X.K (.whl cc ss)) := psI (ps_while hp hc hb) fun D σ H ⟨fr, e, tm, bs, hK, s, sb, fx, ok⟩ => by
  simp only [exS] at ok
  obtain ⟨n, hn⟩ := hw (fun e1 => tst (evE Γ cc bs e1)) (fun e1 => exSs Γ ss bs e1) e (fun z => by rw [z] at ok; exact ok)
  rw [hn] at ok
  refine ⟨fun m σ H => ∃ e, Rl fr σ H e tm ∧ Fixed fr σ ∧ OkS W Ev fr tm D (whileN (fun e1 => tst (evE Γ cc bs e1)) (fun e1 => exSs Γ ss bs e1) m e), ⟨n, e, s, fx, ok⟩, ?_⟩
  rintro m σ1 H1 ⟨e1, s1, fx1, ok1⟩
  cases m with
  | zero => exact ok1.elim
  | succ m =>
    simp only [whileN] at ok1
    refine ⟨fr, e1, tm, bs, hK, s1, sb, (OkS.bind ok1 fx1).mono (fun x hx ok2 H2 s2 => ?_) fun _ _ _ z => z⟩
    by_cases hb : x.1 = true
    · rw [if_pos hb] at ok2 ⊢
      refine ⟨fun σ H => ∃ e, Rl fr σ H e tm ∧ Fixed fr σ ∧ OkS W Ev fr tm D (whileN (fun e1 => tst (evE Γ cc bs e1)) (fun e1 => exSs Γ ss bs e1) m e), fun σ' H' h => ⟨m, Nat.lt_succ_self _, h⟩, fr, x.2, tm, bs, hK, s2, sb, fx1, ?_⟩
      cases hr : exSs Γ ss bs x.2 with
      | nx e3 => rw [hr] at ok2; exact fun σ4 H4 s4 f4 => ⟨e3, s4, f4, ok2⟩
      | ct e3 => rw [hr] at ok2; exact fun σ4 H4 s4 f4 => ⟨e3, s4, f4, ok2⟩
      | bk e3 => rw [hr] at ok2; exact fun σ4 H4 s4 f4 => ok2 σ4 H4 s4 f4
      | rt k d e3 => rw [hr] at ok2; exact ok2
      | exn cl ys e3 => rw [hr] at ok2; exact ok2
      | bad => rw [hr] at ok2; exact ok2.elim
    · rw [if_neg hb] at ok2 ⊢
      exact ok2 σ1 H2 s2 fx1
open Classical in
noncomputable def whlC (t : Env → R (Bool × Env)) (b : Env → RS) (e : Env) : RS := if h : ∃ n, whileN t b n e ≠ .bad then whileN t b (Classical.choose h) e else .bad
theorem whlC_ok : WhlOk whlC := fun t b e h => by
  unfold whlC at h ⊢
  split
  · rename_i q; exact ⟨_, rfl⟩
  · rename_i q; rw [dif_neg q] at h; exact absurd rfl h
theorem whileN_mono {t : Env → R (Bool × Env)} {b : Env → RS} : ∀ {n : Nat} {e : Env}, whileN t b n e ≠ .bad → ∀ m, n ≤ m → whileN t b m e = whileN t b n e
  | 0, e, h, _, _ => absurd rfl h
  | n + 1, e, h, 0, hm => by omega
  | n + 1, e, h, m + 1, hm => by
    simp only [whileN] at h ⊢
    cases ht : t e with
    | bad => rfl
    | exn c xs e1 => rfl
    | ok x =>
      rw [ht] at h
      simp only [R.toS] at h ⊢
      by_cases hb : x.1 = true
      · rw [if_pos hb] at h
        rw [if_pos hb, if_pos hb]
        cases hr : b x.2 with
        | nx e2 => rw [hr] at h; exact whileN_mono h m (by omega)
        | ct e2 => rw [hr] at h; exact whileN_mono h m (by omega)
        | bk e2 => rfl
        | rt k d e2 => rfl
        | exn c xs e2 => rfl
        | bad => rfl
      · rw [if_neg hb, if_neg hb]
theorem whlC_eq {t : Env → R (Bool × Env)} {b : Env → RS} {n : Nat} {e : Env} {r : RS} (h : whileN t b n e = r) (hr : r ≠ .bad) : whlC t b e = r := by
  have hq : ∃ n, whileN t b n e ≠ .bad := ⟨n, by rw [h]; exact hr⟩
  unfold whlC
  rw [dif_pos hq]
  have h1 := Classical.choose_spec hq
  have h2 : whileN t b n e ≠ .bad := by rw [h]; exact hr
  rw [← whileN_mono h1 (max n (Classical.choose hq)) (Nat.le_max_right _ _), whileN_mono h2 _ (Nat.le_max_left _ _), h]
end
end VI
set_option autoImplicit true
set_option Elab.async false
set_option linter.all false
set_option maxRecDepth 100000
set_option maxHeartbeats 4000000
namespace VI
open PySem PySem.Spec PyProof.Rows L2
structure Tx where
  N : List Str
  names : List (Str × NameKind)
  bi : List Str
  fns : List Str
  ino : List Str
  ex : List Str
  mks : List Str
def Tx.vis (T : Tx) (x : Str) (i : Nat) : Bool := decide (T.N[i]? = some x) && (match T.names.lookup x with | some .local => true | some .cell => true | some .free => true | _ => false) && !(x == ("__debug__" : Str)) && !(x == ("__classdict__" : Str))
def Tx.loc (T : Tx) (x : Str) (i : Nat) : Bool := decide (T.N[i]? = some x) && (match T.names.lookup x with | some .local => true | some .cell => true | _ => false)
def Tx.gl (T : Tx) (x : Str) : Bool := match T.names.lookup x with | some .globalImplicit => true | _ => false
def Tx.blt (T : Tx) (x : Str) : Bool := T.gl x && T.bi.contains x
def Tx.fn (T : Tx) (x : Str) : Bool := T.gl x && T.fns.contains x && !(x == ("__debug__" : Str))
def noStars (xs : List Expr) : Bool := xs.all fun e => !isStar e
def isSlice : Expr → Bool
  | .Slice .. => true
  | _ => false
def isSet : Expr → Bool
  | .Set .. => true
  | _ => false
def isCall0 : Expr → Bool
  | .Call (.Name _ _) [] [] _ => true
  | _ => false
def tailB (op : BoolOp) (y : Expr) (rest : List Expr) (pos : Pos) : Expr := match rest with
  | [] => y
  | _ => .BoolOp op (y :: rest) pos
def blkT (N : List Str) (names : List (Str × NameKind)) (scope : Scope) (own : List (Str × Nat)) : Bool :=
  (match scope.kind with | .function => true | _ => false) && (scope.names.all fun y => decide (scope.names.lookup y.1 = some y.2)) && (own.all fun p => decide (N[p.2]? = some p.1)) &&
    (scope.names.all fun y => match y.2 with
      | .free => (match names.lookup y.1 with | some .cell => true | some .free => true | _ => false)
      | .local => decide (y.1 ∈ own.map (·.1)) || decide (y.1 ∉ N)
      | .cell => decide (y.1 ∈ own.map (·.1)) || decide (y.1 ∉ N)
      | _ => true)
def ownOf (T : Tx) (vs : List Nat) : List (Str × Nat) := vs.filterMap fun i => (T.N[i]?).map fun x => (x, i)
def chkG (T : Tx) : CT → Expr → Bool
  | .name i, .Name x _ => T.loc x i
  | .two a b, .Tuple [x, y] _ _ => chkG T a x && chkG T b y
  | _, _ => false
def chkTys (T : Tx) : List Str → List Expr → Bool
  | [], [] => true
  | t :: ts, .Name n _ :: es => n == t && (tyTab.any fun p => p.1 == n) && T.blt n && chkTys T ts es
  | _, _ => false
def mcOk (o : Expr) (ap cp : Pos) (args : List Expr) : Bool := !isCall0 o && (ap.endLine == cp.line) && noStars args && decide (args.length < 20)
mutual
def chkE (T : Tx) : CE → Expr → Bool
  | .var i, e => match e with | .Name x _ => T.vis x i | _ => false
  | .mv i, e => match e with | .Name x _ => T.vis x i | _ => false
  | .fz i _, e => match e with | .Name x _ => T.vis x i | _ => false
  | .int n, e => match e with | .Constant (.int m) _ _ => decide (n = m) | _ => false
  | .str n, e => match e with | .Constant (.str m) _ _ => decide (n = m) | _ => false
  | .bl n, e => match e with | .Constant (.bool m) _ _ => decide (n = m) | _ => false
  | .non, e => match e with | .Constant .none _ _ => true | _ => false
  | .cst _, _ => false
  | .bin op a b, e => match e with | .BinOp x op' y _ => decide (op = op') && chkE T a x && chkE T b y | _ => false
  | .neg a, e => match e with | .UnaryOp .USub x _ => chkE T a x | _ => false
  | .cmp op a b, e => match e with | .Compare x [op'] [y] _ => decide (op = op') && chkE T a x && chkE T b y && !(behindInMarks op y) | _ => false
  | .chn o1 o2 a b c, e => match e with | .Compare x [p1, p2] [y, z] _ => decide (o1 = p1) && decide (o2 = p2) && chkE T a x && chkE T b y && chkE T c z && !(lastMarks [o1, o2] [y, z]) | _ => false
  | .and a r, e => match e with | .BoolOp .And (x :: y :: rest) pos => chkE T a x && chkE T r (tailB .And y rest pos) | _ => false
  | .or a r, e => match e with | .BoolOp .Or (x :: y :: rest) pos => chkE T a x && chkE T r (tailB .Or y rest pos) | _ => false
  | .not a, e => match e with | .UnaryOp .Not x _ => chkE T a x | _ => false
  | .ite c a b, e => match e with | .IfExp x y z _ => chkE T c x && chkE T a y && chkE T b z | _ => false
  | .tup es, e => match e with | .Tuple xs _ _ => chkEs T es xs && noStars xs | _ => false
  | .lst es, e => match e with | .List xs _ => chkEs T es xs && noStars xs | _ => false
  | .sub a i, e => match e with | .Subscript x y _ => chkE T a x && chkE T i y && !isSlice y | _ => false
  | .slc a lo hi, e => match e with | .Subscript x (.Slice l h none _) _ => chkE T a x && (match l with | none => lo.isNop | some x => !lo.isNop && chkE T lo x) && (match h with | none => hi.isNop | some x => !hi.isNop && chkE T hi x) | _ => false
  | .rev a, e => match e with | .Subscript x (.Slice none none (some (.UnaryOp .USub (.Constant (.int n) _ _) _)) _) _ => decide (n = 1) && chkE T a x | _ => false
  | .nop, _ => false
  | .bi f es, e => match e with | .Call (.Name g _) (x :: xs) [] _ => decide (f = g) && T.blt f && (biFn.contains f || biTy.contains f) && chkEs T es (x :: xs) && noStars (x :: xs) | _ => false
  | .fn f es, e => match e with | .Call (.Name g _) xs [] _ => decide (f = g) && T.fn f && chkEs T es xs && noStars xs && (!T.ino.contains f || (match es with | .cons (.var _) _ => true | _ => false)) | _ => false
  | .met m o es, e => match e with | .Call (.Attribute y m' ap) (x :: xs) [] cp => decide (m = m') && (decide (m = "index") || decide (m = "join")) && chkE T o y && chkEs T es (x :: xs) && mcOk y ap cp (x :: xs) | _ => false
  | .mut m o es, e => match e with | .Call (.Attribute y m' ap) xs [] cp => decide (m = m') && mutNames.contains m && chkP T o y && chkEs T es xs && mcOk y ap cp xs | _ => false
  | .lc el g it c vs, e => match e with
    | .ListComp elt [⟨tg, iter, ifs, k⟩] scope _ => decide (k = 0) && decide ((ownOf T vs).map (·.2) = vs) && blkT T.N T.names scope (ownOf T vs) && chkI T it iter && chkG { T with names := scope.names } g tg && (g.slots.all fun i => vs.contains i) &&
        chkE { T with names := scope.names } el elt && (match ifs with | [] => c.isNop | [x] => !c.isNop && chkE { T with names := scope.names } c x | _ => false)
    | _ => false
  | .lc2 .., _ => false
  | .isi a ts, e => match e with
    | .Call (.Name g _) [x, .Name n _] [] _ => decide (g = "isinstance") && T.blt g && chkE T a x && !isStar x && (match ts with | [t] => decide (n = t) && (tyTab.any fun p => p.1 == n) && T.blt n | _ => false)
    | .Call (.Name g _) [x, .Tuple es _ _] [] _ => decide (g = "isinstance") && T.blt g && chkE T a x && !isStar x && chkTys T ts es && decide (ts.length ≤ 100)
    | _ => false
  | .sp k es, e => match e with
    | .Call (.Name g _) [.Call (.Name g2 _) [x] [] _] [] _ => T.blt g && T.blt g2 && !isStar x && (match es with
      | .cons a .nil => chkE T a x && ((decide (k = 2) && decide (g = "tuple") && decide (g2 = "reversed")) || (decide (k = 0) && decide (g = "list") && decide (g2 = "range")))
      | _ => false)
    | .Call (.Name g _) [.Call (.Name g2 _) [x, y] [] _] [] _ => T.blt g && T.blt g2 && !isStar x && !isStar y && (match es with
      | .cons a (.cons b .nil) => chkE T a x && chkE T b y && decide (k = 1) && decide (g = "list") && decide (g2 = "range")
      | _ => false)
    | _ => false
  | .bad, _ => false
def chkEs (T : Tx) : CEs → List Expr → Bool
  | .nil, xs => match xs with | [] => true | _ => false
  | .cons a r, xs => match xs with | x :: xs => chkE T a x && chkEs T r xs | _ => false
def chkI (T : Tx) : CI → Expr → Bool
  | .seq c, e => chkE T c e && !isSet e
  | .rng a, e => match e with | .Call (.Name g _) [x] [] _ => decide (g = "range") && T.blt g && chkE T a x && !isStar x | _ => false
  | .rng2 a b, e => match e with | .Call (.Name g _) [x, y] [] _ => decide (g = "range") && T.blt g && chkE T a x && chkE T b y && !isStar x && !isStar y | _ => false
  | _, _ => false
def chkP (T : Tx) : CE → Expr → Bool
  | .var i, e => match e with | .Name x _ => T.vis x i | _ => false
  | .sub a c, e => match e with | .Subscript x y _ => chkP T a x && chkE T c y && !isSlice y | _ => false
  | _, _ => false
end
def chkO (T : Tx) (c : CE) (l : Option Expr) : Bool := match l with | none => c.isNop | some x => !c.isNop && chkE T c x
end VI
set_option autoImplicit true
set_option Elab.async false
set_option linter.all false
set_option maxRecDepth 100000
set_option maxHeartbeats 8000000
namespace VI
open PySem PySem.Spec PyProof.Rows L2
structure XOk (X : Cx) (T : Tx) (Γ : Sm) (Ev : EvT) : Prop where
  n : X.N = T.N
  nd : T.N.Nodup
  names : ∀ x k, T.names.lookup x = some k → X.env.scope.names.lookup x = some k ∨ (k = .free ∧ X.env.scope.names.lookup x = some .cell)
  fn : ∀ x, T.names.lookup x = some .cell → X.fn x = true
  calm : X.calm = true
  room : X.A.units + 200 < cLine
  bi : ∀ x ∈ T.bi, X.mg x = none
  ino : ∀ f, Γ.ino f = T.ino.contains f
  fns : ∀ f ∈ T.fns, ∃ a fd ps n, FnOk X.prog X.w X.K X.mg X.base (L2.CX X.prog X.w) n a fd ps (spF X.K Ev Γ f) ∧ Room n X.A ∧ X.mg f = some (.ref a) ∧ PySem.W.keepIn X.K (.ref a) = true ∧ Binds X.K fd ps []
section
variable {X : Cx} {T : Tx} {Γ : Sm} {Ev : EvT} {W : WX} {x : Str} {i : Nat} {pos : Pos}
theorem XOk.vis (h : XOk X T Γ Ev) (hv : T.vis x i = true) : PE X (.Name x pos) (tVar i) := by
  unfold Tx.vis at hv
  simp only [Bool.and_eq_true, decide_eq_true_eq, Bool.not_eq_true'] at hv
  obtain ⟨⟨⟨h1, h2⟩, h3⟩, h4⟩ := hv
  refine pe_var (by rw [h.n]; exact h1) ?_ h3 h4
  cases hl : T.names.lookup x with
  | none => rw [hl] at h2; cases h2
  | some k =>
    rw [hl] at h2
    have := h.names x k hl
    cases k with
    | «local» => exact .inl (this.elim id fun z => nomatch z.1)
    | cell => exact .inr (.inl (this.elim id fun z => nomatch z.1))
    | free => exact this.elim (fun z => .inr (.inr z)) fun z => .inr (.inl z.2)
    | _ => cases h2
theorem XOk.gl (h : XOk X T Γ Ev) (hv : T.gl x = true) : Gl X x := by
  unfold Tx.gl at hv
  cases hl : T.names.lookup x with
  | none => rw [hl] at hv; cases hv
  | some k =>
    rw [hl] at hv
    cases k with
    | globalImplicit => exact (h.names x _ hl).elim id fun z => nomatch z.1
    | _ => cases hv
theorem XOk.blt (h : XOk X T Γ Ev) (hv : T.blt x = true) : Gl X x ∧ X.mg x = none := by
  unfold Tx.blt at hv
  rw [Bool.and_eq_true] at hv
  exact ⟨h.gl hv.1, h.bi x (List.contains_iff_mem.mp hv.2)⟩
theorem XOk.loc (h : XOk X T Γ Ev) (hv : T.loc x i = true) : PG X (.Name x pos) (gName i) := by
  unfold Tx.loc at hv
  simp only [Bool.and_eq_true, decide_eq_true_eq] at hv
  obtain ⟨h1, h2⟩ := hv
  cases hl : T.names.lookup x with
  | none => rw [hl] at h2; cases h2
  | some k =>
    rw [hl] at h2
    have := h.names x k hl
    have hN : X.N.Nodup := by rw [h.n]; exact h.nd
    have hi : X.N[i]? = some x := by rw [h.n]; exact h1
    cases k with
    | «local» =>
      have q := this.elim id fun z => nomatch z.1
      exact pg_name hN hi (.inl q) (.inr q)
    | cell =>
      have q := this.elim id fun z => nomatch z.1
      exact pg_name hN hi (.inr q) (.inl (h.fn x hl))
    | _ => cases h2
theorem chkG_ok (h : XOk X T Γ Ev) : ∀ {g : CT} {e : Expr}, chkG T g e = true → PG X e (rdG X.K g) ∧ isStar e = false
  | .name i, e, hc => by
    unfold chkG at hc
    split at hc
    · rename_i j x p heq; cases heq; exact ⟨rdG_name (h.loc hc), rfl⟩
    · rename_i a b x y k p heq; cases heq
    · cases hc
  | .two a b, e, hc => by
    unfold chkG at hc
    split at hc
    · rename_i heq; cases heq
    · rename_i heq
      cases heq
      rw [Bool.and_eq_true] at hc
      obtain ⟨h1, n1⟩ := chkG_ok h hc.1
      obtain ⟨h2, n2⟩ := chkG_ok h hc.2
      exact ⟨rdG_two h.calm h1 h2 n1 n2, rfl⟩
    · cases hc
  | .three _ _ _, e, hc => by
    unfold chkG at hc
    cases hc
theorem noStars_cons {e : Expr} {es : List Expr} (h : noStars (e :: es) = true) : isStar e = false ∧ noStars es = true := by
  unfold noStars at h ⊢
  rw [List.all_cons, Bool.and_eq_true] at h
  exact ⟨by simpa using h.1, h.2⟩
theorem plain_any {env : PySem.Env} : ∀ {es : List Expr}, noStars es = true → (backTo pos (starEach es env)).any (·.1) = false
  | [], _ => rfl
  | e :: es, h => by
    obtain ⟨h1, h2⟩ := noStars_cons h
    rw [star_cons h1]
    show (false || (backTo pos (starEach es env)).any (·.1)) = false
    rw [plain_any h2]; rfl
theorem plain_all {env : PySem.Env} : ∀ {es : List Expr}, noStars es = true → (backTo pos (starEach es env)).all (fun x => !x.1) = true
  | [], _ => rfl
  | e :: es, h => by
    obtain ⟨h1, h2⟩ := noStars_cons h
    rw [star_cons h1]
    show (true && (backTo pos (starEach es env)).all (fun x => !x.1)) = true
    rw [plain_all h2]; rfl
theorem base_ok {o : Expr} {m : Str} {env : PySem.Env} (h : isCall0 o = false) : attributeBase o m env (eval o env) = eval o env := by
  unfold attributeBase
  split
  · cases h
  · rfl
theorem mc_ok {o : Expr} {m : Str} {ap cp : Pos} {args : List Expr} (h : mcOk o ap cp args = true) : McOk X o m ap cp args ∧ noStars args = true := by
  unfold mcOk at h
  simp only [Bool.and_eq_true, Bool.not_eq_true', decide_eq_true_eq] at h
  obtain ⟨⟨⟨h1, h2⟩, h3⟩, h4⟩ := h
  refine ⟨⟨base_ok h1, h2, ?_⟩, h3⟩
  rw [plain_all h3]
  have : (args.length + ([] : List Keyword).length + (if ([] : List Keyword).isEmpty then 0 else 1) < 30) := by simp; omega
  simp only [Bool.true_and, Bool.and_eq_true, decide_eq_true_eq]
  exact ⟨rfl, this⟩
theorem slice_ok {e : Expr} (h : isSlice e = false) : PlainIx e := by
  intro o i
  cases e <;> first | rfl | cases h
theorem set_ok {e : Expr} {env : PySem.Env} (h : isSet e = false) : ∀ x, foldedSetIterable e env x = pure x := by
  intro x
  cases e <;> first | rfl | cases h
theorem tys_ok (h : XOk X T Γ Ev) : ∀ {ts : List Str} {es : List Expr}, chkTys T ts es = true → ∃ ss, TyNames X es ts ss ∧ ss.length = ts.length
  | [], [], hc => ⟨[], .nil, rfl⟩
  | [], _ :: _, hc => by simp [chkTys] at hc
  | t :: ts, es, hc => by
    unfold chkTys at hc
    split at hc
    · rename_i heq; cases heq
    · rename_i t' ts' n p es' heq
      cases heq
      simp only [Bool.and_eq_true, beq_iff_eq] at hc
      obtain ⟨⟨⟨h1, h2⟩, h3⟩, h4⟩ := hc
      subst h1
      obtain ⟨ss, r, hl⟩ := tys_ok h h4
      obtain ⟨q, hq, e⟩ := List.any_eq_true.mp h2
      obtain ⟨n', s⟩ := q
      have e := eq_of_beq e
      subst e
      obtain ⟨g, m⟩ := h.blt h3
      exact ⟨s :: ss, .cons hq g m r, by simp [hl]⟩
    · cases hc
theorem relab_names {sc : Scope} : ∀ {names : List (Str × NameKind)} {x : Str} {k : NameKind}, names.lookup x = some k →
    (names.map fun (n, k) => if (k == NameKind.free && sc.kind == .function && sc.names.lookup n == some .cell) then (n, NameKind.cell) else (n, k)).lookup x = some k ∨
    (k = .free ∧ (names.map fun (n, k) => if (k == NameKind.free && sc.kind == .function && sc.names.lookup n == some .cell) then (n, NameKind.cell) else (n, k)).lookup x = some .cell)
  | [], _, _, h => by simp at h
  | (n, k₀) :: r, x, k, h => by
    have ih := @relab_names sc r x k
    show List.lookup x ((if (k₀ == NameKind.free && sc.kind == .function && sc.names.lookup n == some .cell) = true then (n, NameKind.cell) else (n, k₀)) :: (r.map _)) = some k ∨ (k = .free ∧ List.lookup x ((if (k₀ == NameKind.free && sc.kind == .function && sc.names.lookup n == some .cell) = true then (n, NameKind.cell) else (n, k₀)) :: (r.map _)) = some .cell)
    cases hx : x == n with
    | true =>
      simp only [List.lookup_cons, hx] at h
      cases h
      by_cases hc : (k₀ == NameKind.free && sc.kind == .function && sc.names.lookup n == some .cell) = true
      · rw [if_pos hc]
        simp only [List.lookup_cons, hx]
        simp only [Bool.and_eq_true, beq_iff_eq] at hc
        exact .inr ⟨hc.1.1, by first | rfl | trivial⟩
      · rw [if_neg hc]
        simp only [List.lookup_cons, hx]
        exact .inl (by first | rfl | trivial)
    | false =>
      simp only [List.lookup_cons, hx] at h
      by_cases hc : (k₀ == NameKind.free && sc.kind == .function && sc.names.lookup n == some .cell) = true
      · rw [if_pos hc]; simp only [List.lookup_cons, hx]; exact ih h
      · rw [if_neg hc]; simp only [List.lookup_cons, hx]; exact ih h
theorem XOk.blk (h : XOk X T Γ Ev) {s : Shared} {H : Hp} {scope : Scope} {C : Addr} {cl : List (Str × Addr)} {fp : List Addr} : XOk (X.blk s H scope (compEnvC scope cl C X.env) fp) { T with names := scope.names } Γ Ev where
  n := h.n
  nd := h.nd
  names := fun x k hl => relab_names (sc := X.env.scope) hl
  fn := fun x hl => by show (scope.names.lookup x == some .cell) = true; rw [hl]; rfl
  calm := h.calm
  room := h.room
  bi := h.bi
  ino := h.ino
  fns := h.fns
theorem XOk.blkOk (h : XOk X T Γ Ev) {scope : Scope} {own : List (Str × Nat)} (hb : blkT T.N T.names scope own = true) : BlkOk X.N X.env.scope scope own := by
  unfold blkT at hb
  simp only [Bool.and_eq_true, List.all_eq_true, decide_eq_true_eq] at hb
  obtain ⟨⟨⟨h1, h2⟩, h3⟩, h4⟩ := hb
  rw [h.n]
  refine ⟨?_, h2, h3, fun y hy e => ?_, fun y hy e => ?_⟩
  · split at h1
    · assumption
    · cases h1
  · have q := h4 y hy
    simp only [e] at q
    split at q
    · rename_i hl
      exact .inl ((h.names _ _ hl).elim id fun z => nomatch z.1)
    · rename_i hl
      exact (h.names _ _ hl).elim .inr fun z => .inl z.2
    · cases q
  · have q := h4 y hy
    rcases e with e | e <;> (simp only [e, Bool.or_eq_true, decide_eq_true_eq] at q; exact q)
structure EOk (X : Cx) (W : WX) (Ev : EvT) (Γ : Sm) (c : CE) (e : Expr) : Prop where
  pe : PE X e (rdE W Ev Γ X.K c)
  pt : PT X e (rdT W Ev Γ X.K c)
  pw : ∀ op vs pos, e = .BoolOp op vs pos → PW X e (rdT W Ev Γ X.K c)
theorem EOk.plain {c : CE} {e : Expr} (h : PE X e (rdE W Ev Γ X.K c)) (he : ∀ whole, isTrue e X.env whole = (do let v ← whole; standAt e.pos; holding [v] (truthy v))) (hn : ∀ op vs pos, e ≠ .BoolOp op vs pos) : EOk X W Ev Γ c e :=
  ⟨h, rdT_plain h he, fun op vs pos z => absurd z (hn op vs pos)⟩
theorem tail_pe {op : BoolOp} {c : CE} {y : Expr} {rest : List Expr} (h : EOk X W Ev Γ c (tailB op y rest pos)) : PE X (.BoolOp op (y :: rest) pos) (rdE W Ev Γ X.K c) := by
  cases rest with
  | nil => exact pe_one h.pe
  | cons z r => exact h.pe
theorem tail_andW {c : CE} {y : Expr} {rest : List Expr} (h : EOk X W Ev Γ c (tailB .And y rest pos)) : PW X (.BoolOp .And (y :: rest) pos) (rdT W Ev Γ X.K c) := by
  cases rest with
  | nil => exact pw_and1 h.pt
  | cons z r => exact h.pw _ _ _ rfl
theorem tail_orW {c : CE} {y : Expr} {rest : List Expr} (h : EOk X W Ev Γ c (tailB .Or y rest pos)) : PW X (.BoolOp .Or (y :: rest) pos) (rdT W Ev Γ X.K c) := by
  cases rest with
  | nil => exact pw_or1 h.pt
  | cons z r => exact h.pw _ _ _ rfl
theorem pwI' {e : Expr} {t t' : TT} (h : PW X e t) (m : ∀ σ H Q, t' σ H Q → t σ H Q) : PW X e t' := pwI h m
end
end VI
set_option autoImplicit true
set_option Elab.async false
set_option linter.all false
set_option maxRecDepth 100000
set_option maxHeartbeats 8000000
namespace VI
open PySem PySem.Spec PyProof.Rows L2
theorem pt_ite {X : Cx} {c a b : Expr} {pos : Pos} {tc ta tb : TT} (hc : PT X c tc) (ha : PT X a ta) (hb : PT X b tb) : PT X (.IfExp c a b pos) (fun σ H Q => tc σ H fun k H1 => if k = true then ta σ H1 Q else tb σ H1 Q) := by
  refine ⟨fun pins s σ H Q I h => ?_⟩
  show wpAny _ _ (isTrue c X.env (eval c X.env) >>= fun k => if k = true then isTrue a X.env (eval a X.env) else isTrue b X.env (eval b X.env)) _ _ _
  refine wpAny_bind (thn (hc.run pins s σ H _ I h) fun k s1 ⟨H1, I1, q⟩ => ?_)
  dsimp only at q
  by_cases hk : k = true
  · rw [if_pos hk] at q ⊢
    exact ha.run pins s1 σ H1 Q I1 q
  · rw [if_neg hk] at q ⊢
    exact hb.run pins s1 σ H1 Q I1 q
theorem takesW0 {X : Cx} : Takes X W0 := fun _ _ ⟨_, _, _, _, _, _, _, _, _, _, _, _, _, _, _, _, w⟩ => w.elim
mutual
theorem chkE_ok : ∀ (c : CE) {X : Cx} {T : Tx} {Γ : Sm} {Ev : EvT} {W : WX} {e : Expr}, XOk X T Γ Ev → Takes X W → chkE T c e = true → EOk X W Ev Γ c e
  | .var i, X, T, Γ, Ev, W, e, h, tk, hc => by
    unfold chkE at hc
    split at hc
    · exact .plain (rd_var (h.vis hc)) (fun _ => rfl) (by simp)
    · cases hc
  | .mv i, X, T, Γ, Ev, W, e, h, tk, hc => by
    unfold chkE at hc
    split at hc
    · exact .plain (rd_mv (h.vis hc)) (fun _ => rfl) (by simp)
    · cases hc
  | .fz i k, X, T, Γ, Ev, W, e, h, tk, hc => by
    unfold chkE at hc
    split at hc
    · exact .plain (rd_fz (h.vis hc)) (fun _ => rfl) (by simp)
    · cases hc
  | .int n, X, T, Γ, Ev, W, e, h, tk, hc => by
    unfold chkE at hc
    split at hc
    · rw [decide_eq_true_eq] at hc; subst hc
      exact .plain rd_int (fun _ => rfl) (by simp)
    · cases hc
  | .str n, X, T, Γ, Ev, W, e, h, tk, hc => by
    unfold chkE at hc
    split at hc
    · rw [decide_eq_true_eq] at hc; subst hc
      exact .plain rd_str (fun _ => rfl) (by simp)
    · cases hc
  | .bl n, X, T, Γ, Ev, W, e, h, tk, hc => by
    unfold chkE at hc
    split at hc
    · rw [decide_eq_true_eq] at hc; subst hc
      exact .plain rd_bl (fun _ => rfl) (by simp)
    · cases hc
  | .non, X, T, Γ, Ev, W, e, h, tk, hc => by
    unfold chkE at hc
    split at hc
    · exact .plain rd_non (fun _ => rfl) (by simp)
    · cases hc
  | .cst _, X, T, Γ, Ev, W, e, h, tk, hc => by unfold chkE at hc; cases hc
  | .bin op a b, X, T, Γ, Ev, W, e, h, tk, hc => by
    unfold chkE at hc
    split at hc
    · simp only [Bool.and_eq_true, decide_eq_true_eq] at hc
      obtain ⟨⟨rfl, h1⟩, h2⟩ := hc
      exact .plain (rd_bin (chkE_ok a h tk h1).pe (chkE_ok b h tk h2).pe) (fun _ => rfl) (by simp)
    · cases hc
  | .neg a, X, T, Γ, Ev, W, e, h, tk, hc => by
    unfold chkE at hc
    split at hc
    · exact .plain (rd_neg (chkE_ok a h tk hc).pe) (fun _ => rfl) (by simp)
    · cases hc
  | .cmp op a b, X, T, Γ, Ev, W, e, h, tk, hc => by
    unfold chkE at hc
    split at hc
    · simp only [Bool.and_eq_true, decide_eq_true_eq, Bool.not_eq_true'] at hc
      obtain ⟨⟨⟨rfl, h1⟩, h2⟩, h3⟩ := hc
      have hu : X.A.units + 65 < cLine := by have := h.room; omega
      exact ⟨rd_cmp hu (chkE_ok a h tk h1).pe (chkE_ok b h tk h2).pe h3, rdT_cmp hu (chkE_ok a h tk h1).pe (chkE_ok b h tk h2).pe h3, by simp⟩
    · cases hc
  | .chn o1 o2 a b c, X, T, Γ, Ev, W, e, h, tk, hc => by
    unfold chkE at hc
    split at hc
    · simp only [Bool.and_eq_true, decide_eq_true_eq, Bool.not_eq_true'] at hc
      obtain ⟨⟨⟨⟨⟨rfl, rfl⟩, h1⟩, h2⟩, h3⟩, h4⟩ := hc
      have hu : X.A.units + 65 < cLine := by have := h.room; omega
      exact ⟨rd_chn hu (chkE_ok a h tk h1).pe (chkE_ok b h tk h2).pe (chkE_ok c h tk h3).pe h4, rdT_chn hu (chkE_ok a h tk h1).pe (chkE_ok b h tk h2).pe (chkE_ok c h tk h3).pe h4, by simp⟩
    · cases hc
  | .and a r, X, T, Γ, Ev, W, e, h, tk, hc => by
    unfold chkE at hc
    split at hc
    · rw [Bool.and_eq_true] at hc
      have h1 := chkE_ok a h tk hc.1
      have h2 := chkE_ok r h tk hc.2
      have hw := pwI (pw_and h1.pt (tail_andW h2)) fun σ H Q q => andT_imp (W := W) (Ev := Ev) (Γ := Γ) (K := X.K) q
      exact ⟨peI (pe_and h1.pe (tail_pe h2)) fun σ H Q q => and_imp q, hw.pt, fun op vs pos z => by cases z; exact hw⟩
    · cases hc
  | .or a r, X, T, Γ, Ev, W, e, h, tk, hc => by
    unfold chkE at hc
    split at hc
    · rw [Bool.and_eq_true] at hc
      have h1 := chkE_ok a h tk hc.1
      have h2 := chkE_ok r h tk hc.2
      have hw := pwI (pw_or h1.pt (tail_orW h2)) fun σ H Q q => orT_imp (W := W) (Ev := Ev) (Γ := Γ) (K := X.K) q
      exact ⟨peI (pe_or h1.pe (tail_pe h2)) fun σ H Q q => or_imp q, hw.pt, fun op vs pos z => by cases z; exact hw⟩
    · cases hc
  | .not a, X, T, Γ, Ev, W, e, h, tk, hc => by
    unfold chkE at hc
    split at hc
    · have h1 := chkE_ok a h tk hc
      exact ⟨peI (pe_not h1.pe) fun σ H Q q => not_imp q, ptI (pt_not h1.pt) fun σ H Q q => notT_imp q, by simp⟩
    · cases hc
  | .ite c a b, X, T, Γ, Ev, W, e, h, tk, hc => by
    unfold chkE at hc
    split at hc
    · simp only [Bool.and_eq_true] at hc
      have h0 := chkE_ok c h tk hc.1.1
      have h1 := chkE_ok a h tk hc.1.2
      have h2 := chkE_ok b h tk hc.2
      exact ⟨peI (pe_ifExp h0.pt h1.pe h2.pe) fun σ H Q q => ite_imp q, ptI (pt_ite h0.pt h1.pt h2.pt) fun σ H Q q => iteT_imp q, by simp⟩
    · cases hc
  | .tup es, X, T, Γ, Ev, W, e, h, tk, hc => by
    unfold chkE at hc
    split at hc
    · rw [Bool.and_eq_true] at hc
      exact .plain (rd_tup (chkEs_ok es h tk hc.1 hc.2)) (fun _ => rfl) (by simp)
    · cases hc
  | .lst es, X, T, Γ, Ev, W, e, h, tk, hc => by
    unfold chkE at hc
    split at hc
    · rw [Bool.and_eq_true] at hc
      exact .plain (rd_lst (chkEs_ok es h tk hc.1 hc.2)) (fun _ => rfl) (by simp)
    · cases hc
  | .sub a i, X, T, Γ, Ev, W, e, h, tk, hc => by
    unfold chkE at hc
    split at hc
    · simp only [Bool.and_eq_true, Bool.not_eq_true'] at hc
      exact .plain (rd_sub (chkE_ok a h tk hc.1.1).pe (chkE_ok i h tk hc.1.2).pe (slice_ok hc.2)) (fun _ => rfl) (by simp)
    · cases hc
  | .slc a lo hi, X, T, Γ, Ev, W, e, h, tk, hc => by
    unfold chkE at hc
    split at hc
    · simp only [Bool.and_eq_true] at hc
      exact .plain (rd_slc (chkE_ok a h tk hc.1.1).pe (chkO_ok lo h tk hc.1.2) (chkO_ok hi h tk hc.2)) (fun _ => rfl) (by simp)
    · cases hc
  | .rev a, X, T, Γ, Ev, W, e, h, tk, hc => by
    unfold chkE at hc
    split at hc
    · simp only [Bool.and_eq_true, decide_eq_true_eq] at hc
      obtain ⟨rfl, h1⟩ := hc
      exact .plain (rd_rev (chkE_ok a h tk h1).pe) (fun _ => rfl) (by simp)
    · cases hc
  | .nop, X, T, Γ, Ev, W, e, h, tk, hc => by unfold chkE at hc; cases hc
  | .bi f es, X, T, Γ, Ev, W, e, h, tk, hc => by
    unfold chkE at hc
    split at hc
    · simp only [Bool.and_eq_true, decide_eq_true_eq, Bool.or_eq_true] at hc
      obtain ⟨⟨⟨⟨rfl, h1⟩, h2⟩, h3⟩, h4⟩ := hc
      obtain ⟨g, m⟩ := h.blt h1
      obtain ⟨n1, n2⟩ := noStars_cons h4
      exact .plain (rd_bi h.calm g m (h2.imp List.contains_iff_mem.mp List.contains_iff_mem.mp) (chkEs_ok es h tk h3 h4) (star_cons n1) (plain_any n2)) (fun _ => rfl) (by simp)
    · cases hc
  | .fn f es, X, T, Γ, Ev, W, e, h, tk, hc => by
    unfold chkE at hc
    split at hc
    · rename_i g p xs pos
      simp only [Bool.and_eq_true, decide_eq_true_eq] at hc
      obtain ⟨⟨⟨⟨rfl, h1⟩, h3⟩, h4⟩, h5⟩ := hc
      unfold Tx.fn at h1
      simp only [Bool.and_eq_true, Bool.not_eq_true'] at h1
      obtain ⟨⟨g1, g2⟩, g3⟩ := h1
      obtain ⟨a, fd, ps, n, Fn, hr, hm, hk, hb⟩ := h.fns f (List.contains_iff_mem.mp g2)
      have pa := chkEs_ok es h tk h3 h4
      cases xs with
      | nil =>
        cases es with
        | cons a r => unfold chkEs at h3; cases h3
        | nil =>
          have hi : Γ.ino f = false := by
            rw [h.ino]
            cases q : T.ino.contains f with
            | false => rfl
            | true => rw [q] at h5; simp at h5
          exact .plain (rd_fn0 tk hi Fn hr (h.gl g1) hm hk hb g3) (fun _ => rfl) (by simp)
      | cons x xs =>
        obtain ⟨n1, n2⟩ := noStars_cons h4
        by_cases hi : Γ.ino f = true
        · have hi2 : T.ino.contains f = true := by rw [← h.ino]; exact hi
          rw [hi2] at h5
          simp only [Bool.not_true, Bool.false_or] at h5
          split at h5
          · rename_i i r
            unfold chkEs at h3
            simp only [Bool.and_eq_true] at h3
            obtain ⟨c1, c2⟩ := h3
            unfold chkE at c1
            split at c1
            · exact .plain (rd_fnio tk hi Fn hr (h.gl g1) hm hk hb (h.vis c1) (chkEs_ok r h tk c2 n2) g3 (star_cons n1) (plain_any n2)) (fun _ => rfl) (by simp)
            · cases c1
          · cases h5
        · have hi : Γ.ino f = false := by cases q : Γ.ino f with | false => rfl | true => exact absurd q hi
          exact .plain (rd_fn tk hi Fn hr (h.gl g1) hm hk hb pa g3 (star_cons n1) (plain_any n2)) (fun _ => rfl) (by simp)
    · cases hc
  | .met m o es, X, T, Γ, Ev, W, e, h, tk, hc => by
    unfold chkE at hc
    split at hc
    · simp only [Bool.and_eq_true, decide_eq_true_eq, Bool.or_eq_true] at hc
      obtain ⟨⟨⟨⟨rfl, h1⟩, h2⟩, h3⟩, h4⟩ := hc
      obtain ⟨mc, ns⟩ := mc_ok h4
      obtain ⟨n1, n2⟩ := noStars_cons ns
      exact .plain (rd_met h1 (chkE_ok o h tk h2).pe (chkEs_ok es h tk h3 ns) mc (star_cons n1) (plain_any n2)) (fun _ => rfl) (by simp)
    · cases hc
  | .mut m o es, X, T, Γ, Ev, W, e, h, tk, hc => by
    unfold chkE at hc
    split at hc
    · rename_i y m' ap xs cp
      simp only [Bool.and_eq_true, decide_eq_true_eq] at hc
      obtain ⟨⟨⟨⟨rfl, h1⟩, h2⟩, h3⟩, h4⟩ := hc
      obtain ⟨mc, ns⟩ := mc_ok h4
      have hm := List.contains_iff_mem.mp h1
      cases xs with
      | nil =>
        cases es with
        | nil => exact .plain (rd_mut0 hm (chkP_ok o h tk h2) mc.base mc.line) (fun _ => rfl) (by simp)
        | cons a r => unfold chkEs at h3; cases h3
      | cons x xs =>
        obtain ⟨n1, n2⟩ := noStars_cons ns
        exact .plain (rd_mut hm (chkP_ok o h tk h2) (chkEs_ok es h tk h3 ns) mc (star_cons n1) (plain_any n2)) (fun _ => rfl) (by simp)
    · cases hc
  | .lc el g it c vs, X, T, Γ, Ev, W, e, h, tk, hc => by
    unfold chkE at hc
    split at hc
    · rename_i elt tg iter ifs k scope pos
      simp only [Bool.and_eq_true, decide_eq_true_eq] at hc
      obtain ⟨⟨⟨⟨⟨⟨⟨rfl, h1⟩, h2⟩, h3⟩, h4⟩, h5⟩, h6⟩, h7⟩ := hc
      have hI := chkI_ok it (tg := tg) h tk h3
      have main := rd_lc (W := W) (pos := pos) (ifs := ifs) (cc := c) (el := el) (elt := elt) (own := ownOf T vs) (scope := scope) h.calm (by rw [h.n]; exact h.nd) hI.1 (h.blkOk h2) (fun s H C cl fp => (chkG_ok (h.blk) h4).1) (fun s H C cl fp => ?_)
        (fun s H C cl fp => (chkE_ok el (h.blk) takesW0 h6).pe) (set_ok hI.2) (fun i hi => ?_)
      · rw [h1] at main
        exact .plain main (fun _ => rfl) (by simp)
      · split at h7
        · unfold rdIf
          rw [if_pos h7]
          exact pts_nil
        · simp only [Bool.and_eq_true, Bool.not_eq_true'] at h7
          unfold rdIf
          rw [if_neg (by rw [h7.1]; simp)]
          exact pts_one (chkE_ok c (h.blk) takesW0 h7.2).pt
        · cases h7
      · rw [h1]
        exact List.contains_iff_mem.mp (List.all_eq_true.mp h5 i hi)
    · cases hc
  | .lc2 .., X, T, Γ, Ev, W, e, h, tk, hc => by unfold chkE at hc; cases hc
  | .isi a ts, X, T, Γ, Ev, W, e, h, tk, hc => by
    unfold chkE at hc
    split at hc
    · simp only [Bool.and_eq_true, decide_eq_true_eq, Bool.not_eq_true'] at hc
      obtain ⟨⟨⟨⟨rfl, h1⟩, h2⟩, h3⟩, h4⟩ := hc
      obtain ⟨g, m⟩ := h.blt h1
      split at h4
      · simp only [Bool.and_eq_true, decide_eq_true_eq] at h4
        obtain ⟨⟨rfl, h5⟩, h6⟩ := h4
        obtain ⟨q, hq, e⟩ := List.any_eq_true.mp h5
        obtain ⟨n', s⟩ := q
        have e := eq_of_beq e
        subst e
        obtain ⟨g2, m2⟩ := h.blt h6
        exact .plain (rd_isi1 hq g2 m2 g m (chkE_ok a h tk h2).pe (star_cons h3)) (fun _ => rfl) (by simp)
      · cases h4
    · simp only [Bool.and_eq_true, decide_eq_true_eq, Bool.not_eq_true'] at hc
      obtain ⟨⟨⟨⟨⟨rfl, h1⟩, h2⟩, h3⟩, h4⟩, h5⟩ := hc
      obtain ⟨g, m⟩ := h.blt h1
      obtain ⟨ss, hs, hl⟩ := tys_ok h h4
      exact .plain (rd_isiT hs (by omega) g m (chkE_ok a h tk h2).pe (star_cons h3)) (fun _ => rfl) (by simp)
    · cases hc
  | .sp k es, X, T, Γ, Ev, W, e, h, tk, hc => by
    unfold chkE at hc
    split at hc
    · simp only [Bool.and_eq_true, Bool.not_eq_true'] at hc
      obtain ⟨⟨⟨h1, h2⟩, h3⟩, h4⟩ := hc
      obtain ⟨g, m⟩ := h.blt h1
      obtain ⟨g2, m2⟩ := h.blt h2
      split at h4
      · rename_i a
        simp only [Bool.and_eq_true, Bool.or_eq_true, decide_eq_true_eq] at h4
        obtain ⟨h5, h6⟩ := h4
        rcases h6 with ⟨⟨rfl, rfl⟩, rfl⟩ | ⟨⟨rfl, rfl⟩, rfl⟩
        · exact .plain (rd_tupRev h.calm g m g2 m2 (chkE_ok a h tk h5).pe (star_cons h3)) (fun _ => rfl) (by simp)
        · exact .plain (rd_listRg1 h.calm g m g2 m2 (chkE_ok a h tk h5).pe (star_cons h3)) (fun _ => rfl) (by simp)
      · cases h4
    · simp only [Bool.and_eq_true, Bool.not_eq_true'] at hc
      obtain ⟨⟨⟨⟨h1, h2⟩, h3⟩, h3'⟩, h4⟩ := hc
      obtain ⟨g, m⟩ := h.blt h1
      obtain ⟨g2, m2⟩ := h.blt h2
      split at h4
      · rename_i a b
        simp only [Bool.and_eq_true, decide_eq_true_eq] at h4
        obtain ⟨⟨⟨⟨h5, h6⟩, rfl⟩, rfl⟩, rfl⟩ := h4
        exact .plain (rd_listRg2 h.calm g m g2 m2 (chkE_ok a h tk h5).pe (chkE_ok b h tk h6).pe (star_cons h3) (star_cons h3') (by rw [star_cons h3']; rfl)) (fun _ => rfl) (by simp)
      · cases h4
    · cases hc
  | .bad, X, T, Γ, Ev, W, e, h, tk, hc => by unfold chkE at hc; cases hc
theorem chkEs_ok : ∀ (es : CEs) {X : Cx} {T : Tx} {Γ : Sm} {Ev : EvT} {W : WX} {xs : List Expr}, XOk X T Γ Ev → Takes X W → chkEs T es xs = true → noStars xs = true → PA X xs (rdA W Ev Γ X.K es)
  | .nil, X, T, Γ, Ev, W, xs, h, tk, hc, ns => by
    unfold chkEs at hc
    split at hc
    · exact rd_nil
    · cases hc
  | .cons a r, X, T, Γ, Ev, W, xs, h, tk, hc, ns => by
    unfold chkEs at hc
    split at hc
    · rw [Bool.and_eq_true] at hc
      obtain ⟨n1, n2⟩ := noStars_cons ns
      exact rd_cons (chkE_ok a h tk hc.1).pe (chkEs_ok r h tk hc.2 n2) (star_cons n1)
    · cases hc
theorem chkO_ok : ∀ (c : CE) {X : Cx} {T : Tx} {Γ : Sm} {Ev : EvT} {W : WX} {o : Option Expr}, XOk X T Γ Ev → Takes X W → chkO T c o = true → PO X o (rdO1 W Ev Γ X.K c)
  | c, X, T, Γ, Ev, W, none, h, tk, hc => by
    unfold chkO at hc
    exact rd_part0 hc
  | c, X, T, Γ, Ev, W, some e, h, tk, hc => by
    unfold chkO at hc
    simp only [Bool.and_eq_true, Bool.not_eq_true'] at hc
    exact rd_part1 hc.1 (chkE_ok c h tk hc.2).pe
theorem chkI_ok : ∀ (it : CI) {X : Cx} {T : Tx} {Γ : Sm} {Ev : EvT} {W : WX} {tg e : Expr}, XOk X T Γ Ev → Takes X W → chkI T it e = true → PI X tg e (rdI W Ev Γ X.K it) ∧ isSet e = false
  | .seq c, X, T, Γ, Ev, W, tg, e, h, tk, hc => by
    unfold chkI at hc
    simp only [Bool.and_eq_true, Bool.not_eq_true'] at hc
    exact ⟨rdI_seq (chkE_ok c h tk hc.1).pe, hc.2⟩
  | .rng a, X, T, Γ, Ev, W, tg, e, h, tk, hc => by
    unfold chkI at hc
    split at hc
    · simp only [Bool.and_eq_true, decide_eq_true_eq, Bool.not_eq_true'] at hc
      obtain ⟨⟨⟨rfl, h1⟩, h2⟩, h3⟩ := hc
      obtain ⟨g, m⟩ := h.blt h1
      exact ⟨rdI_rng1 g m (chkE_ok a h tk h2).pe (star_cons h3), rfl⟩
    · cases hc
  | .rng2 a b, X, T, Γ, Ev, W, tg, e, h, tk, hc => by
    unfold chkI at hc
    split at hc
    · simp only [Bool.and_eq_true, decide_eq_true_eq, Bool.not_eq_true'] at hc
      obtain ⟨⟨⟨⟨⟨rfl, h1⟩, h2⟩, h3⟩, h4⟩, h5⟩ := hc
      obtain ⟨g, m⟩ := h.blt h1
      exact ⟨rdI_rng2 g m (chkE_ok a h tk h2).pe (chkE_ok b h tk h3).pe (by rw [star_cons h4, star_cons h5]; rfl) (star_cons h5), rfl⟩
    · cases hc
  | .enm _, X, T, Γ, Ev, W, tg, e, h, tk, hc => by unfold chkI at hc; cases hc
  | .zip _ _, X, T, Γ, Ev, W, tg, e, h, tk, hc => by unfold chkI at hc; cases hc
  | .rvd _, X, T, Γ, Ev, W, tg, e, h, tk, hc => by unfold chkI at hc; cases hc
theorem chkP_ok : ∀ (c : CE) {X : Cx} {T : Tx} {Γ : Sm} {Ev : EvT} {W : WX} {e : Expr}, XOk X T Γ Ev → Takes X W → chkP T c e = true → PE X e (rdP W Ev Γ X.K c)
  | .var i, X, T, Γ, Ev, W, e, h, tk, hc => by
    unfold chkP at hc
    split at hc
    · exact rdP_var (h.vis hc)
    · cases hc
  | .sub a c, X, T, Γ, Ev, W, e, h, tk, hc => by
    unfold chkP at hc
    split at hc
    · simp only [Bool.and_eq_true, Bool.not_eq_true'] at hc
      exact rdP_sub (chkP_ok a h tk hc.1.1) (chkE_ok c h tk hc.1.2).pe (slice_ok hc.2)
    · cases hc
  | .mv _, _, _, _, _, _, _, _, _, hc => by unfold chkP at hc; cases hc
  | .fz _ _, _, _, _, _, _, _, _, _, hc => by unfold chkP at hc; cases hc
  | .int _, _, _, _, _, _, _, _, _, hc => by unfold chkP at hc; cases hc
  | .str _, _, _, _, _, _, _, _, _, hc => by unfold chkP at hc; cases hc
  | .bl _, _, _, _, _, _, _, _, _, hc => by unfold chkP at hc; cases hc
  | .non, _, _, _, _, _, _, _, _, hc => by unfold chkP at hc; cases hc
  | .cst _, _, _, _, _, _, _, _, _, hc => by unfold chkP at hc; cases hc
  | .bin _ _ _, _, _, _, _, _, _, _, _, hc => by unfold chkP at hc; cases hc
  | .neg _, _, _, _, _, _, _, _, _, hc => by unfold chkP at hc; cases hc
  | .cmp _ _ _, _, _, _, _, _, _, _, _, hc => by unfold chkP at hc; cases hc
  | .chn _ _ _ _ _, _, _, _, _, _, _, _, _, hc => by unfold chkP at hc; cases hc
  | .and _ _, _, _, _, _, _, _, _, _, hc => by unfold chkP at hc; cases hc
  | .or _ _, _, _, _, _, _, _, _, _, hc => by unfold chkP at hc; cases hc
  | .not _, _, _, _, _, _, _, _, _, hc => by unfold chkP at hc; cases hc
  | .ite _ _ _, _, _, _, _, _, _, _, _, hc => by unfold chkP at hc; cases hc
  | .tup _, _, _, _, _, _, _, _, _, hc => by unfold chkP at hc; cases hc
  | .lst _, _, _, _, _, _, _, _, _, hc => by unfold chkP at hc; cases hc
  | .slc _ _ _, _, _, _, _, _, _, _, _, hc => by unfold chkP at hc; cases hc
  | .rev _, _, _, _, _, _, _, _, _, hc => by unfold chkP at hc; cases hc
  | .nop, _, _, _, _, _, _, _, _, hc => by unfold chkP at hc; cases hc
  | .bi _ _, _, _, _, _, _, _, _, _, hc => by unfold chkP at hc; cases hc
  | .fn _ _, _, _, _, _, _, _, _, _, hc => by unfold chkP at hc; cases hc
  | .met _ _ _, _, _, _, _, _, _, _, _, hc => by unfold chkP at hc; cases hc
  | .mut _ _ _, _, _, _, _, _, _, _, _, hc => by unfold chkP at hc; cases hc
  | .lc .., _, _, _, _, _, _, _, _, hc => by unfold chkP at hc; cases hc
  | .lc2 .., _, _, _, _, _, _, _, _, hc => by unfold chkP at hc; cases hc
  | .isi _ _, _, _, _, _, _, _, _, _, hc => by unfold chkP at hc; cases hc
  | .sp _ _, _, _, _, _, _, _, _, _, hc => by unfold chkP at hc; cases hc
  | .bad, _, _, _, _, _, _, _, _, hc => by unfold chkP at hc; cases hc
end
end VI
set_option autoImplicit true
set_option Elab.async false
set_option linter.all false
set_option maxRecDepth 100000
set_option maxHeartbeats 8000000
namespace VI
open PySem PySem.Spec PyProof.Rows L2
abbrev SuT := Addr → Value → Option Addr → TS
def endAs (i : Nat) (D : Ends) : Ends := { nx := fun σ' H' => D.nx (σ'.set i none) H', rt := D.rt, bk := fun σ' H' => D.bk (σ'.set i none) H', ct := fun σ' H' => D.ct (σ'.set i none) H' }
def wManyAs (K : PySem.W.Frag) (Wout : WX) (D : Ends) : List (Value × Nat × SuT) → WX
  | [] => Wout
  | (c, i, ts) :: r => fun cls d σ H => ∃ b, PySem.W.exmOne K cls c = some b ∧ (b = true → ∀ a, H a = none → ts a cls d (endAs i D) (σ.set i (some (.ref a))) H) ∧ (b = false → wManyAs K Wout D r cls d σ H)
inductive HdsAs (X : Cx) : List ExceptHandler → List (Value × Nat × SuT) → Prop
  | nil : HdsAs X [] []
  | cons {x n : Str} {c : Value} {i : Nat} {ts : SuT} {b₀ : Stmt} {suite : List Stmt} {np pos' : Pos} {hds : List ExceptHandler} {l : List (Value × Nat × SuT)} (hc : Names X x c) (hi : X.N[i]? = some n) (hln : X.env.kindOf n = some .local)
      (hsu : ∀ (a : Addr) (oe : Obj) (cls : Value) (d : Option Addr) (pn : List (Addr × Obj)), Zc cls d oe → (∃ vs, oe.data = .fields vs) → PSs (X.suite a ((a, oe) :: pn)) (b₀ :: suite) (ts a cls d)) (r : HdsAs X hds l) :
      HdsAs X (.ExceptHandler (some (.Name x np)) (some n) (b₀ :: suite) pos' :: hds) ((c, i, ts) :: l)
section
variable {X : Cx} {body : List Stmt} {h₀ : ExceptHandler} {hds : List ExceptHandler} {l : List (Value × Nat × SuT)} {pos : Pos} {tb : WX → TS} {Wout : WX}
theorem ps_try_manyAs (hs : X.stack = X.env :: X.outer) (hf : X.env.frame = some X.env.locals) (hN : X.N.Nodup) (tk : Takes X Wout)
    (hb : ∀ (W : WX) (pn : List (Addr × Obj)) (xe : Value → Shared → Prop), Takes (X.tr pn xe) W → PassesOwn (model X.prog X.w) X.A X.env xe → PSs (X.tr pn xe) body (tb W))
    (hh : HdsAs X (h₀ :: hds) l) : PS X (.Try body (h₀ :: hds) [] [] pos) (fun D σ H => tb (wManyAs X.K Wout D l) D σ H) := by
  refine ⟨fun pins s σ H D I h => ?_⟩
  have ok := I.ok
  have hfr : X.A.frames = some (X.env :: X.outer) := by rw [ok.frames, hs]
  refine wpAny_Try_except ?_
  refine wpAny_mono ((hb (wManyAs X.K Wout D l) (X.pn ++ pins) (fun e s₁ => wpAny (model X.prog X.w) X.A (noteFrame e X.env) (fun _ s₂ => wpAny (model X.prog X.w) X.A (setFlight e none) (fun _ s₃ =>
    wpAny (model X.prog X.w) X.A (handleBy e X.env (h₀ :: hds)) (SP X pins D) X.xe s₃) X.xe s₂) X.xe s₁) (fun u s' xx => ?_) PassesOwn.looking).run [] s σ H D (I.toTry _) h) (fun f s1 hsp => ?_) (fun e s1 he => he)
  · -- the catch
    obtain ⟨a, B, sI, pins', σ', H', cls, d, rfl, J', nb, up, sky, na, os, ag, w⟩ := xx
    have J : Inv X pins σ' H' sI := J'.ofTry ok
    have sky' : Sky B (X.env :: X.outer) a (Zc cls d) X.env.locals s'.heap := by rw [← hs]; exact sky
    show wpAny (model X.prog X.w) X.A (noteFrame (.ref a) X.env) _ _ _
    refine Sky.land Zc.steady hfr hf sky' fun h3 fl3 up3 => ?_
    have J3 : Inv X pins σ' H' { s' with heap := h3 } := J.landed nb fl3.1 (up.trans up3) os ag
    obtain ⟨oe3, vs3, he3, hz3, hd3⟩ := fl3.there
    have notFr : ∀ {h : Heap} {o : Obj} {vs : Array Value}, h.FunFrames B (X.env :: X.outer) → h.get? a = some o → o.data = .fields vs → a ∉ frs (X.env :: X.outer) := fun {h o vs} ff e dd hm => by
      obtain ⟨_, o', e', hnf⟩ := ff.mem hm
      rw [e] at e'; cases e'
      exact hnf _ dd
    have nfr := notFr fl3.2.2.1 he3 hd3
    have nL : a ≠ X.env.locals := fun z => nfr (List.mem_filterMap.mpr ⟨X.env, List.mem_cons_self, by rw [hf, z]⟩)
    have nF : a ∉ X.fs := fun hm => by
      obtain ⟨e, he, q⟩ := List.mem_filterMap.mp hm
      exact nfr (List.mem_filterMap.mpr ⟨e, List.mem_cons_of_mem _ he, q⟩)
    have S3 := J3.suite he3 hd3 na nL nF
    have go : ∀ {hds' : List ExceptHandler} {l' : List (Value × Nat × SuT)}, HdsAs X hds' l' → wManyAs X.K Wout D l' cls d σ' H' →
        wpAny (model X.prog X.w) X.A (handleBy (.ref a) X.env hds') (SP X pins D) X.xe { s' with heap := h3 } := by
      intro hds' l' hk
      induction hk with
      | nil =>
        intro w
        refine wpAny_handleBy_nil ?_
        obtain ⟨k1, k2, k3, oe, vs, T, oT, ts', he, hz, hd, h1, hr⟩ := id fl3
        unfold PySem.passOn
        refine wpAny_bind (wpAny_field he hd h1 ?_)
        rw [if_neg (show ¬ ((Value.ref T == Value.none) = true) from by simp)]
        have fin : wpAny (model X.prog X.w) X.A (setFlight (.ref a) X.env.frame) (fun _ s4 => wpAny (model X.prog X.w) X.A (throw (.ref a) : Sem Flow) (SP X pins D) X.xe s4) X.xe { s' with heap := h3 } := by
          rw [hf]
          refine HandSPX.setFlight_upZ fl3 fun h4 hh4 up4 => wpAny_throw (tk _ _ ?_)
          exact ⟨a, B, sI, pins, σ', H', cls, d, rfl, J, nb, (up.trans up3).trans up4, .inr (.inr (by rw [hs]; exact hh4)), na, os, ag, w⟩
        first
          | exact wpAny_bind (wpAny_pure (wpAny_bind fin))
          | exact wpAny_bind fin
      | @cons x n c i ts b₀ suite np pos' hds2 l2 hc hi hln hsu r ih =>
        intro w
        obtain ⟨b, hb1, hyes, hno⟩ := w
        have hloc : Loc X.env.scope n := .inl hln
        refine wpAny_handleBy_cons (codeAny_handlers_test ?_) (by intro q; cases q)
        have LT : PySem.W.Looks (model X.prog X.w) h3 (typeOf (.ref a)) cls := fun A Q E s k q => wpAny_typeOf_ref (k _ _ he3) (by rw [hz3.1]; exact q)
        have LM := PySem.W.exm_one (M := model X.prog X.w) (J3.kIn) LT hb1
        have test : ∀ {Q : Value → Shared → Prop} {E : Value → Shared → Prop}, Q c { s' with heap := h3 } → wpAny (model X.prog X.w) (X.A.mark (some (.ref a))) (eval (.Name x np) X.env) Q E { s' with heap := h3 } := fun {Q E} q => by
          obtain ⟨hg, hdbg, hm | ⟨hm, hv, hnn⟩⟩ := hc
          · exact ld_glob (X := X.suite a ((a, oe3) :: (X.pn ++ pins))) S3 hg hm q hdbg
          · exact ld_blt (X := X.suite a ((a, oe3) :: (X.pn ++ pins))) S3 hg hm hv q hnn hdbg
        refine test (LM.here ?_)
        cases b with
        | true =>
          refine codeAny_handlers_suite_as ?_
          refine HandSPX.lands_againZ fl3 fun h4 fl4 up4 => ?_
          have J4 : Inv X pins σ' H' { s' with heap := h4 } := J.landed nb fl4.1 ((up.trans up3).trans up4) os ag
          obtain ⟨oe4, vs4, he4, hz4, hd4⟩ := fl4.there
          have S4 := J4.suite he4 hd4 na nL nF
          refine store_ok (X := X.suite a ((a, oe4) :: (X.pn ++ pins))) (v := .ref a) S4 hN hi hloc rfl (fun s5 S5 => ?_) (.inr hln)
          refine wpAny_mono ((hsu a oe4 cls d (X.pn ++ pins) hz4 ⟨_, hd4⟩).run [] s5 _ H' _ S5 (hyes rfl a na)) (fun f s6 hsp => ?_) (fun _ _ z => False.elim z)
          have end_ : ∀ {σ6 : L2.St} {H6 : Hp} {Q : Shared → Prop}, Inv (X.suite a ((a, oe4) :: (X.pn ++ pins))) [] σ6 H6 s6 → (∀ s7, Inv X pins (σ6.set i none) H6 s7 → Q s7) →
              wpAny (model X.prog X.w) X.A (do bindName X.env n .none; unbindBehindTheSuite X.env n pos') (fun _ s7 => Q s7) X.xe s6 := fun {σ6 H6 Q} S6 hq => gone_ok (S6.unsuite ok) hN hi hln hq
          cases f with
          | next =>
            obtain ⟨σ6, H6, S6, q6⟩ := hsp
            exact end_ S6 fun s7 J7 => ⟨_, _, J7, q6⟩
          | brk =>
            obtain ⟨σ6, H6, S6, q6⟩ := hsp
            exact end_ S6 fun s7 J7 => ⟨_, _, J7, q6⟩
          | cont =>
            obtain ⟨σ6, H6, S6, q6⟩ := hsp
            exact end_ S6 fun s7 J7 => ⟨_, _, J7, q6⟩
          | ret u =>
            obtain ⟨v6, σ6, H6, S6, r6, q6⟩ := hsp
            exact end_ S6 fun s7 J7 => ⟨_, _, _, J7, r6, q6⟩
        | false =>
          show wpAny _ X.A (handleBy (.ref a) X.env hds2) _ _ _
          exact ih (hno rfl)
    exact go hh w
  · cases f with
    | next =>
      obtain ⟨σ', H', J', q⟩ := hsp
      exact wpAny_execs_nil ⟨σ', H', J'.ofTry ok, q⟩
    | brk =>
      obtain ⟨σ', H', J', q⟩ := hsp
      exact ⟨σ', H', J'.ofTry ok, q⟩
    | cont =>
      obtain ⟨σ', H', J', q⟩ := hsp
      exact ⟨σ', H', J'.ofTry ok, q⟩
    | ret u =>
      obtain ⟨v, σ', H', J', r, q⟩ := hsp
      exact ⟨v, σ', H', J'.ofTry ok, r, q⟩
end
end VI
set_option autoImplicit true
set_option Elab.async false
set_option linter.all false
set_option maxRecDepth 100000
set_option maxHeartbeats 8000000
namespace VI
open PySem PySem.Spec PySem.Calls PyProof.Rows L2
section
variable {prog : Program} {w : World} {A : Around} {E : Value → Shared → Prop} {s : Shared} {K : PySem.W.Frag} {x D : Addr} {ox : Obj} {od : Option Obj}
theorem find_data {C : Addr} {name : Str} {a g : Value} (hc : (PySem.W.clsIn K C).isSome = true) (ha : PySem.W.findIn K (.ref C) name = some (some a)) (hg : PySem.W.specialIn K a "__get__" = some (some g)) (ht : PySem.W.takesIn K a = some true) : PySem.W.findObj K C od name = some (.bind g a) := by
  obtain ⟨cd, hc⟩ := Option.isSome_iff_exists.mp hc
  unfold PySem.W.findObj
  rw [hc, Option.bind_some, ha, Option.bind_some]
  simp [hg, ht]
theorem class_of_exc {Q : Option Value → Shared → Prop} (T : ExcC K D) (X : K.In s.heap) (I : PySem.W.InstAt s.heap x ox D od) (h : Q (some (.ref D)) { s with toks := s.toks + 1 }) : wpAny (model prog w) A (getAttr? (.ref x) "__class__") Q E s := by
  have hf : PySem.W.findObj K D od "__class__" = some (.bind (.builtin "getset_descriptor.__get__") (.builtin "object.__class__")) := find_data (by obtain ⟨cd, hc, _⟩ := PySem.W.any_some T.hd; rw [hc]; rfl) T.ha T.hn T.ht
  obtain ⟨hp, g, d, t, os⟩ := s
  have L0 := I.type (M := model prog w)
  have L1 := PySem.W.looks_findIn (M := model prog w) X T.hg
  have L2 := PySem.W.looks_findIn (M := model prog w) X T.hk
  have L3 := PySem.W.looks_find (M := model prog w) X I hf
  have sub : PySem.W.Looks (model prog w) hp (isInstance (.ref x) (.type "BaseException")) true := L0.andThen (PySem.W.looks_subIn X T.hs)
  have hx2 : (Value.builtin "BaseException.__getattribute__" == Value.builtin "object.__getattribute__") = false := by decide +kernel
  have hx1 : (onTheHeap (Value.ref D) && Value.builtin "BaseException.__getattribute__" == Value.builtin "object.__getattribute__") = false := by rw [hx2]; rfl
  unfold getAttr? getAttrBy? getAttrBy
  refine wpAny_bind (wpAny_mkText (wpAny_bind (wpAny_attempt (wpAny_holding (wpAny_bind (L0.at (wpAny_bind (L1.at ?_))))))))
  show wpAny _ _ (if (onTheHeap (Value.ref D) && Value.builtin "BaseException.__getattribute__" == Value.builtin "object.__getattribute__") = true then _ else _) _ _ _
  rw [hx1, if_neg Bool.false_ne_true]
  unfold getAttrByItsOwn hookBefore
  refine wpAny_bind ?_
  rw [if_pos (show onTheHeap (Value.ref D) = true from rfl)]
  refine L2.at ?_
  refine wpAny_bind (wpAny_attempt (wpAny_holding ?_))
  unfold callGetattribute
  rw [show (false && onTheHeap (Value.builtin "BaseException.__getattribute__")) = false from rfl, if_neg Bool.false_ne_true]
  unfold boundAndCalled
  rw [PySem.F.excAttr_ValueError.ga.bind (.ref x)]
  refine wpAny_bind (wpAny_pure ?_)
  show wpAny _ _ (call (.builtin "BaseException.__getattribute__") [.ref x, .str "__class__" t]) _ _ _
  refine wpAny_call (codeAny_call_builtin PySem.F.excAttr_ValueError.ga.plain PySem.F.entry_bexc_ga ?_)
  refine @PySem.W.check_slot (model prog w) _ _ ⟨hp, g, d, t + 1, os⟩ "BaseException.__getattribute__" "BaseException" "__getattribute__" (.ref x) [.str "__class__" t] [] _ (by decide +kernel) (by decide +kernel) sub (PySem.F.args_bexc_ga (.ref x) (.str "__class__" t)) ?_
  unfold Builtin.«object.__getattribute__»
  refine wpAny_bind (wpAny_of_eq (a := ((Value.ref x : Value), [Value.str "__class__" t])) (by first | rfl | (simp only [slotArgs]; rfl)) ?_)
  refine wpAny_bind (wpAny_pure (wpAny_bind (L0.at (wpAny_bind (L3.at ?_)))))
  show wpAny _ _ (holding [Value.builtin "object.__class__"] (call (.builtin "getset_descriptor.__get__") [.builtin "object.__class__", .ref x, .ref D]) >>= ret) _ _ _
  refine wpAny_bind (wpAny_holding (wpAny_call (PySem.W.class_get (s := ⟨hp, g, d, t + 1, os⟩) (ox := ox) (od := od) X I T.hm ?_)))
  refine wpAny_pure ?_
  show wpAny _ _ (handedOut (.ref D)) _ _ _
  rw [PySem.W.handedOut_of (v := .ref D) rfl]
  first
    | exact wpAny_pure (wpAny_pure h)
    | exact wpAny_pure h
    | exact wpAny_pure (wpAny_bind (wpAny_pure (wpAny_pure h)))
theorem kit_exc (T : ExcC K D) : PySem.W.KitX K (.ref x) (.ref D) (fun h => ∃ od, PySem.W.InstAt h x ox D od) where
  ty := fun _ _ _ ⟨_, I⟩ => I.type
  it := fun _ _ X _ => by
    obtain ⟨cdD, hcD, _⟩ := PySem.W.any_some T.hd
    unfold PySem.W.clsIn at hcD
    split at hcD
    · rename_i c' d' cd' sl' ho
      intro A' Q' E' s' k q
      unfold isType loadHead
      exact wpAny_bind (wpAny_loadPart (k _ _ (X _ _ ho)) (wpAny_pure q))
    · cases hcD
  ne := fun h tp dd its n sl X htp => by
    obtain ⟨cdD, hcD, _⟩ := PySem.W.any_some T.hd
    refine Bool.eq_false_iff.mpr fun q => ?_
    have e : D = tp := Value.ref.inj (beq_iff_eq.mp q)
    subst e
    unfold PySem.W.clsIn at hcD
    split at hcD
    · rename_i c' d' cd' sl' ho
      have z := (X _ _ ho).symm.trans htp
      cases z
    · cases hcD
  ca := fun X ⟨_, I⟩ k => class_of_exc T X I k
end
theorem exc_inst {X : Cx} {a D dx : Addr} {oe : Obj} {pn pins : List (Addr × Obj)} {σ : L2.St} {H : Hp} {s : Shared} {fs : List (Str × V)} {d : Option Addr} (hz : Zc (.ref D) d oe) (hf : ∃ vs, oe.data = .fields vs) (I : Inv (X.suite a ((a, oe) :: pn)) pins σ H s)
    (hd : d = none ∨ ∃ dx fs, d = some dx ∧ H dx = some (.xd fs)) : ∃ od, PySem.W.InstAt s.heap a oe D od := by
  obtain ⟨hget, _⟩ := I.pin (a, oe) (List.mem_append.mpr (.inl List.mem_cons_self))
  obtain ⟨vs, hv⟩ := hf
  rcases hd with rfl | ⟨dx, fs, rfl, hx⟩
  · exact ⟨none, hget, hz.1, by unfold PySem.W.notCls; rw [hv] <;> rfl, by rw [hz.2]; trivial⟩
  · have hx' : ObjOk X.prog X.w H s.heap dx (.xd fs) := I.hok dx _ hx
    obtain ⟨mA, hns, hr⟩ := hx'
    obtain ⟨od, ho, hl⟩ := lookIn_ns hns
    exact ⟨some od, hget, hz.1, by unfold PySem.W.notCls; rw [hv] <;> rfl, by rw [hz.2]; exact ho⟩
def rIsX (D a : Addr) (d : Option Addr) (K : PySem.W.Frag) : List V → Hp → VK → Prop := fun xs H Q => ∃ (C : Addr) (b : Bool), xs = [.ref a, .ref C] ∧ (d = none ∨ ∃ dx fs, d = some dx ∧ H dx = some (.xd fs)) ∧ PySem.W.kitOne K (.ref D) (.ref C) = some b ∧ Q (.bl b) H
theorem call_isX {X : Cx} {a D : Addr} {oe : Obj} {pn : List (Addr × Obj)} {d : Option Addr} (T : ExcC X.K D) (hz : Zc (.ref D) d oe) (hf : ∃ vs, oe.data = .fields vs) : CallR (X.suite a ((a, oe) :: pn)) (.builtin "isinstance") (rIsX D a d X.K) := by
  intro pins s σ H xs us Q I r h
  obtain ⟨C, b, rfl, hd, e, q⟩ := h
  obtain ⟨u1, u2, rfl, r1, r2⟩ := vals2 r
  cases r1
  cases r2
  have J := exc_inst (dx := 0) (fs := []) hz hf I hd
  exact PySem.W.kia_one (kit_exc T) I.kIn J e (fun z => nomatch z) fun tk => ⟨.bl b, H, I.kept (t' := tk) fun _ _ z => z, rfl, q⟩
def rIsXT (D a : Addr) (d : Option Addr) (K : PySem.W.Frag) : List V → Hp → VK → Prop := fun xs H Q => ∃ (tp : Addr) (Cs : List Addr) (b : Bool), xs = [.ref a, .ref tp] ∧ H tp = some (.tup (Cs.map V.ref)) ∧ (d = none ∨ ∃ dx fs, d = some dx ∧ H dx = some (.xd fs)) ∧ PySem.W.kitAny K (.ref D) (Cs.map Value.ref) = some b ∧ Q (.bl b) H
theorem vals_refs : ∀ {Cs : List Addr} {us : List Value}, Vals (Cs.map V.ref) us → us = Cs.map Value.ref
  | [], _, .nil => rfl
  | C :: Cs, _, .cons r t => by
    cases r
    rw [vals_refs t]; rfl
theorem call_isXT {X : Cx} {a D : Addr} {oe : Obj} {pn : List (Addr × Obj)} {d : Option Addr} (T : ExcC X.K D) (hz : Zc (.ref D) d oe) (hf : ∃ vs, oe.data = .fields vs) : CallR (X.suite a ((a, oe) :: pn)) (.builtin "isinstance") (rIsXT D a d X.K) := by
  intro pins s σ H xs us Q I r h
  obtain ⟨tp, Cs, b, rfl, hT, hd, e, q⟩ := h
  obtain ⟨u1, u2, rfl, r1, r2⟩ := vals2 r
  cases r1
  cases r2
  have J := exc_inst (dx := 0) (fs := []) hz hf I hd
  obtain ⟨_, its, rv, o, h1, h2, n, h3⟩ := (show ObjOk X.prog X.w H s.heap tp (.tup (Cs.map V.ref)) from I.hok tp _ hT)
  have e3 := vals_refs rv
  subst e3
  obtain ⟨oc, od, dt, sl⟩ := o
  simp only at h2 h3
  subst h2 h3
  exact PySem.W.kia_tup (kit_exc T) I.kIn J h1 e (fun z => nomatch z) fun tk => ⟨.bl b, H, I.kept (t' := tk) fun _ _ z => z, rfl, q⟩
end VI
set_option autoImplicit true
set_option Elab.async false
set_option linter.all false
set_option maxRecDepth 100000
set_option maxHeartbeats 8000000
namespace VI
open PySem PySem.Spec PyProof.Rows L2
def EvX (M : Str → Option Addr) : EvT := fun c xs cv dd H => ∃ C vs, M c = some C ∧ cv = .ref C ∧ xs.map scD = vs.map some ∧ vs.length = (fieldsOf c).length ∧ ((fieldsOf c = [] ∧ dd = none) ∨ ∃ dx fs, dd = some dx ∧ H dx = some (.xd fs) ∧ ∀ f v, ((fieldsOf c).zip vs).lookup f = some v → fs.lookup f = some v)
structure ClsOk (K : PySem.W.Frag) (mg : Str → Option Value) (M : Str → Option Addr) (ex : List Str) : Prop where
  at_ : ∀ c ∈ ex, ∃ C, M c = some C ∧ mg c = some (.ref C) ∧ ExcC K C ∧ XfC K C ∧ ∀ f ∈ fieldsOf c, PySem.W.findIn K (.ref C) f = some none
  exm : ∀ c ∈ ex, ∀ t ∈ ex, ∀ C D, M c = some C → M t = some D → PySem.W.exmOne K (.ref C) (.ref D) = some (catches c [t])
  isi : ∀ c ∈ ex, ∀ t ∈ ex, ∀ C D, M c = some C → M t = some D → PySem.W.kitOne K (.ref C) (.ref D) = some (t == c || t == ("SwapError" : Str))
  ne : ∀ t ∈ ex, t ≠ ("ValueError" : Str)
  dom : ∀ c C, M c = some C → c ∈ ex
def chkXn (T : Tx) : List Str → List Expr → Bool
  | [], [] => true
  | t :: ts, .Name n _ :: es => decide (t = n) && T.gl n && T.ex.contains n && !(n == ("__debug__" : Str)) && chkXn T ts es
  | _, _ => false
def chkX (T : Tx) (n : Str) : XE → Expr → Bool
  | .int k, .Constant (.int m) _ _ => decide (k = m)
  | .str k, .Constant (.str m) _ _ => decide (k = m)
  | .bl k, .Constant (.bool m) _ _ => decide (k = m)
  | .non, .Constant .none _ _ => true
  | .attr f, .Attribute (.Name x _) g _ => decide (f = g) && decide (x = n)
  | .is1 t, .Call (.Name g _) [.Name x _, .Name y _] [] _ => decide (g = "isinstance") && T.blt g && decide (x = n) && decide (t = y) && T.gl y && T.ex.contains y && !(y == ("__debug__" : Str))
  | .isE ts, .Call (.Name g _) [.Name x _, .Tuple es _ _] [] _ => decide (g = "isinstance") && T.blt g && decide (x = n) && chkXn T ts es && decide (ts.length ≤ 100)
  | _, _ => false
def chkXs (T : Tx) (n : Str) : List XE → List Expr → Bool
  | [], [] => true
  | x :: xs, e :: es => chkX T n x e && !isStar e && chkXs T n xs es
  | _, _ => false
def chkHd (T : Tx) : List (Str × Nat × List XE) → List ExceptHandler → Bool
  | [], hs => hs.isEmpty
  | (t, i, xs) :: r, hs => match hs with
    | .ExceptHandler (some (.Name y _)) (some n) [.Return (some (.List es _)) _] _ :: hs => decide (t = y) && T.gl y && T.ex.contains y && !(y == ("__debug__" : Str)) && T.vis n i && decide (i ≠ 0) && (match T.names.lookup n with | some .local => true | _ => false) && chkXs T n xs es && chkHd T r hs
    | _ => false
section
variable {X : Cx} {T : Tx} {Γ : Sm} {W : WX} {M : Str → Option Addr} {K : PySem.W.Frag} {n : Str} {i : Nat} {a : Addr} {oe : Obj} {cls : Value} {d : Option Addr} {pn : List (Addr × Obj)} {c : Str} {C : Addr} {pos : Pos}
def InX (M : Str → Option Addr) (K : PySem.W.Frag) (a : Addr) (cls : Value) (d : Option Addr) (i : Nat) (c : Str) (ys : List D) (fr : Fr) (e : Env) (tm : List Tmp) (σ : L2.St) (H : Hp) : Prop := fr.K = K ∧ Rl fr σ H e tm ∧ σ[i]? = some (some (.ref a)) ∧ EvX M c ys cls d H
def rdXi (M : Str → Option Addr) (K : PySem.W.Frag) (a : Addr) (cls : Value) (d : Option Addr) (i : Nat) (c : Str) (x : XE) : TE := fun σ H Q => ∃ fr e tm ys, InX M K a cls d i c ys fr e tm σ H ∧ ∃ dv v, evX c ys x = some dv ∧ scD dv = some v ∧ ∀ H', InX M K a cls d i c ys fr e tm σ H' → Q v H'
def rdXl (M : Str → Option Addr) (K : PySem.W.Frag) (a : Addr) (cls : Value) (d : Option Addr) (i : Nat) (c : Str) (x : List XE) : TA := fun σ H Q => ∃ fr e tm ys, InX M K a cls d i c ys fr e tm σ H ∧ ∃ ds vs, evXs c ys x = some ds ∧ ds.map scD = vs.map some ∧ ∀ H', InX M K a cls d i c ys fr e tm σ H' → Q vs H'
theorem pa_xn (h : XOk X T Γ (EvX M)) (ok : ClsOk X.K X.mg M T.ex) : ∀ {ts : List Str} {es : List Expr}, chkXn T ts es = true → ∃ Cs : List Addr, PA (X.suite a pn) es (fun σ H Q => Q (Cs.map V.ref) H) ∧ Cs.length = ts.length ∧ ∀ c ∈ T.ex, ∀ C, M c = some C → PySem.W.kitAny X.K (.ref C) (Cs.map Value.ref) = some (ts.any fun t => t == c || t == ("SwapError" : Str) || t == ("ValueError" : Str))
  | [], [], _ => ⟨[], paI pa_nil fun σ H Q h => h, rfl, fun _ _ _ _ => kitAny_nil⟩
  | t :: ts, e :: es, hc => by
    unfold chkXn at hc
    split at hc
    · rename_i heq _; cases heq
    · rename_i t' ts' n p es' h1 h2
      cases h1; cases h2
      simp only [Bool.and_eq_true, decide_eq_true_eq, Bool.not_eq_true'] at hc
      obtain ⟨⟨⟨⟨rfl, g1⟩, g2⟩, g3⟩, g4⟩ := hc
      obtain ⟨Cs, h1, h2, h3⟩ := pa_xn h ok g4
      have hm := List.contains_iff_mem.mp g2
      obtain ⟨D, q1, q2, q3, q4, q5⟩ := ok.at_ t hm
      refine ⟨D :: Cs, paI (pa_cons (pe_glob (X := X.suite a pn) (v := .ref D) (h.gl g1) q2 rfl g3) h1 rfl) fun σ H Q z => z, by simp [h2], fun c hcx C hC => ?_⟩
      have e1 := ok.isi c hcx t hm C D hC q1
      have ne := ok.ne t hm
      have ne' : (t == ("ValueError" : Str)) = false := beq_eq_false_iff_ne.mpr ne
      rw [List.any_cons, ne', Bool.or_false]
      exact kitAny_cons e1 (fun hb => by rw [hb, Bool.false_or]; exact h3 c hcx C hC) (fun hb => by rw [hb]; rfl)
    · cases hc
  | [], _ :: _, hc => by simp [chkXn] at hc
  | _ :: _, [], hc => by simp [chkXn] at hc
theorem vis_suite (h : XOk X T Γ (EvX M)) (hv : T.vis n i = true) : PE (X.suite a pn) (.Name n pos) (tVar i) := by
  unfold Tx.vis at hv
  simp only [Bool.and_eq_true, decide_eq_true_eq, Bool.not_eq_true'] at hv
  obtain ⟨⟨⟨h1, h2⟩, h3⟩, h4⟩ := hv
  refine pe_var (X := X.suite a pn) (by show X.N[i]? = some n; rw [h.n]; exact h1) ?_ h3 h4
  show Vis X.env.scope n
  cases hl : T.names.lookup n with
  | none => rw [hl] at h2; cases h2
  | some k =>
    rw [hl] at h2
    have := h.names n k hl
    cases k with
    | «local» => exact .inl (this.elim id fun z => nomatch z.1)
    | cell => exact .inr (.inl (this.elim id fun z => nomatch z.1))
    | free => exact this.elim (fun z => .inr (.inr z)) fun z => .inr (.inl z.2)
    | _ => cases h2
theorem EvX.keep {xs : List D} {cv : Value} {dd : Option Addr} {H H' : Hp} (h : EvX M c xs cv dd H) (k : ∀ a o, H a = some o → H' a = some o) : EvX M c xs cv dd H' := by
  obtain ⟨C, vs, h1, h2, h3, h4, h5⟩ := h
  refine ⟨C, vs, h1, h2, h3, h4, ?_⟩
  rcases h5 with h5 | ⟨dx, fs, e1, e2, e3⟩
  · exact .inl h5
  · exact .inr ⟨dx, fs, e1, k _ _ e2, e3⟩
theorem EvX.dict {xs : List D} {cv : Value} {dd : Option Addr} {H : Hp} (h : EvX M c xs cv dd H) : dd = none ∨ ∃ dx fs, dd = some dx ∧ H dx = some (.xd fs) := by
  obtain ⟨C, vs, h1, h2, h3, h4, h5⟩ := h
  rcases h5 with h5 | ⟨dx, fs, e1, e2, e3⟩
  · exact .inl h5.2
  · exact .inr ⟨dx, fs, e1, e2⟩
theorem upd_keep {H : Hp} {p : Addr} {o : HO} (hp : H p = none) : ∀ a o', H a = some o' → upd H p o a = some o' := fun a o' e => by rw [upd_ne (ne_of_none e hp)]; exact e
theorem zip_look : ∀ {fs : List Str} {xs : List D} {vs : List V} {f : Str} {dv : D}, xs.map scD = vs.map some → (fs.zip xs).lookup f = some dv → ∃ v, scD dv = some v ∧ (fs.zip vs).lookup f = some v
  | [], _, _, _, _, _, h => by simp at h
  | _ :: _, [], _, _, _, _, h => by simp at h
  | g :: fs, x :: xs, [], f, dv, e, h => by simp at e
  | g :: fs, x :: xs, v :: vs, f, dv, e, h => by
    simp only [List.map_cons, List.cons.injEq] at e
    simp only [List.zip_cons_cons, List.lookup_cons] at h ⊢
    cases hg : f == g with
    | true => rw [hg] at h; simp at h; subst h; exact ⟨v, e.1, by simp⟩
    | false => rw [hg] at h; exact zip_look e.2 h
theorem pe_nothing {X : Cx} {e : Expr} : PE X e (fun _ _ _ => False) := ⟨fun _ _ _ _ _ _ h => h.elim⟩
theorem look_mem : ∀ {fs : List Str} {xs : List D} {f : Str} {dv : D}, (fs.zip xs).lookup f = some dv → f ∈ fs
  | [], _, _, _, h => by simp at h
  | _ :: _, [], _, _, h => by simp at h
  | g :: fs, x :: xs, f, dv, h => by
    simp only [List.zip_cons_cons, List.lookup_cons] at h
    cases hg : f == g with
    | true => rw [eq_of_beq hg]; exact List.mem_cons_self
    | false => rw [hg] at h; exact List.mem_cons_of_mem _ (look_mem h)
theorem chkX_ok (h : XOk X T Γ (EvX M)) (ok : ClsOk X.K X.mg M T.ex) (hv : T.vis n i = true) (hcx : c ∈ T.ex) (hC : M c = some C) (hz : Zc (.ref C) d oe) (hf : ∃ vs, oe.data = .fields vs) : ∀ {x : XE} {e : Expr}, chkX T n x e = true → PE (X.suite a ((a, oe) :: pn)) e (rdXi M X.K a (.ref C) d i c x) := by
  intro x e hc
  obtain ⟨C', q1, q2, q3, q4, q5⟩ := ok.at_ c hcx
  rw [hC] at q1; cases q1
  unfold chkX at hc
  split at hc
  · rw [decide_eq_true_eq] at hc; subst hc
    exact peI pe_int fun σ H Q ⟨fr, e, tm, ys, I, dv, v, h1, h2, q⟩ => by cases h1; cases h2; exact q H I
  · rw [decide_eq_true_eq] at hc; subst hc
    exact peI pe_str fun σ H Q ⟨fr, e, tm, ys, I, dv, v, h1, h2, q⟩ => by cases h1; cases h2; exact q H I
  · rw [decide_eq_true_eq] at hc; subst hc
    exact peI pe_bl fun σ H Q ⟨fr, e, tm, ys, I, dv, v, h1, h2, q⟩ => by cases h1; cases h2; exact q H I
  · exact peI pe_non fun σ H Q ⟨fr, e, tm, ys, I, dv, v, h1, h2, q⟩ => by cases h1; cases h2; exact q H I
  · rename_i f y p g p2
    simp only [Bool.and_eq_true, decide_eq_true_eq] at hc
    obtain ⟨rfl, rfl⟩ := hc
    by_cases hff : f ∈ fieldsOf c
    · refine peI (pe_xf (C := C) q4 (q5 f hff) hz hf (vis_suite h hv) rfl) fun σ H Q ⟨fr, e, tm, ys, I, dv, v, h1, h2, q⟩ => ?_
      obtain ⟨_, _, hσ, C2, vs, m1, m2, m3, m4, m5⟩ := id I
      refine ⟨.ref a, hσ, rfl, rfl, ?_⟩
      obtain ⟨v', w1, w2⟩ := zip_look m3 (show ((fieldsOf c).zip ys).lookup f = some dv from h1)
      rw [h2] at w1; cases w1
      rcases m5 with ⟨m5, _⟩ | ⟨dx, fs, e1, e2, e3⟩
      · rw [m5] at hff; simp at hff
      · exact ⟨dx, fs, v, e1, e2, e3 f v w2, q H I⟩
    · refine peI pe_nothing fun σ H Q ⟨fr, e, tm, ys, I, dv, v, h1, h2, q⟩ => hff ?_
      exact look_mem (show ((fieldsOf c).zip ys).lookup f = some dv from h1)
  · rename_i t g p y p2 z p3 p4
    simp only [Bool.and_eq_true, decide_eq_true_eq, Bool.not_eq_true'] at hc
    obtain ⟨⟨⟨⟨⟨⟨rfl, b1⟩, rfl⟩, rfl⟩, b2⟩, b3⟩, b4⟩ := hc
    obtain ⟨g, m⟩ := h.blt b1
    have hm := List.contains_iff_mem.mp b3
    obtain ⟨D, w1, w2, w3, w4, w5⟩ := ok.at_ t hm
    refine peI (pe_callB (X := X.suite a ((a, oe) :: pn)) (call_isX (d := d) q3 hz hf) g m (by decide +kernel) (pa_cons (vis_suite h hv) (pa_cons (pe_glob (X := X.suite a ((a, oe) :: pn)) (v := .ref D) (h.gl b2) w2 rfl b4) pa_nil rfl) rfl) (by decide) (by decide) rfl rfl) fun σ H Q ⟨fr, e, tm, ys, I, dv, v, h1, h2, q⟩ => ?_
    obtain ⟨i1, i2, i3, i4⟩ := id I
    refine ⟨.ref a, i3, D, _, rfl, i4.dict, ok.isi c hcx t hm C D hC w1, ?_⟩
    have h1 : some (VI.D.bl (t == c || t == ("SwapError" : Str) || t == ("ValueError" : Str))) = some dv := h1
    cases h1
    cases h2
    have ne' : (t == ("ValueError" : Str)) = false := beq_eq_false_iff_ne.mpr (ok.ne t hm)
    have := q H I
    rw [ne', Bool.or_false] at this
    exact this
  · rename_i ts g p y p2 es x1 p3 p4
    simp only [Bool.and_eq_true, decide_eq_true_eq] at hc
    obtain ⟨⟨⟨⟨rfl, b1⟩, rfl⟩, b2⟩, b3⟩ := hc
    obtain ⟨g, m⟩ := h.blt b1
    obtain ⟨Cs, w1, w2, w3⟩ := pa_xn (a := a) (pn := (a, oe) :: pn) h ok b2
    refine peI (pe_callB (X := X.suite a ((a, oe) :: pn)) (call_isXT (d := d) q3 hz hf) g m (by decide +kernel) (pa_cons (vis_suite h hv) (pa_cons (pe_tup w1) pa_nil rfl) rfl) (by decide) (by decide) rfl rfl) fun σ H Q ⟨fr, e, tm, ys, I, dv, v, h1, h2, q⟩ => ?_
    obtain ⟨i1, i2, i3, i4⟩ := id I
    refine ⟨.ref a, i3, by rw [List.length_map, w2, sizeLine_eq]; omega, fun tp htp => ?_⟩
    have k := upd_keep (o := HO.tup (Cs.map V.ref)) htp
    refine ⟨tp, Cs, _, rfl, upd_same, (i4.keep k).dict, w3 c hcx C hC, ?_⟩
    have h1 : some (VI.D.bl (ts.any fun t => t == c || t == ("SwapError" : Str) || t == ("ValueError" : Str))) = some dv := h1
    cases h1
    cases h2
    exact q _ ⟨i1, i2.laid htp, i3, i4.keep k⟩
  · cases hc
theorem chkXs_ok (h : XOk X T Γ (EvX M)) (ok : ClsOk X.K X.mg M T.ex) (hv : T.vis n i = true) (hcx : c ∈ T.ex) (hC : M c = some C) (hz : Zc (.ref C) d oe) (hf : ∃ vs, oe.data = .fields vs) : ∀ {xs : List XE} {es : List Expr}, chkXs T n xs es = true → PA (X.suite a ((a, oe) :: pn)) es (rdXl M X.K a (.ref C) d i c xs)
  | [], [], _ => paI pa_nil fun σ H Q ⟨fr, e, tm, ys, I, ds, vs, h1, h2, q⟩ => by
    cases h1
    cases vs with
    | nil => exact q H I
    | cons v vs => cases h2
  | x :: xs, e :: es, hc => by
    simp only [chkXs, Bool.and_eq_true, Bool.not_eq_true'] at hc
    obtain ⟨⟨c1, c2⟩, c3⟩ := hc
    refine paI (pa_cons (chkX_ok h ok hv hcx hC hz hf c1) (chkXs_ok h ok hv hcx hC hz hf c3) (star_cons c2)) fun σ H Q ⟨fr, e, tm, ys, I, ds, vs, h1, h2, q⟩ => ?_
    simp only [evXs] at h1
    cases e1 : evX c ys x with
    | none => rw [e1] at h1; cases h1
    | some dv =>
      cases e2 : evXs c ys xs with
      | none => rw [e1, e2] at h1; cases h1
      | some ds' =>
        rw [e1, e2] at h1
        cases h1
        cases vs with
        | nil => cases h2
        | cons v vs =>
          simp only [List.map_cons, List.cons.injEq] at h2
          exact ⟨fr, e, tm, ys, I, dv, v, e1, h2.1, fun H1 I1 => ⟨fr, e, tm, ys, I1, ds', vs, e2, h2.2, fun H2 I2 => q H2 I2⟩⟩
  | [], _ :: _, hc => by simp [chkXs] at hc
  | _ :: _, [], hc => by simp [chkXs] at hc
theorem pushSc {fr : Fr} {σ : L2.St} {H : Hp} {e : Env} : ∀ {ds : List D} {vs : List V} {tm : List Tmp}, Rl fr σ H e tm → ds.map scD = vs.map some → Rl fr σ H e (pushAll (ds.map fun d => (.own 9, d)) vs tm)
  | [], [], _, s, _ => s
  | [], _ :: _, _, _, h => by cases h
  | _ :: _, [], _, _, h => by cases h
  | d :: ds, v :: vs, tm, s, h => by
    simp only [List.map_cons, List.cons.injEq] at h
    exact pushSc (ds := ds) (vs := vs) (tm := ⟨.own 9, v, d⟩ :: tm) (s.sc h.1) h.2
theorem minK_sc : ∀ {ds : List D}, ds.all scs = true → minK (ds.map fun d => (Tg.own 9, d)) = some 9
  | [], _ => rfl
  | d :: ds, h => by
    simp only [List.all_cons, Bool.and_eq_true] at h
    have hf : d.flat = true := by cases d <;> first | rfl | cases h.1
    simp only [List.map_cons, minK, minK_sc h.2, hf, if_true]
def rdSu (M : Str → Option Addr) (K : PySem.W.Frag) (ex : List Str) (i : Nat) (x : List XE) : SuT := fun a cls d D σ H => ∃ c C, (c ∈ ex ∧ M c = some C ∧ cls = .ref C) ∧ ∃ fr e tm ys, InX M K a cls d i c ys fr e tm σ H ∧ ∃ ds, evXs c ys x = some ds ∧ ds.all scs = true ∧ lim ds.length = true ∧ ∀ v H', Rl fr σ H' e (⟨.own 10, v, .lst ds⟩ :: tm) → D.rt v H'
theorem scs_vals : ∀ {ds : List D}, ds.all scs = true → ∃ vs : List V, ds.map scD = vs.map some
  | [], _ => ⟨[], rfl⟩
  | d :: ds, h => by
    simp only [List.all_cons, Bool.and_eq_true] at h
    obtain ⟨vs, hv⟩ := scs_vals h.2
    have : ∃ v, scD d = some v := by cases d <;> first | exact ⟨_, rfl⟩ | cases h.1
    obtain ⟨v, e⟩ := this
    exact ⟨v :: vs, by rw [List.map_cons, List.map_cons, e, hv]⟩
theorem su_ok (h : XOk X T Γ (EvX M)) (ok : ClsOk X.K X.mg M T.ex) (hv : T.vis n i = true) {xs : List XE} {es : List Expr} {p1 p2 : Pos} (hc : chkXs T n xs es = true) (hf : ∃ vs, oe.data = .fields vs) (hz : Zc cls d oe) :
    PSs (X.suite a ((a, oe) :: pn)) [.Return (some (.List es p1)) p2] (rdSu M X.K T.ex i xs a cls d) := by
  by_cases hk : ∃ c C, c ∈ T.ex ∧ M c = some C ∧ cls = .ref C
  · refine ⟨fun pins s σ H D I hsu => ?_⟩
    obtain ⟨c, C, ⟨k1, k2, k3⟩, fr, e, tm, ys, J, ds, h1, h2, h3, q⟩ := hsu
    subst k3
    have main := pss_one (ps_ret (pos := p2) (pe_lst (pos := p1) (chkXs_ok (a := a) (pn := pn) h ok hv k1 k2 hz hf hc)))
    obtain ⟨vs, hvs⟩ := scs_vals h2
    refine main.run pins s σ H D I ⟨fr, e, tm, ys, J, ds, vs, h1, hvs, fun H1 J1 => ⟨?_, fun p hp => ?_⟩⟩
    · have : ds.length = vs.length := by have := congrArg List.length hvs; simpa using this
      rw [← this]; exact lim_le h3
    · refine q _ _ ?_
      have s1 := pushSc J1.2.1 hvs
      have := Rl.display (as := ds.map fun d => (Tg.own 9, d)) s1 (by have := congrArg List.length hvs; simpa using this) (minK_sc h2) hp
      have e1 : (ds.map fun d => (Tg.own 9, d)).map (·.2) = ds := by simp [Function.comp_def]
      rw [e1] at this
      exact this
  · exact ⟨fun pins s σ H D I ⟨c, C, z, _⟩ => absurd ⟨c, C, z⟩ hk⟩
theorem Rl.setRef {fr : Fr} {σ : L2.St} {H : Hp} {e : Env} {tm : List Tmp} {i : Nat} {v : V} (s : Rl fr σ H e tm) : Rl fr (σ.set i (some v)) H (e.set i none) tm := by
  obtain ⟨F, lab, s⟩ := s
  refine ⟨F, lab, s.good, ⟨by rw [List.length_set, List.length_set]; exact s.slots.1, fun j k d h => ?_⟩, s.tmps⟩
  obtain ⟨ne, h'⟩ := set_none h
  obtain ⟨v', q1, q2⟩ := s.slots.2 j k d h'
  exact ⟨v', by rw [List.getElem?_set_ne (Ne.symm ne)]; exact q1, q2⟩
theorem handle_ok {fr : Fr} {tm : List Tmp} {D : Ends} (ok : ClsOk X.K X.mg M T.ex) (hK : fr.K = X.K) (h0 : ∀ q ∈ fr.fix, q.1 = 0) {cv : Value} {dd : Option Addr} {σ : L2.St} {H : Hp} {e : Env} {ys : List VI.D} (hcx : c ∈ T.ex) (ev : EvX M c ys cv dd H) (s : Rl fr σ H e tm) (fx : Fixed fr σ) :
    ∀ {hs : List (Str × Nat × List XE)} {hds : List ExceptHandler}, chkHd T hs hds = true → OkS W (EvX M) fr tm D (handle c ys e hs) → ∃ l, wManyAs X.K W D (hs.map fun q => ((M q.1).elim .none (fun a => .ref a), q.2.1, rdSu M X.K T.ex q.2.1 q.2.2)) cv dd σ H ∧ l = ()
  | [], hds, hc, h => ⟨(), h cv dd σ H ev s fx, rfl⟩
  | (t, i, xs) :: r, hds, hc, h => by
    unfold chkHd at hc
    split at hc
    · rename_i y p n es p2 p3 p4 hs'
      simp only [Bool.and_eq_true, decide_eq_true_eq, Bool.not_eq_true'] at hc
      obtain ⟨⟨⟨⟨⟨⟨⟨⟨rfl, g1⟩, g2⟩, g3⟩, g4⟩, g5⟩, g6⟩, g7⟩, g8⟩ := hc
      have hm := List.contains_iff_mem.mp g2
      obtain ⟨Dt, w1, w2, w3, w4, w5⟩ := ok.at_ t hm
      obtain ⟨C, vs, m1, m2, m3, m4, m5⟩ := id ev
      subst m2
      refine ⟨(), ?_, rfl⟩
      simp only [List.map_cons, w1, Option.elim]
      refine ⟨catches c [t], ok.exm c hcx t hm C Dt m1 w1, fun hb a ha => ?_, fun hb => ?_⟩
      · unfold handle at h
        rw [if_pos hb] at h
        cases hx : evXs c ys xs with
        | none => rw [hx] at h; exact h.elim
        | some ds =>
          rw [hx] at h
          dsimp only at h
          split at h
          · rename_i hg
            simp only [Bool.and_eq_true, decide_eq_true_eq] at hg
            refine ⟨c, C, ⟨hcx, m1, rfl⟩, fr, e.set i none, tm, ys, ⟨hK, s.setRef, ?_, ev⟩, ds, hx, hg.1.1, hg.2, fun v H' s' => h v _ H' s' ?_⟩
            · obtain ⟨_, _, q⟩ := s
              rw [List.getElem?_set_self (by rw [q.slots.1]; exact hg.1.2)]
            · intro q hq
              rw [List.getElem?_set_ne (by rw [h0 q hq]; exact g5)]
              exact fx q hq
          · exact h.elim
      · unfold handle at h
        rw [if_neg (by rw [hb]; simp)] at h
        obtain ⟨_, q, _⟩ := handle_ok ok hK h0 hcx ev s fx g8 h
        exact q
    · cases hc
def hdF (M : Str → Option Addr) (K : PySem.W.Frag) (ex : List Str) (q : Str × Nat × List XE) : Value × Nat × SuT := ((M q.1).elim .none (fun a => .ref a), q.2.1, rdSu M K ex q.2.1 q.2.2)
theorem hds_ok (h : XOk X T Γ (EvX M)) (ok : ClsOk X.K X.mg M T.ex) : ∀ {hs : List (Str × Nat × List XE)} {hds : List ExceptHandler}, chkHd T hs hds = true → HdsAs X hds (hs.map (hdF M X.K T.ex))
  | [], hds, hc => by
    unfold chkHd at hc
    cases hds with
    | nil => exact .nil
    | cons a r => cases hc
  | (t, i, xs) :: r, hds, hc => by
    unfold chkHd at hc
    split at hc
    · rename_i y p n es p2 p3 p4 hs'
      simp only [Bool.and_eq_true, decide_eq_true_eq, Bool.not_eq_true'] at hc
      obtain ⟨⟨⟨⟨⟨⟨⟨⟨rfl, g1⟩, g2⟩, g3⟩, g4⟩, g5⟩, g6⟩, g7⟩, g8⟩ := hc
      have hm := List.contains_iff_mem.mp g2
      obtain ⟨Dt, w1, w2, w3, w4, w5⟩ := ok.at_ t hm
      have e1 : hdF M X.K T.ex (t, i, xs) = (Value.ref Dt, i, rdSu M X.K T.ex i xs) := by unfold hdF; rw [w1]; rfl
      rw [List.map_cons, e1]
      have hl : X.env.kindOf n = some .local := by
        cases hq : T.names.lookup n with
        | none => rw [hq] at g6; cases g6
        | some kd =>
          rw [hq] at g6
          cases kd with
          | «local» => exact (h.names n _ hq).elim id fun z => nomatch z.1
          | _ => cases g6
      have hN : X.N[i]? = some n := by
        unfold Tx.vis at g4
        simp only [Bool.and_eq_true, decide_eq_true_eq] at g4
        rw [h.n]; exact g4.1.1.1
      exact .cons ⟨h.gl g1, g3, .inl w2⟩ hN hl (fun a oe cls d pn hz hf => su_ok h ok g4 g7 hf hz) (hds_ok h ok g8)
    · cases hc
end
end VI
set_option autoImplicit true
set_option Elab.async false
set_option linter.all false
set_option maxRecDepth 100000
set_option maxHeartbeats 8000000
namespace VI
open PySem PySem.Spec PyProof.Rows L2
def isComp : Expr → Bool
  | .ListComp .. => true
  | .SetComp .. => true
  | .DictComp .. => true
  | _ => false
def isTupE : Expr → Bool
  | .Tuple .. => true
  | _ => false
def lcSame (T : Tx) (y : Str) (pl : Nat) (e : Expr) : Bool := match e with
  | .ListComp _ _ scope pos => (pl == pos.line) && (match T.names.lookup y with | some .local => true | _ => false) && !(scope.names.any fun (n, k) => n == y && (k == .local || k == .cell))
  | _ => false
def isCell (T : Tx) (x : Str) : Bool := match T.names.lookup x with | some .cell => true | _ => false
def CE.isLc : CE → Bool
  | .lc .. => true
  | _ => false
mutual
def chkS (T : Tx) : CS → Stmt → Bool
  | .set i c, s => match s with
    | .Assign [.Name x px] e _ => T.loc x i && decide (i ≠ 0) && chkE T c e && (!isComp e || (c.isLc && lcSame T x px.line e) || isCell T x)
    | _ => false
  | .set2 i j c, s => match s with
    | .Assign [.Name x _, .Name y _] e _ => T.loc x i && T.loc y j && decide (i ≠ 0) && decide (j ≠ 0) && chkE T c e
    | _ => false
  | .unp g c, s => match s with
    | .Assign [.Tuple xs k p] e _ => chkG T g (.Tuple xs k p) && !(g.slots.contains 0) && chkE T c e && !isComp e && !isTupE e
    | _ => false
  | .six o i c, s => match s with
    | .Assign [.Subscript x y _] e _ => chkP T o x && chkE T i y && !isSlice y && chkE T c e && !isComp e
    | _ => false
  | .exp c, s => match s with | .Expr e _ => chkE T c e && !isComp e | _ => false
  | .ret c, s => match s with | .Return (some e) _ => chkE T c e | _ => false
  | .retN, s => match s with | .Return none _ => true | _ => false
  | .ite c a b, s => match s with | .If e x y _ => chkE T c e && chkSs T a x && chkSs T b y | _ => false
  | .for g it b, s => match s with | .For tg iter x [] _ => chkG T g tg && !(g.slots.contains 0) && chkI T it iter && chkSs T b x | _ => false
  | .whl c b, s => match s with | .While e x [] _ => chkE T c e && chkSs T b x | _ => false
  | .brk, s => match s with | .Break _ => true | _ => false
  | .cnt, s => match s with | .Continue _ => true | _ => false
  | .pas, s => match s with | .Pass _ => true | _ => false
  | .rai c es, s => match s with | .Raise (some (.Call (.Name g _) xs [] _)) none _ => decide (c = g) && T.gl c && T.mks.contains c && chkEs T es xs && noStars xs && !xs.isEmpty | _ => false
  | .try b hs, s => match s with | .Try x (h :: hds) [] [] _ => chkSs T b x && chkHd T hs (h :: hds) | _ => false
  | .bad, _ => true
  | _, _ => false
def chkSs (T : Tx) : CSs → List Stmt → Bool
  | .nil, ss => match ss with | [] => true | _ => false
  | .cons s r, ss => match ss with | x :: xs => chkS T s x && chkSs T r xs | _ => false
end
def tMk (Ev : EvT) (c : Str) (ta : TA) : L2.St → Hp → XK → Prop := fun σ H Q => ta σ H fun vs H1 => ∃ xs : List D, xs.length = (fieldsOf c).length ∧ xs.all isSm = true ∧ xs.map scD = vs.map some ∧ ∀ cv dd H', Ev c xs cv dd H' → (∀ a o, H1 a = some o → H' a = some o) → Q cv dd H'
structure SOk (X : Cx) (T : Tx) (Γ : Sm) (M : Str → Option Addr) extends XOk X T Γ (EvX M) where
  kind : X.env.scope.kind = .function
  pass : PassesOwn (model X.prog X.w) X.A X.env X.xe
  whl : WhlOk Γ.whl
  cls : ClsOk X.K X.mg M T.ex
  stk : X.stack = X.env :: X.outer
  frm : X.env.frame = some X.env.locals
  mke : ∀ Y : Cx, Y.prog = X.prog → Y.w = X.w → Y.K = X.K → Y.mg = X.mg → Y.base = X.base → Y.calm = true → Y.A = X.A → ∀ c ∈ T.mks, ∀ (x : Expr) (xs : List Expr) (ta : TA) (p pos : Pos), Gl Y c → PA Y (x :: xs) ta → noStars (x :: xs) = true → PMk Y (.Call (.Name c p) (x :: xs) [] pos) (tMk (EvX M) c ta)
theorem SOk.tr {X : Cx} {T : Tx} {Γ : Sm} {M : Str → Option Addr} (h : SOk X T Γ M) {pn : List (Addr × Obj)} {xe : Value → Shared → Prop} (hp : PassesOwn (model X.prog X.w) X.A X.env xe) : SOk (X.tr pn xe) T Γ M :=
  { n := h.n, nd := h.nd, names := h.names, fn := h.fn, calm := h.calm, room := h.room, bi := h.bi, ino := h.ino, fns := h.fns, kind := h.kind, pass := hp, whl := h.whl, cls := h.cls, stk := h.stk, frm := h.frm, mke := h.mke }
section
variable {X : Cx} {T : Tx} {Γ : Sm} {Ev : EvT} {M : Str → Option Addr} {W : WX} {x : Str} {i : Nat} {pos : Pos}
theorem comp_sw {e : Expr} {tg : Option Expr} {l : Nat} {env : PySem.Env} (h : isComp e = false) : swapsWith e tg l env = pure false := by cases e <;> first | rfl | cases h
theorem sole_name {t e : Expr} {l : Nat} {env : PySem.Env} (h : isComp e = false) : swapsWithSole [t] e l env = pure false := comp_sw h
theorem sole_cell {x : Str} {p : Pos} {e : Expr} {l : Nat} {env : PySem.Env} (h : env.scope.names.lookup x = some .cell) : swapsWithSole [.Name x p] e l env = pure false := by
  have hk : (env.kindOf x == some .local) = false := by unfold Env.kindOf; rw [h]; rfl
  by_cases hc : isComp e = false
  · exact sole_name (by simpa using hc)
  · show swapsWith e (some (.Name x p)) l env = pure false
    unfold swapsWith
    cases e <;> first | (exfalso; exact hc rfl) | (simp only [hk, Bool.and_false, Bool.false_and]; first | done | rfl)
theorem st_name {x : Str} {p : Pos} {e : Expr} {env : PySem.Env} : swappedStores [.Name x p] e env = pure none := by cases e <;> rfl
theorem st_sub {o i : Expr} {p : Pos} {e : Expr} {env : PySem.Env} : swappedStores [.Subscript o i p] e env = pure none := by cases e <;> rfl
theorem st_tup {xs : List Expr} {k : Nat} {p : Pos} {e : Expr} {env : PySem.Env} (h : isTupE e = false) : swappedStores [.Tuple xs k p] e env = pure none := by cases e <;> first | rfl | cases h
theorem st_two {a b e : Expr} {env : PySem.Env} : swappedStores [a, b] e env = pure none := by cases a <;> rfl
theorem gName_of {K : PySem.W.Frag} {i : Nat} {v : V} {σ : L2.St} {H : Hp} {Q : L2.St → Hp → Prop} (h : rdG K (.name i) v σ H Q) : gName i v σ H Q := by
  obtain ⟨fr, e, tm, bs, t, d, e', hK, s', sb, hb, q⟩ := h
  exact q _ (s'.bind hb sb) fun j hj => List.getElem?_set_ne fun z => hj (by simp [CT.slots, z])
theorem rdE_mono {K : PySem.W.Frag} {c : CE} {σ : L2.St} {H : Hp} {Q Q' : VK} (h : rdE W Ev Γ K c σ H Q) (m : ∀ v H', Q v H' → Q' v H') : rdE W Ev Γ K c σ H Q' := by
  obtain ⟨fr, e, tm, bs, hK, s, sb, ok⟩ := h
  exact ⟨fr, e, tm, bs, hK, s, sb, ok.mono (fun x _ ok1 v H' s' => m v H' (ok1 v H' s')) fun _ _ _ z => z⟩
theorem sc_args : ∀ {as : List (Tg × D)} {vs : List V} {fr : Fr} {σ : L2.St} {H : Hp} {e : Env} {tm : List Tmp}, Rl fr σ H e (pushAll as vs tm) → as.length = vs.length → (as.map (·.2)).all isSc = true → (as.map (·.2)).map scD = vs.map some
  | [], [], _, _, _, _, _, _, _, _ => rfl
  | [], _ :: _, _, _, _, _, _, _, hl, _ => by cases hl
  | _ :: _, [], _, _, _, _, _, _, hl, _ => by cases hl
  | (t, d) :: as, v :: vs, fr, σ, H, e, tm, s, hl, h => by
    simp only [List.map_cons, List.all_cons, Bool.and_eq_true] at h
    have s1 : Rl fr σ H e (⟨t, v, d⟩ :: tm) := Rl.dropAll (as := as) (vs := vs) s
    have ih := sc_args (as := as) (vs := vs) (tm := ⟨t, v, d⟩ :: tm) s (by simpa using hl) h.2
    rw [List.map_cons, List.map_cons, List.map_cons, ih]
    have p := s1.top
    have : scD d = some v := by
      cases d with
      | non => obtain rfl := p.non; rfl
      | bl b => obtain rfl := p.bl; rfl
      | int n => obtain rfl := p.int; rfl
      | str z => obtain rfl := p.str; rfl
      | _ => cases h.1
    rw [this]
theorem rd_rai {c : Str} {es : CEs} {ea : Expr} {xs : List Expr} {p p2 : Pos} (hc : X.calm = true) (tk : Takes X W) (hm : PMk X (.Call (.Name c p) (ea :: xs) [] p2) (tMk Ev c (rdA W Ev Γ X.K es))) : PS X (.Raise (some (.Call (.Name c p) (ea :: xs) [] p2)) none pos) (rdSt W Ev Γ X.K (.rai c es)) :=
  psI (ps_raise hc tk hm) fun D σ H ⟨fr, e, tm, bs, hK, s, sb, fx, ok⟩ => by
    simp only [exS] at ok
    refine ⟨fr, e, tm, bs, hK, s, sb, (OkS.bind ok fx).mono (fun x hx ok1 vs H1 hl s1 => ?_) fun _ _ _ z => z⟩
    cases ha : errArgs x.1 with
    | none => rw [ha] at ok1; exact ok1.elim
    | some ys =>
      rw [ha] at ok1
      dsimp only at ok1
      split at ok1
      · rename_i hn
        unfold errArgs at ha
        split at ha
        · rename_i hsc
          cases ha
          exact ⟨_, hn, hsc, sc_args s1 hl (smsAll hsc), fun cv dd H' ev k => ok1 cv dd σ H' ev ((Rl.dropAll s1).stay k) fx⟩
        · cases ha
      · exact ok1.elim
theorem setLc_ok {el cc : CE} {g : CT} {it : CI} {vs : List Nat} {y : Str} {px : Pos} {e : Expr} (h : SOk X T Γ M) (tk : Takes X W) (hl : T.loc y i = true) (h0 : i ≠ 0) (hc : chkE T (.lc el g it cc vs) e = true) (hsame : lcSame T y px.line e = true) : PS X (.Assign [.Name y px] e pos) (rdSt W (EvX M) Γ X.K (.set i (.lc el g it cc vs))) := by
  unfold chkE at hc
  split at hc
  · rename_i elt tg iter ifs k scope lpos
    simp only [Bool.and_eq_true, decide_eq_true_eq] at hc
    obtain ⟨⟨⟨⟨⟨⟨⟨rfl, h1⟩, h2⟩, h3⟩, h4⟩, h5⟩, h6⟩, h7⟩ := hc
    have hI := chkI_ok it (tg := tg) h.toXOk tk h3
    unfold lcSame at hsame
    simp only [Bool.and_eq_true, Bool.not_eq_true'] at hsame
    obtain ⟨⟨q1, q2⟩, q3⟩ := hsame
    have hlook : X.env.scope.names.lookup y = some .local := by
      cases hq : T.names.lookup y with
      | none => rw [hq] at q2; cases q2
      | some kd =>
        rw [hq] at q2
        cases kd with
        | «local» => exact (h.names y _ hq).elim id fun z => nomatch z.1
        | _ => cases q2
    have hN : X.N[i]? = some y := by
      unfold Tx.loc at hl
      simp only [Bool.and_eq_true, decide_eq_true_eq] at hl
      rw [h.n]; exact hl.1
    have main := ps_setLc (py := px) (spos := pos) (elt := elt) (tg := tg) (iter := iter) (ifs := ifs) (scope := scope) (pos := lpos) (own := ownOf T vs) (wi := rdI W (EvX M) Γ X.K it) (g := rdG X.K g) (tt := rdIf (EvX M) Γ X.K cc) (te := rdE W0 (EvX M) Γ X.K el) h.calm (by rw [h.n]; exact h.nd) hN hlook (sw_true h.kind hlook q1 q3) hI.1 (h.blkOk h2) (fun s H C cl fp => (chkG_ok (h.blk) h4).1) (fun s H C cl fp => ?_)
      (fun s H C cl fp => (chkE_ok el (h.blk) takesW0 h6).pe) (set_ok hI.2)
    · rw [h1] at main
      refine psI main fun D σ H ⟨fr, e, tm, bs, hK, s, sb, fx, ok⟩ => ?_
      have ok : OkS W (EvX M) fr tm D ((evE Γ (.lc el g it cc vs) bs e).toS fun x => optS (bindT (.name i) x.2.2 bs x.1 x.2.1) .nx) := by simpa only [exS, bindT] using ok
      have := asg_imp (K := X.K) (σ := σ) (H := H) (f := .nx) (by simpa [CT.slots] using h0.symm) (fun _ => rfl) ⟨fr, e, tm, bs, hK, s, sb, fx, ok⟩
      exact lc_imp (fun i hi => List.contains_iff_mem.mp (List.all_eq_true.mp h5 i hi)) (rdE_mono this fun v H1 q => gName_of q)
    · split at h7
      · unfold rdIf
        rw [if_pos h7]
        exact pts_nil
      · simp only [Bool.and_eq_true, Bool.not_eq_true'] at h7
        unfold rdIf
        rw [if_neg (by rw [h7.1]; simp)]
        exact pts_one (chkE_ok cc (h.blk) takesW0 h7.2).pt
      · cases h7
  · cases hc
theorem not_contains {l : List Nat} {a : Nat} (h : l.contains a = false) : a ∉ l := fun z => by rw [List.contains_iff_mem.mpr z] at h; cases h
mutual
theorem chkS_ok : ∀ (c : CS) {X : Cx} {T : Tx} {Γ : Sm} {M : Str → Option Addr} {W : WX} {s : Stmt}, SOk X T Γ M → Takes X W → chkS T c s = true → PS X s (rdSt W (EvX M) Γ X.K c)
  | .set i c, X, T, Γ, M, W, s, h, tk, hc => by
    unfold chkS at hc
    split at hc
    · rename_i x px e pos
      simp only [Bool.and_eq_true, decide_eq_true_eq, Bool.or_eq_true, Bool.not_eq_true'] at hc
      obtain ⟨⟨⟨h1, h2⟩, h3⟩, h4⟩ := hc
      rcases h4 with (h4 | ⟨h4, h5⟩) | h4
      · exact rd_set h2 (chkE_ok c h.toXOk tk h3).pe (rdG_name (h.toXOk.loc h1)) (sole_name h4) st_name rfl
      · cases c with
        | lc el g it cc vs => exact setLc_ok h tk h1 h2 h3 h5
        | _ => cases h4
      · have hk : X.env.scope.names.lookup x = some .cell := by
          unfold isCell at h4
          cases hq : T.names.lookup x with
          | none => rw [hq] at h4; cases h4
          | some kd =>
            rw [hq] at h4
            cases kd with
            | cell => exact (h.names x _ hq).elim id fun z => nomatch z.1
            | _ => cases h4
        exact rd_set h2 (chkE_ok c h.toXOk tk h3).pe (rdG_name (h.toXOk.loc h1)) (sole_cell hk) st_name rfl
    · cases hc
  | .set2 i j c, X, T, Γ, M, W, s, h, tk, hc => by
    unfold chkS at hc
    split at hc
    · simp only [Bool.and_eq_true, decide_eq_true_eq] at hc
      obtain ⟨⟨⟨⟨h1, h2⟩, h3⟩, h4⟩, h5⟩ := hc
      exact rd_set2 h3 h4 (chkE_ok c h.toXOk tk h5).pe (rdG_name (h.toXOk.loc h1)) (rdG_name (h.toXOk.loc h2)) (fun a b c => ps_asg2 a b c rfl st_two)
    · cases hc
  | .unp g c, X, T, Γ, M, W, s, h, tk, hc => by
    unfold chkS at hc
    split at hc
    · simp only [Bool.and_eq_true, Bool.not_eq_true'] at hc
      obtain ⟨⟨⟨⟨h1, h2⟩, h3⟩, h4⟩, h5⟩ := hc
      exact rd_unp (not_contains h2) (chkE_ok c h.toXOk tk h3).pe (chkG_ok h.toXOk h1).1 (sole_name h4) (st_tup h5) rfl
    · cases hc
  | .par _ _ _ _, X, T, Γ, M, W, s, h, tk, hc => by unfold chkS at hc; cases hc
  | .six o i c, X, T, Γ, M, W, s, h, tk, hc => by
    unfold chkS at hc
    split at hc
    · rename_i x y p e pos
      simp only [Bool.and_eq_true, Bool.not_eq_true'] at hc
      obtain ⟨⟨⟨⟨h1, h2⟩, h3⟩, h4⟩, h5⟩ := hc
      refine rd_six (chkE_ok c h.toXOk tk h4).pe (chkP_ok o h.toXOk tk h1) (chkE_ok i h.toXOk tk h2).pe (sole_name h5) st_sub ?_
      intro v
      cases y <;> first | rfl | cases h3
    · cases hc
  | .aug _ _ _, X, T, Γ, M, W, s, h, tk, hc => by unfold chkS at hc; cases hc
  | .augx _ _ _ _, X, T, Γ, M, W, s, h, tk, hc => by unfold chkS at hc; cases hc
  | .exp c, X, T, Γ, M, W, s, h, tk, hc => by
    unfold chkS at hc
    split at hc
    · simp only [Bool.and_eq_true, Bool.not_eq_true'] at hc
      exact rd_exp (chkE_ok c h.toXOk tk hc.1).pe (comp_sw hc.2)
    · cases hc
  | .ret c, X, T, Γ, M, W, s, h, tk, hc => by
    unfold chkS at hc
    split at hc
    · exact rd_ret (chkE_ok c h.toXOk tk hc).pe
    · cases hc
  | .retN, X, T, Γ, M, W, s, h, tk, hc => by
    unfold chkS at hc
    split at hc
    · exact rd_retN
    · cases hc
  | .ite c a b, X, T, Γ, M, W, s, h, tk, hc => by
    unfold chkS at hc
    split at hc
    · simp only [Bool.and_eq_true] at hc
      exact rd_ite (chkE_ok c h.toXOk tk hc.1.1).pt (chkSs_ok a h tk hc.1.2) (chkSs_ok b h tk hc.2)
    · cases hc
  | .for g it b, X, T, Γ, M, W, s, h, tk, hc => by
    unfold chkS at hc
    split at hc
    · rename_i tg iter x pos
      simp only [Bool.and_eq_true, Bool.not_eq_true'] at hc
      obtain ⟨⟨⟨h1, h2⟩, h3⟩, h4⟩ := hc
      have hI := chkI_ok it (tg := tg) h.toXOk tk h3
      exact rd_for h.pass h.calm hI.1 (chkG_ok h.toXOk h1).1 (chkSs_ok b h tk h4) (not_contains h2) (set_ok hI.2)
    · cases hc
  | .whl c b, X, T, Γ, M, W, s, h, tk, hc => by
    unfold chkS at hc
    split at hc
    · simp only [Bool.and_eq_true] at hc
      exact rd_whl h.whl h.pass (chkE_ok c h.toXOk tk hc.1).pt (chkSs_ok b h tk hc.2)
    · cases hc
  | .brk, X, T, Γ, M, W, s, h, tk, hc => by
    unfold chkS at hc
    split at hc
    · exact rd_brk
    · cases hc
  | .cnt, X, T, Γ, M, W, s, h, tk, hc => by
    unfold chkS at hc
    split at hc
    · exact rd_cnt
    · cases hc
  | .pas, X, T, Γ, M, W, s, h, tk, hc => by
    unfold chkS at hc
    split at hc
    · exact rd_pas
    · cases hc
  | .rai c es, X, T, Γ, M, W, s, h, tk, hc => by
    unfold chkS at hc
    split at hc
    · rename_i g p xs pos2 pos
      simp only [Bool.and_eq_true, decide_eq_true_eq, Bool.not_eq_true'] at hc
      obtain ⟨⟨⟨⟨⟨rfl, h1⟩, h2⟩, h3⟩, h4⟩, h5⟩ := hc
      cases xs with
      | nil => cases h5
      | cons x xs => exact rd_rai h.calm tk (h.mke X rfl rfl rfl rfl rfl h.calm rfl c (List.contains_iff_mem.mp h2) x xs _ p pos2 (h.toXOk.gl h1) (chkEs_ok es h.toXOk tk h3 h4) h4)
    · cases hc
  | .try b hs, X, T, Γ, M, W, s, h, tk, hc => by
    unfold chkS at hc
    split at hc
    · rename_i x hd hds pos
      rw [Bool.and_eq_true] at hc
      have main := ps_try_manyAs (pos := pos) (tb := fun W => rdSts W (EvX M) Γ X.K b) h.stk h.frm (by rw [h.n]; exact h.nd) tk (fun W' pn xe tk' hp => chkSs_ok b (h.tr hp) tk' hc.1) (hds_ok h.toXOk h.cls hc.2)
      refine psI main fun D σ H ⟨fr, e, tm, bs, hK, s', sb, fx, ok⟩ => ⟨fr, e, tm, bs, hK, s', sb, fx, ?_⟩
      simp only [exS] at ok
      cases hr : exSs Γ b bs e with
      | nx e1 => rw [hr] at ok; exact ok
      | bk e1 => rw [hr] at ok; exact ok
      | ct e1 => rw [hr] at ok; exact ok
      | rt k d e1 => rw [hr] at ok; exact ok
      | bad => rw [hr] at ok; exact ok
      | exn c ys e1 =>
        rw [hr] at ok
        intro cv dd σ1 H1 ev s1 f1
        have hcx : c ∈ T.ex := let ⟨C, _, hC, _⟩ := ev; h.cls.dom c C hC
        obtain ⟨_, q, _⟩ := handle_ok h.cls hK sb.2.2 hcx ev s1 f1 hc.2 ok
        exact q
    · cases hc
  | .bad, X, T, Γ, M, W, s, h, tk, hc => rd_bad
theorem chkSs_ok : ∀ (c : CSs) {X : Cx} {T : Tx} {Γ : Sm} {M : Str → Option Addr} {W : WX} {s : List Stmt}, SOk X T Γ M → Takes X W → chkSs T c s = true → PSs X s (rdSts W (EvX M) Γ X.K c)
  | .nil, X, T, Γ, M, W, s, h, tk, hc => by
    unfold chkSs at hc
    split at hc
    · exact rd_snil
    · cases hc
  | .cons a r, X, T, Γ, M, W, s, h, tk, hc => by
    unfold chkSs at hc
    split at hc
    · rw [Bool.and_eq_true] at hc
      exact rd_scons (chkS_ok a h tk hc.1) (chkSs_ok r h tk hc.2)
    · cases hc
end
end
end VI
set_option autoImplicit true
set_option Elab.async false
set_option linter.all false
set_option maxRecDepth 100000
set_option maxHeartbeats 8000000
namespace VI
open PySem PySem.Spec PyProof.Rows L2
section
variable {K : PySem.W.Frag} {H : Hp} {F P : Addr → Prop}
theorem looks_get : ∀ {as : List (Nat × D)} {vs : List V} {i : Nat} {k : Nat} {d : D}, Looks K H F as vs → as[i]? = some (k, d) → ∃ v, vs[i]? = some v ∧ k = 0 ∧ Rep K H F 0 v d []
  | (_, _) :: _, _ :: _, 0, _, _, h, e => by
    simp at e
    obtain ⟨rfl, rfl⟩ := e
    exact ⟨_, rfl, h.1, h.1 ▸ h.2.1⟩
  | (_, _) :: as, _ :: vs, i + 1, k, d, h, e => looks_get (i := i) (as := as) (vs := vs) h.2.2 (by simpa using e)
  | [], [], _, _, _, _, e => by simp at e
  | [], _ :: _, _, _, _, h, _ => h.elim
  | (_, _) :: _, [], _, _, _, h, _ => h.elim
theorem Entry.length {ino : Bool} {as : List (Nat × D)} {vs : List V} (en : Entry K H F P ino as vs) : as.length = vs.length := by
  have h := en.args
  cases ino with
  | false => exact h.1.length
  | true =>
    match as, vs, h with
    | (_, _) :: _, _ :: _, h => simp [h.2.length]
    | [], _, h => exact h.elim
    | _ :: _, [], h => exact h.elim
theorem entry_rl {ino : Bool} {as : List (Nat × D)} {vs : List V} {N : List Str} {ns ps : Nat} (en : Entry K H F P ino as vs) (hN : N.length = ns) (hp : as.length = ps) (hle : ps ≤ ns) :
    Rl (frOf K H F P ino vs) (L2.start N vs) H (as.map some ++ List.replicate (ns - ps) none) [] := by
  classical
  have hl := en.length
  refine ⟨F, fun a => if P a then some (.s 0) else none, ⟨fun a h => h, fun a h => .inl h, fun a h => if_neg (en.dis a h), en.ft, fun a l h => ?_, fun a l h => ?_, fun a o h _ => h, fun a h => h, en.pt, fun a o h hn hp => ?_, fun q hq => ?_⟩, ⟨?_, fun i k d h => ?_⟩, trivial⟩
  · by_cases hp : P a
    · exact en.pt a hp
    · have h' : (if P a then some (Lb.s 0) else none) = some l := h
      rw [if_neg hp] at h'; cases h'
  · by_cases hp : P a
    · exact .inl hp
    · have h' : (if P a then some (Lb.s 0) else none) = some l := h
      rw [if_neg hp] at h'; cases h'
  · obtain ⟨xs, q⟩ := en.pt a hp
    have h' : H a = some o := h
    rw [q] at h'
    exact hn xs (Option.some.inj h').symm
  · have : (frOf K H F P ino vs).pts = [] := rfl
    rw [this] at hq; simp at hq
  · unfold L2.start
    simp only [List.length_append, List.length_map, List.length_replicate]
    omega
  · have hi : i < as.length := by
      by_cases hi : i < as.length
      · exact hi
      · rw [List.getElem?_append_right (by simpa using hi), List.getElem?_replicate] at h
        split at h <;> cases h
    rw [List.getElem?_append_left (by simpa using hi), List.getElem?_map] at h
    have ha : as[i]? = some (k, d) := by
      cases q : as[i]? with
      | none => rw [q] at h; cases h
      | some z => rw [q] at h; simp only [Option.map_some, Option.some.injEq] at h; rw [h]
    have st : ∀ v, vs[i]? = some v → (L2.start N vs)[i]? = some (some v) := fun v hv => by
      unfold L2.start
      rw [List.getElem?_append_left (by simp; omega), List.getElem?_map, hv]; rfl
    have h0 := en.args
    cases ino with
    | false =>
      obtain ⟨v, hv, rfl, r⟩ := looks_get h0.1 ha
      exact ⟨v, st v hv, [], r, List.nodup_nil, by simp⟩
    | true =>
      match as, vs, h0 with
      | (k0, d0) :: as', v0 :: vs', h0 =>
        cases i with
        | zero =>
          simp at ha
          obtain ⟨rfl, rfl⟩ := ha
          obtain ⟨⟨fp, r, nd, hP⟩, _⟩ := h0
          exact ⟨v0, st v0 rfl, fp, r, nd, fun a ha => if_pos (hP a ha)⟩
        | succ i =>
          obtain ⟨v, hv, rfl, r⟩ := looks_get (i := i) h0.2 (by simpa using ha)
          exact ⟨v, st v (by simpa using hv), [], r, List.nodup_nil, by simp⟩
end
theorem frOf_fix {K : PySem.W.Frag} {H : Hp} {F P : Addr → Prop} {ino : Bool} {vs : List V} : ∀ q ∈ (frOf K H F P ino vs).fix, ino = true ∧ q.1 = 0 ∧ vs.head? = some q.2 := fun q hq => by
  unfold frOf at hq
  cases ino with
  | false => simp at hq
  | true =>
    cases vs with
    | nil => simp at hq
    | cons u us => simp at hq; subst hq; exact ⟨rfl, rfl, rfl⟩
structure DefOk (mg : Str → Option Value) (K : PySem.W.Frag) (x : Str) (a : Addr) (fd : FuncData) (ps : List Str) : Prop where
  at_ : mg x = some (.ref a)
  keep : PySem.W.keepIn K (.ref a) = true
  binds : Binds K fd ps []
theorem fn_ok {P : Program} {w : World} {K : PySem.W.Frag} {mg : Str → Option Value} {base : Heap} {k : Nat} {f : Addr} {name qual : Str} {params : Arguments} {body : List Stmt} {scope : Scope} {dV kV doc pm cdv ct oc : Value} {an od : Option Addr}
    {osl : Array (Option Value)} {ps : List Str} {T : Tx} {Γ Γ' : Sm} {M : Str → Option Addr} {x : Str} {fd : Fd} (lk : K.lookup f = some ⟨oc, od, .func (PySem.W.fnOf name qual params body scope dV kV doc pm an cdv ct), osl⟩) (hcd : PySem.W.codeIn K cdv qual = true) (S : FnScope T.N ps scope)
    (hT : T.names = scope.names) (hps : fd.ps = ps.length) (hns : fd.ns = T.N.length) (hle : fd.ps ≤ fd.ns) (hc : chkSs T fd.body body = true) (hcall : ∀ as, Γ'.call x as = runF Γ fd as) (hino : Γ'.ino x = fd.ino)
    (hbi : ∀ y ∈ T.bi, mg y = none) (hin : ∀ f, Γ.ino f = T.ino.contains f) (hw : WhlOk Γ.whl)
    (hf : ∀ g ∈ T.fns, ∃ a fd ps, FnOk P w K mg base (L2.CX P w) k a fd ps (spF K (EvX M) Γ g) ∧ mg g = some (.ref a) ∧ PySem.W.keepIn K (.ref a) = true ∧ Binds K fd ps [])
    (hcls : ClsOk K mg M T.ex) (hmk : ∀ Y : Cx, Y.prog = P → Y.w = w → Y.K = K → Y.mg = mg → Y.base = base → Y.calm = true → Room k Y.A → ∀ c ∈ T.mks, ∀ (x : Expr) (xs : List Expr) (ta : TA) (p pos : Pos), Gl Y c → PA Y (x :: xs) ta → noStars (x :: xs) = true → PMk Y (.Call (.Name c p) (x :: xs) [] pos) (tMk (EvX M) c ta)) :
    FnOk P w K mg base (L2.CX P w) (k + 1) f (PySem.W.fnOf name qual params body scope dV kV doc pm an cdv ct) ps (spF K (EvX M) Γ' x) := by
  have hlen : ∀ vs H Q E, spF K (EvX M) Γ' x vs H Q E → vs.length = ps.length := by
    rintro vs H Q E ⟨as, F, P', en, h⟩
    rw [hcall] at h
    by_cases hl : as.length = fd.ps
    · rw [← en.length, hl, hps]
    · unfold runF at h
      rw [if_neg hl] at h
      exact h.elim
  refine fn_of lk hcd S hlen fun A outer s H vs Q E hr hsp => ?_
  have hl := hlen vs H Q E hsp
  obtain ⟨as, F, P', en, h⟩ := hsp
  rw [hcall, hino] at h
  rw [hino] at en
  have hal : as.length = fd.ps := by rw [en.length, hl, hps]
  have ok : SOk (cxOf (L2.CX P w) P w K mg base T.N qual scope f cdv A outer s H E) T Γ M :=
    { n := rfl, nd := S.nd, names := fun y kd hy => .inl (by rw [hT] at hy; exact hy), fn := fun _ _ => rfl, calm := rfl, room := by have := hr.un; show (A.deeper (envOfC qual scope s.heap.objs.size f cdv)).units + 200 < cLine; omega, bi := hbi, ino := hin,
      fns := fun g hg => let ⟨a, fd, ps, h1, h2, h3, h4⟩ := hf g hg; ⟨a, fd, ps, k, h1, hr, h2, h3, h4⟩, kind := S.kind, pass := passes_of (X := cxOf (L2.CX P w) P w K mg base T.N qual scope f cdv A outer s H E) rfl, whl := hw,
      cls := hcls, stk := rfl, frm := rfl, mke := fun Y e1 e2 e3 e4 e5 e6 e7 => hmk Y e1 e2 e3 e4 e5 e6 (by rw [e7]; exact hr) }
  have tk : Takes (cxOf (L2.CX P w) P w K mg base T.N qual scope f cdv A outer s H E) (fun cls d σ H => E cls d H) := takes_of (X := cxOf (L2.CX P w) P w K mg base T.N qual scope f cdv A outer s H E) rfl rfl rfl rfl
  refine ⟨_, chkSs_ok fd.body ok tk hc, frOf K H F P' fd.ino vs, as.map some ++ List.replicate (fd.ns - fd.ps) none, [], [], rfl, entry_rl en hns.symm hal hle, ⟨fun c hc => by simp at hc, fun q hq => by
    have : (frOf K H F P' fd.ino vs).pts = [] := rfl
    rw [this] at hq; simp at hq, fun q hq => (frOf_fix q hq).2.1⟩, fun q hq => ?_, ?_⟩
  · obtain ⟨_, h0, hh⟩ := frOf_fix q hq
    rw [h0]
    cases vs with
    | nil => cases hh
    | cons u us => cases hh; rfl
  · unfold runF at h
    rw [if_pos hal] at h
    have fin : ∀ {e1 : Env} {kk : Nat} {d : D} {v : V} {σ : L2.St} {H' : Hp}, (match outOf e1 fd.ino kk d with
        | .ok k d out => out.isSome = fd.ino ∧ ∀ v H', Exit (frOf K H F P' fd.ino vs) H' v k d out → Q v H'
        | .exn c xs => fd.ino = false ∧ ∀ cv dd H', EvX M c xs cv dd H' → (∃ F' lab', Good (frOf K H F P' fd.ino vs) H' F' lab') → E cv dd H'
        | .bad => False) → Rl (frOf K H F P' fd.ino vs) σ H' e1 [⟨.own kk, v, d⟩] → Fixed (frOf K H F P' fd.ino vs) σ → Q v H' := fun {e1 kk d v σ H'} ho s1 f1 => by
      unfold outOf at ho
      obtain ⟨F', lab', st⟩ := s1
      by_cases hi : fd.ino = true
      · rw [if_pos hi] at ho
        cases hg : e1.get 0 with
        | none => rw [hg] at ho; exact ho.elim
        | some o =>
          rw [hg] at ho
          refine ho.2 v H' ⟨F', lab', st.good, st.tmps.1, ?_⟩
          obtain ⟨k1, d1⟩ := o
          obtain ⟨u, hu, c⟩ := st.slots.2 0 k1 d1 (get_env hg)
          have hne : ∃ u0 us, vs = u0 :: us := by
            have ha := en.args
            rw [hi] at ha
            match as, vs, ha with
            | (_, _) :: _, u0 :: us, _ => exact ⟨u0, us, rfl⟩
            | [], _, ha => exact ha.elim
            | _ :: _, [], ha => exact ha.elim
          obtain ⟨u0, us, rfl⟩ := hne
          have hm : ((0 : Nat), u0) ∈ (frOf K H F P' fd.ino (u0 :: us)).fix := by rw [hi]; exact List.mem_cons_self
          have := f1 _ hm
          dsimp only at this
          rw [hu] at this
          cases this
          exact ⟨_, hm, c⟩
      · rw [if_neg hi] at ho
        exact ho.2 v H' ⟨F', lab', st.good, st.tmps.1, trivial⟩
    cases hr2 : exSs Γ fd.body [] (as.map some ++ List.replicate (fd.ns - fd.ps) none) with
    | rt kk d e1 => rw [hr2] at h; exact fun v σ H' s1 f1 => fin h s1 f1
    | nx e1 => rw [hr2] at h; exact fun σ H' s1 f1 => fin h (s1.sc rfl) f1
    | bk e1 => rw [hr2] at h; exact h.elim
    | ct e1 => rw [hr2] at h; exact h.elim
    | bad => rw [hr2] at h; exact h.elim
    | exn c xs e1 =>
      rw [hr2] at h
      refine fun cv dd σ H' ev s1 f1 => ?_
      dsimp only at h
      split at h
      · rename_i heq
        split at heq <;> cases heq
      · rename_i heq
        split at heq
        · cases heq
        · cases heq
          obtain ⟨F', lab', st⟩ := s1
          exact h.2 cv dd H' ev ⟨F', lab', st.good⟩
      · exact h.elim
end VI
set_option autoImplicit true
set_option Elab.async false
set_option linter.all false
set_option maxRecDepth 100000
set_option maxHeartbeats 4000000
namespace VI
open PySem PySem.Spec PyProof.Rows L2
abbrev clsName : Str := "__class__"
structure SupScope (N : List Str) (sc : Scope) : Prop where
  kind : sc.kind = .function
  co : sc.isCoroutine = false
  gen : sc.isGenerator = false
  nd : N.Nodup
  par : ∀ x ∈ N, sc.names.lookup x = some .local
  ncell : ∀ y ∈ sc.names, y.2 ≠ .cell
  free : ∀ x, sc.names.lookup x = some .free → x = clsName
  sup : sc.names.lookup ("super" : Str) = some .globalImplicit
  cl : sc.names.lookup clsName = some .free
def cxS (P : Program) (w : World) (K : PySem.W.Frag) (mg : Str → Option Value) (base : Heap) (N : List Str) (qual : Str) (scope : Scope) (f : Addr) (cd : Value) (cc : Addr) (A : Around) (outer : List PySem.Env) (s : Shared) (H : Hp) : Cx where
  prog := P
  w := w
  K := K
  mg := mg
  base := base
  A := A.deeper (PySem.W.ksEnv qual scope s.heap.objs.size f cd cc)
  N := N
  s_0 := s
  H_0 := H
  env := PySem.W.ksEnv qual scope s.heap.objs.size f cd cc
  outer := outer
  stack := PySem.W.ksEnv qual scope s.heap.objs.size f cd cc :: outer
  ex := []
  calm := true
  fn := fun x => x != clsName
  pn := []
  xe := fun _ _ => False
theorem lookup_nd : ∀ {l : List (Str × Value)} {y : Str} {u : Value}, (l.map (·.1)).Nodup → (y, u) ∈ l → l.lookup y = some u
  | [], _, _, _, h => nomatch h
  | (z, v) :: l, y, u, nd, h => by
    have n := List.nodup_cons.mp nd
    rcases List.mem_cons.mp h with e | e
    · cases e
      simp [List.lookup]
    · have ne : y ≠ z := fun q => n.1 (q ▸ List.mem_map_of_mem (f := (·.1)) e)
      have b : (y == z) = false := by simpa using ne
      simp only [List.lookup, b]
      exact lookup_nd n.2 e
theorem zip_at : ∀ {ps : List Str} {us : List Value} {i : Nat} {y : Str} {u : Value}, ps[i]? = some y → us[i]? = some u → (y, u) ∈ ps.zip us
  | [], _, _, _, _, h, _ => by simp at h
  | _ :: _, [], _, _, _, _, h => by simp at h
  | p :: ps, w :: us, 0, y, u, h, g => by
    simp at h g
    subst h; subst g
    exact List.mem_cons_self
  | p :: ps, w :: us, i + 1, y, u, h, g => List.mem_cons_of_mem _ (zip_at (i := i) (by simpa using h) (by simpa using g))
theorem bound_at {ps : List Str} {us : List Value} {i : Nat} {y : Str} {u : Value} (nd : ps.Nodup) (hl : ps.length = us.length) (h : ps[i]? = some y) (g : us[i]? = some u) : (ps.zip us).reverse.lookup y = some u := by
  refine lookup_nd ?_ (List.mem_reverse.mpr (zip_at h g))
  rw [List.map_reverse, List.map_fst_zip (by omega)]
  exact (List.reverse_perm ps).nodup_iff.mpr nd
theorem start_get {N : List Str} {vs : List V} {i : Nat} {v : V} (h : (L2.start N vs)[i]? = some (some v)) : vs[i]? = some v := by
  unfold L2.start at h
  have hi : i < vs.length := Nat.lt_of_not_le fun hi => by
    rw [List.getElem?_append_right (by simpa using hi), List.getElem?_replicate] at h
    split at h <;> cases h
  rw [List.getElem?_append_left (by simpa using hi), List.getElem?_map] at h
  cases e : vs[i]? with
  | none => rw [e] at h; cases h
  | some a => rw [e] at h; cases h; rfl
section
variable {P : Program} {w : World} {K : PySem.W.Frag} {mg : Str → Option Value} {base : Heap} {N : List Str} {qual : Str} {scope : Scope} {f cc D : Addr} {cd cl : Value} {cld : Option Addr} {csl : Array (Option Value)} {A : Around} {outer : List PySem.Env} {s : Shared} {H : Hp} {us : List Value} {vs : List V} {h1 : Heap}
theorem inv_sup (S : SupScope N scope) (hcc : K.lookup cc = some ⟨cl, cld, .cell (some (.ref D)), csl⟩) (hd : A.handled = none) (e0 : Env0 P w K mg base A outer s H) (hl : vs.length = N.length) (r : Vals vs us)
    (hns : h1.Ns s.heap.objs.size fun x => (N.zip us).reverse.lookup x) (hk : ∀ b o, s.heap.get? b = some o → h1.get? b = some o) (tk : Nat) :
    Inv (cxS P w K mg base N qual scope f cd cc A outer s H) [] (L2.start N vs) H { s with heap := h1, toks := tk } := by
  have no : ∀ b : Addr, b ∉ (cxS P w K mg base N qual scope f cd cc A outer s H).ex := fun b z => nomatch z
  have one : ∀ {x c}, (PySem.W.ksEnv qual scope s.heap.objs.size f cd cc).cells.lookup x = some c → x = clsName ∧ c = cc := fun {x c} h => by
    have h' : ([(clsName, cc)] : List (Str × Addr)).lookup x = some c := h
    by_cases e : x = clsName
    · subst e
      simp [List.lookup] at h'
      exact ⟨rfl, h'.symm⟩
    · have b : (x == clsName) = false := by simpa using e
      simp [List.lookup, b] at h'
  have hcb : base.get? cc = some ⟨cl, cld, .cell (some (.ref D)), csl⟩ := e0.mod.kin _ _ hcc
  have hcs := e0.bs _ _ hcb
  refine ⟨⟨e0.mod, S.kind, rfl, rfl, Nat.le_refl _, fun x y c h g => (one h).1.trans (one g).1.symm, fun x hx => ?_, fun x c hf h => ?_, fun _ => hd, Around.frames_deeper e0.frames, .inr ⟨rfl, rfl⟩, fun b z => absurd z (no b), e0.bs, e0.bsz, fun b _ _ => no b, fun b z => absurd z (no b), e0.funs, e0.frf⟩,
    rfl, e0.bare, Un.kept hk, ⟨_, hns, fun i y v g1 g2 g3 => ?_⟩, fun x c h => ⟨some (.ref D), ?_⟩, e0.hok.fresh (Nat.le_refl _), fun x c h => ?_, fun p hp => (nomatch hp), e0.hok.kept hk, ?_⟩
  · have hx : scope.names.lookup x = some .cell ∨ scope.names.lookup x = some .free := hx
    rcases hx with hx | hx
    · exact absurd rfl (S.ncell _ (PySem.mem_of_lookup hx))
    · exact ⟨cc, by rw [S.free x hx]; show ([(clsName, cc)] : List (Str × Addr)).lookup clsName = some cc; simp [List.lookup]⟩
  · obtain ⟨e, _⟩ := one h
    rw [e] at hf
    exact absurd hf (by show ¬ ((clsName != clsName) = true); simp)
  · obtain ⟨u, hu, rv⟩ := r.get (start_get g2)
    exact ⟨u, rv, .inl ⟨S.par y (List.mem_of_getElem? g1), bound_at S.nd (by rw [← hl, r.length]) g1 hu⟩⟩
  · rw [(one h).2]
    exact ⟨_, hk _ _ hcs.1, rfl⟩
  · rw [(one h).2]
    exact hcs.2
  · show (L2.start N vs).length = N.length
    unfold L2.start
    rw [List.length_append, List.length_map, List.length_replicate]
    omega
end
end VI
set_option autoImplicit true
set_option Elab.async false
set_option linter.all false
set_option maxRecDepth 100000
set_option maxHeartbeats 4000000
namespace VI
open PySem PySem.Spec PyProof.Rows L2
structure SupC (K : PySem.W.Frag) (C : Addr) : Prop where
  ox : OexC K C
  sub : PySem.W.mroIn K C (.ref C) = some true
  sup : PySem.W.ks_superIn K C C "__init__" = some (some (.builtin "ValueError.__init__"))
  ve : PySem.W.subIn K (.ref C) (.type "ValueError") = some true
  st : PySem.W.nsIn K PySem.cStatics "thirdparty.any" = some none
theorem mw_call {P : Program} {w : World} {K : PySem.W.Frag} {A : Around} {E : Value → Shared → Prop} {s : Shared} {a u C t0 : Addr} {rest : List Value} {Q : Value → Shared → Prop} (T : OexC K C) (KX : K.In s.heap)
    (hu : s.heap.get? u = some (PySem.W.kxs_mw "ValueError.__init__" a)) (ho : s.heap.get? a = some ({ cls := .ref C, dict := none, data := .fields #[.ref t0, .none, .none, .none, .bool false, .none] } : Obj)) (hz : rest.length ≤ sizeLine)
    (h : ∀ (h' : Heap) (t1 : Addr), (∀ b o, b ≠ a → s.heap.get? b = some o → h'.get? b = some o) → h'.get? a = some ({ cls := .ref C, dict := none, data := .fields #[.ref t1, .none, .none, .none, .bool false, .none] } : Obj) → Q .none { s with heap := h' }) :
    wpAny (model P w) A (call (.ref u) rest) Q E s := by
  obtain ⟨nm, q, N, bs, bm, sn, sub, ab, col, dd, k0, k1, k2, k3, k5, hC, hbm⟩ := T.cls
  have hC' := KX _ _ hC
  obtain ⟨hp, g, d, tk, os⟩ := s
  have B := F.excBase_ValueError
  refine wpAny_call (codeAny_of_tree ?_)
  show wpAny _ A.in1 (callAny (.ref u) ⟨rest, []⟩) _ _ _
  unfold callAny
  refine wpAny_bind (wpAny_load hu ?_)
  refine PySem.W.KFB.if_so (by rfl) (wpAny_bind (PySem.W.check_bound_init B.toExcCallFacts hC' ho rfl (wpAny_bind (wpAny_pure (wpAny_pure ⟨plainId_quiet B.init.plain _, codeAny_builtin B.initEntry ?_⟩)))))
  exact PySem.W.exc_init_tree (cls := .ref C) (t0 := t0) (dv := none) (c2 := .none) (c3 := .none) (b4 := .bool false) ho hz fun h' k e1 _ => h h' _ k e1
theorem mcall_eq {o : Expr} {name : Str} {apos pos : Pos} {e : Expr} {es : List Expr} {env : PySem.Env} (hs : noStars (e :: es) = true) (hz : (e :: es).length < 20) (hl : (apos.endLine == pos.line) = true) :
    eval (.Call (.Attribute o name apos) (e :: es) [] pos) env = (do
      let ov ← attributeBase o name env (eval o env)
      standAt apos.atName
      let (f, first) ← holding [ov] (getMethod ov name (do return (← importBound o env).getD true))
      callWith pos f first (backTo pos (starEach (e :: es) env)) []) := by
  have hf : methodCallForm ((e :: es).length + ([] : List Keyword).length) (backTo pos (starEach (e :: es) env)) (backToKw pos (keywordEach [] env)) = true := by
    unfold methodCallForm
    rw [plain_all hs]
    have z : (e :: es).length < 30 := by omega
    simp only [Bool.true_and, List.length_nil, Nat.add_zero]
    rw [show backToKw pos (keywordEach [] env) = [] from rfl]
    simp only [List.all_nil, Bool.true_and, List.isEmpty_nil, if_true, Nat.add_zero]
    exact decide_eq_true z
  rw [arm_eval_Call]
  unfold methodCall calleeOf methodCallPos
  rw [hf]
  simp only [hl, if_true, Bool.not_true, Bool.false_or, pure_bind]
  rfl
section
variable {P : Program} {w : World} {K : PySem.W.Frag} {mg : Str → Option Value} {base : Heap} {N : List Str} {name qual : Str} {params : Arguments} {body : List Stmt} {scope : Scope} {dV kV doc pm ct oc cl ccl : Value} {an od cld cdd : Option Addr} {osl csl ccs : Array (Option Value)} {f cc cda C : Addr} {A : Around} {outer : List PySem.Env} {s0 s : Shared} {H0 H : Hp}
theorem sup_exec {a : Addr} {ar : Arg} {fv : Array Value} {file : Str} {tf : Tok} {ea : Expr} {es : List Expr} {ta : TA} {R : Hp → Prop} {σ : L2.St} {p0 p1 p2 p3 p4 : Pos} (S : SupScope N scope) (T : SupC K C)
    (lk : K.lookup f = some ⟨oc, od, .func (PySem.W.ksFn name qual params body scope dV kV doc pm an (.ref cda) ct cc), osl⟩) (hcc : K.lookup cc = some ⟨cl, cld, .cell (some (.ref C)), csl⟩)
    (hcode : K.lookup cda = some ⟨ccl, cdd, .fields fv, ccs⟩) (hfv : fv[2]? = some (.str file tf)) (hfile : ((P.main.file : Str) == file) = true) (htop : (P.main.scope.names.lookup ("super" : Str)).isSome = false) (hms : mg "super" = none)
    (har : (params.posonlyargs ++ params.args).head? = some ar) (hN : N[0]? = some ar.arg)
    (I : Inv (cxS P w K mg base N qual scope f (.ref cda) cc A outer s0 H0) [] σ H s) (hσ : σ[0]? = some (some (.ref a))) (e : H a = some (exo a C none))
    (ha : PA (cxS P w K mg base N qual scope f (.ref cda) cc A outer s0 H0) (ea :: es) ta) (hst : noStars (ea :: es) = true) (hlen : (ea :: es).length < 20) (hline : (p2.endLine == p3.line) = true)
    (h : ta σ H fun us H1 => us.length ≤ 1000 ∧ H1 a = some (exo a C none) ∧ R H1) :
    PySem.wpAt (model P w) (A.deeper (PySem.W.ksEnv qual scope s0.heap.objs.size f (.ref cda) cc)) (.func body (PySem.W.ksEnv qual scope s0.heap.objs.size f (.ref cda) cc))
      (exec (.Expr (.Call (.Attribute (.Call (.Name "super" p0) [] [] p1) "__init__" p2) (ea :: es) [] p3) p4) (PySem.W.ksEnv qual scope s0.heap.objs.size f (.ref cda) cc))
      (fun fl s' => fl = .next ∧ ∃ H1, Inv (cxS P w K mg base N qual scope f (.ref cda) cc A outer s0 H0) [] σ H1 s' ∧ R H1) (fun _ _ => False) s := by
  obtain ⟨nm, q, N0, bs, bm, sn, sub, ab, col, dd, k0, k1, k2, k3, k5, hC, hbm⟩ := T.ox.cls
  have hcl : PySem.W.clsIn K C = some { name := nm, bases := bs, mro := .ref C :: bm, ns := N0, qualname := q, hasDict := true, slotNames := sn, subclasses := sub, abstract := ab, collection := col, hasDel := false } := by unfold PySem.W.clsIn; rw [hC] <;> rfl
  have KX : K.In s.heap := I.kIn
  obtain ⟨m, hn, hl⟩ := I.loc
  have hself : m ar.arg = some (.ref a) := by
    obtain ⟨u, r, z⟩ := hl 0 ar.arg (.ref a) hN hσ (.inl (S.par _ (List.mem_of_getElem? hN)))
    obtain rfl : u = Value.ref a := r
    rcases z with ⟨_, z⟩ | ⟨z, _⟩
    · exact z
    · have y : scope.names.lookup ar.arg = some .cell ∨ scope.names.lookup ar.arg = some .free := z
      rw [S.par _ (List.mem_of_getElem? hN)] at y
      rcases y with y | y <;> cases y
  obtain ⟨mb, hb1, hb2⟩ := I.mod.blt
  obtain ⟨t1, ho⟩ := exo_at I.hok e
  have hsup : (PySem.W.ksEnv qual scope s0.heap.objs.size f (.ref cda) cc).kindOf "super" = some .globalImplicit := S.sup
  refine ks_wpAt_Expr_any (ks_wpAt_MethodCall ?_ (mcall_eq hst hlen hline)) I.quiet
  obtain ⟨hp, g, d, tk, os⟩ := s
  refine ks_wpAt_super_base hsup S.cl (by decide) rfl (KX _ _ lk) rfl har rfl (KX _ _ hcode) rfl hfv hfile htop ?_
  refine PySem.W.ks_loadName_global S.kind hsup (Calls.loadGlobal_builtin (I.mod.glob.keeps I.bk) hms (hb1.keeps I.bk) ((hb2 _ (by decide)).trans (by first | rfl | decide +kernel)) ⟨rfl, ?_⟩)
  refine wpAny_loadName_free S.kind S.cl rfl ⟨_, KX _ _ hcc, rfl⟩ ?_
  refine wpAny_loadName_local S.kind (S.par _ (List.mem_of_getElem? hN)) hn hself ?_
  refine ks_wpAny_isType_cls (KX _ _ hC) rfl ⟨rfl, ?_⟩
  refine ks_wpAny_call_super (KX _ _ hC) rfl ho rfl (fun c z => nomatch z) (PySem.W.looks_mroIn KX T.sub) (fun h1 e1 k1 => ?_)
  have KX1 : K.In h1 := KX.keeps k1
  have hac : a ≠ C := fun z => by
    have y := (I.bs C _ (I.ok.mod.kin _ _ hC)).2
    rw [← z, e] at y
    cases y
  have ia : PySem.W.InstAt h1 a _ C none := ⟨k1 _ _ ho, rfl, rfl, trivial⟩
  have hsu := T.sup
  unfold PySem.W.ks_superIn at hsu
  rw [hcl] at hsu
  refine PySem.W.kxs_getMethod PySem.W.kxs_ValueError e1 (PySem.W.looks_opaque KX1 T.st) (l₀ := .ref C :: bm) (fun A Q E s k q => wpAny_bind ((PySem.W.looks_clsIn KX1 hcl) A _ E s k (wpAny_pure q))) rfl KX1 hsu (ia.type.andThen (PySem.W.looks_subIn KX1 T.ve)) hac (by decide) ?_
  have I1 := I.kept (t' := tk) k1
  have ku : (h1.push (PySem.W.kxs_mw "ValueError.__init__" a)).get? h1.objs.size = some (PySem.W.kxs_mw "ValueError.__init__" a) := Heap.get?_push_at rfl rfl
  have I2 : Inv (cxS P w K mg base N qual scope f (.ref cda) cc A outer s0 H0) [(h1.objs.size, PySem.W.kxs_mw "ValueError.__init__" a)] σ H ⟨h1.push (PySem.W.kxs_mw "ValueError.__init__" a), g, d, tk + 1, os⟩ :=
    (I1.kept (t' := tk + 1) fun b o q => Heap.get?_push_of_some _ q).pins_of fun p hp => by
      obtain rfl := List.mem_singleton.mp hp
      exact ⟨ku, I1.hok.fresh (Nat.le_refl _), Nat.ne_of_gt I1.lt, I1.nofs (Nat.le_refl _), fun v z => nomatch z⟩
  have hA := ha.run p3 _ _ σ H _ I2 h
  obtain ⟨n1, n2⟩ := noStars_cons hst
  have he := star_cons (env := PySem.W.ksEnv qual scope s0.heap.objs.size f (.ref cda) cc) (es := es) n1
  show wpAny _ _ (callWith p3 (.ref h1.objs.size) [] (backTo p3 (starEach (ea :: es) (PySem.W.ksEnv qual scope s0.heap.objs.size f (.ref cda) cc))) []) _ _ _
  have hA' : wpAny (model P w) (A.deeper (PySem.W.ksEnv qual scope s0.heap.objs.size f (.ref cda) cc)) (spliced (backTo p3 (starEach (ea :: es) (PySem.W.ksEnv qual scope s0.heap.objs.size f (.ref cda) cc)))) _ (fun _ _ => False) _ := hA
  rw [he] at hA' ⊢
  refine PySem.W.kxs_callWith (i := "ValueError.__init__") (x := a) (by show (false || (backTo p3 (starEach es _)).any (·.1)) = false; rw [plain_any n2]; rfl) (Calls.evalArgs_plain (thn hA' fun us s2 ⟨vs, H2, I3, r3, hz, e3, q3⟩ => ?_))
  have pu := (I3.pin _ (List.mem_append_right _ List.mem_cons_self)).1
  obtain ⟨t2, ho2⟩ := exo_at I3.hok e3
  refine ⟨pu, mw_call T.ox I3.kIn pu ho2 (by show us.length ≤ sizeLine; rw [← r3.length, sizeLine_eq]; omega) fun h' t3 kk hx => ?_⟩
  have J := I3.write (t' := s2.toks) (x := a) (e := a) (o := exo a C none) (by rw [e3]; exact True.intro) (.inl rfl) kk ⟨_, hx⟩ (exo_ok hx)
  have eu : upd H2 a (exo a C none) = H2 := by
    funext b
    by_cases hb : b = a
    · rw [hb, upd_same, e3]
    · rw [upd_ne hb]
  rw [eu] at J
  exact ⟨rfl, H2, J.pins_of (fun p hp => nomatch hp), q3⟩
theorem sup_fn {k : Nat} {sp : Sp} {ar : Arg} {fv : Array Value} {file : Str} {tf : Tok} {ea : Expr} {es : List Expr} {rest : List Stmt} {p0 p1 p2 p3 p4 : Pos} (S : SupScope N scope) (T : SupC K C)
    (hbd : body = .Expr (.Call (.Attribute (.Call (.Name "super" p0) [] [] p1) "__init__" p2) (ea :: es) [] p3) p4 :: rest)
    (lk : K.lookup f = some ⟨oc, od, .func (PySem.W.ksFn name qual params body scope dV kV doc pm an (.ref cda) ct cc), osl⟩) (hcd : PySem.W.codeIn K (.ref cda) qual = true) (hcc : K.lookup cc = some ⟨cl, cld, .cell (some (.ref C)), csl⟩)
    (hcode : K.lookup cda = some ⟨ccl, cdd, .fields fv, ccs⟩) (hfv : fv[2]? = some (.str file tf)) (hfile : ((P.main.file : Str) == file) = true) (htop : (P.main.scope.names.lookup ("super" : Str)).isSome = false) (hms : mg "super" = none)
    (har : (params.posonlyargs ++ params.args).head? = some ar) (hN : N[0]? = some ar.arg) (hst : noStars (ea :: es) = true) (hlen : (ea :: es).length < 20) (hline : (p2.endLine == p3.line) = true)
    (len : ∀ vs H Q E, sp vs H Q E → vs.length = N.length)
    (hbody : ∀ (A : Around) (outer : List PySem.Env) (s : Shared) (H : Hp) (vs : List V) (Q : VK) (E : XK), Room k (A.deeper (PySem.W.ksEnv qual scope s.heap.objs.size f (.ref cda) cc)) → sp vs H Q E →
      ∃ (a : Addr) (ws : List V) (ta : TA) (t : TS), vs = .ref a :: ws ∧ H a = some (exo a C none) ∧ PA (cxS P w K mg base N qual scope f (.ref cda) cc A outer s H) (ea :: es) ta ∧ PSs (cxS P w K mg base N qual scope f (.ref cda) cc A outer s H) rest t ∧
        ta (L2.start N vs) H fun us H1 => us.length ≤ 1000 ∧ H1 a = some (exo a C none) ∧ t { nx := fun _ H' => Q .non H', rt := Q } (L2.start N vs) H1) :
    FnOk P w K mg base (fun _ _ _ _ _ _ => False) (k + 1) f (PySem.W.ksFn name qual params body scope dV kV doc pm an (.ref cda) ct cc) N sp := by
  refine ⟨len, fun A outer s H args us vs Q E hr e0 hb r hsp => ?_⟩
  have hl := len _ _ _ _ hsp
  have KX : K.In s.heap := e0.mod.kin.keeps fun b o e => (e0.bs b o e).1
  have lim : s.heap.NoLimit := e0.mod.nolimit.keeps fun b o e => (e0.bs b o e).1
  refine ks_codeAny_call_defAt (body := body) (binds := N.zip us) hr.depth (KX _ _ lk) rfl lim (PySem.W.codeRec_of KX hcd) rfl hb S.ncell (fun y hy => S.par _ (List.of_mem_zip hy).1) (fun h1 hns hk => ?_) S.co S.gen S.kind
  obtain ⟨a, ws, ta, t, ev, ea0, hA, hR, hq⟩ := hbody A outer s H vs Q E (hr.deeper _) hsp
  have I := inv_sup (qual := qual) (f := f) (cd := .ref cda) S hcc hr.hd e0 hl r hns hk (s.toks + (N.zip us).length)
  have st0 : (L2.start N vs)[0]? = some (some (V.ref a)) := by
    rw [ev]
    rfl
  subst hbd
  refine ks_wpAt_execs_cons (ks_wpAt_mono (sup_exec (R := fun H1 => t { nx := fun _ H' => Q .non H', rt := Q } (L2.start N vs) H1) S T lk hcc hcode hfv hfile htop hms har hN I st0 ea0 hA hst hlen hline hq) (fun fl s' hs => ?_) fun _ _ z => z.elim)
  obtain ⟨rfl, H1, J, q1⟩ := hs
  refine wpAt_of_wpAny (wpAny_mono (hR.run [] s' _ H1 _ J q1) (fun fl s2 hs => ?_) fun _ _ z => z.elim)
  cases fl with
  | ret u =>
    obtain ⟨v, σ', H', J2, rv, q⟩ := hs
    exact ⟨v, H', J2.os, J2.bare, J2.base, J2.hok, rv, q⟩
  | next =>
    obtain ⟨σ', H', J2, q⟩ := hs
    exact ⟨.non, H', J2.os, J2.bare, J2.base, J2.hok, rfl, q⟩
  | brk =>
    obtain ⟨_, _, _, q⟩ := hs
    exact False.elim q
  | cont =>
    obtain ⟨_, _, _, q⟩ := hs
    exact False.elim q
end
end VI
set_option autoImplicit true
set_option Elab.async false
set_option linter.all false
set_option maxRecDepth 100000
set_option maxHeartbeats 4000000
namespace VI
open PySem PySem.Spec PyProof.Rows L2
def smV : V → Prop
  | .str s => s.length ≤ 1000
  | .int i => -(2 ^ 64) < i ∧ i < 2 ^ 64
  | _ => False
theorem smV_of {d : D} {v : V} (h : isSm d = true) (hv : scD d = some v) : smV v := by
  cases d with
  | int i => cases hv; exact of_decide_eq_true (p := -(2 ^ 64) < i ∧ i < 2 ^ 64) h
  | str s => cases hv; exact of_decide_eq_true (p := s.length ≤ 1000) h
  | _ => cases h
def SayOk (N : List Str) (scope : Scope) (ea : Expr) : Prop :=
  ∀ Y : Cx, Y.N = N → Y.env.scope = scope → ∃ ta : TA, PA Y [ea] ta ∧ ∀ (σ : L2.St) (H : Hp) (v : V) (Q : List V → Hp → Prop), σ[1]? = some (some v) → smV v → (∀ us, us.length ≤ 1 → Q us H) → ta σ H Q
theorem log2_sm {i : Int} (h1 : -(2 ^ 64) < i) (h2 : i < 2 ^ 64) : i.natAbs.log2 < 1920 := by
  by_cases z : i.natAbs = 0
  · rw [z]; decide
  · have : i.natAbs.log2 < 64 := (Nat.log2_lt z).mpr (by omega)
    omega
theorem say_f {N : List Str} {scope : Scope} {pre f : Str} {j : Nat} {p1 p2 p3 p4 : Pos} (hN : N[1]? = some f) (hk : scope.names.lookup f = some .local) (hp : pre.length ≤ 1000) (hd : (f == ("__debug__" : Str)) = false) (hd2 : (f == ("__classdict__" : Str)) = false) :
    SayOk N scope (.JoinedStr [.Constant (.str pre) j p1, .FormattedValue (.Name f p2) (-1) none p3] p4) := fun Y h1 h2 => by
  have hj := pe_joined (X := Y) (pos := p4) (PJ.cons (pe_str (x := pre) (j := j) (pos := p1)) (PJ.cons (pe_fmt (pos := p3) (pe_var (X := Y) (i := 1) (x := f) (pos := p2) (by rw [h1]; exact hN) (.inl (by rw [h2]; exact hk)) hd hd2)) PJ.nil))
  refine ⟨_, pa_cons hj pa_nil, fun σ H v Q hs hv q => ?_⟩
  have e0 : Str.empty ++ pre = pre := by
    cases pre with
    | mk c =>
      show PySem.Str.mk (#[] ++ c) = _
      simp
  have len : ∀ a b : Str, (a ++ b).length = a.length + b.length := fun a b => by
    show (a ++ b).cps.size = a.cps.size + b.cps.size
    rw [PySem.Str.cps_append, Array.size_append]
  show ∃ y : Str, V.str pre = V.str y ∧ (Str.empty ++ y).length ≤ sizeLine ∧ _
  refine ⟨pre, rfl, by rw [e0, sizeLine_eq]; omega, ?_⟩
  rw [e0]
  show ∃ v', σ[1]? = some (some v') ∧ _
  refine ⟨v, hs, ?_⟩
  cases v with
  | str s =>
    have hv : s.length ≤ 1000 := hv
    refine .inl ⟨s, rfl, by rw [sizeLine_eq]; omega, ?_⟩
    exact ⟨s, rfl, by rw [len, sizeLine_eq]; omega, q _ (Nat.le_refl _)⟩
  | int i =>
    have hv : -(2 ^ 64) < i ∧ i < 2 ^ 64 := hv
    refine .inr ⟨i, rfl, log2_sm hv.1 hv.2, ?_⟩
    refine ⟨_, rfl, ?_, q _ (Nat.le_refl _)⟩
    rw [len]
    have z : (PySem.Str.ofString (toString i)).length ≤ 1921 := int_text_len_1921 (log2_sm hv.1 hv.2)
    have z' : (((toString i : String) : Str)).length ≤ 1921 := z
    show pre.length + _ ≤ _
    rw [sizeLine_eq]
    omega
  | _ => exact hv.elim
def spOne (K : PySem.W.Frag) (C : Addr) (f : Str) : Sp := fun vs H Q _ => ∃ (a : Addr) (v : V), vs = [.ref a, v] ∧ smV v ∧ H a = some (exo a C none) ∧ ∀ d, H d = none → d ≠ a → Q .non (upd (upd H d (exd d [(f, v)])) a (exo a C (some d)))
section
variable {P : Program} {w : World} {K : PySem.W.Frag} {mg : Str → Option Value} {base : Heap} {name qual self f : Str} {params : Arguments} {scope : Scope} {dV kV doc pm ct oc cl ccl : Value} {an od cld cdd : Option Addr} {osl csl ccs : Array (Option Value)} {fI cc cda C : Addr}
theorem sup_one {k : Nat} {ar : Arg} {fv : Array Value} {file : Str} {tf : Tok} {ea : Expr} {p0 p1 p2 p3 p4 p5 p6 p7 p8 : Pos} (S : SupScope [self, f] scope) (T : SupC K C)
    (lk : K.lookup fI = some ⟨oc, od, .func (PySem.W.ksFn name qual params [.Expr (.Call (.Attribute (.Call (.Name "super" p0) [] [] p1) "__init__" p2) [ea] [] p3) p4, .Assign [.Attribute (.Name self p5) f p6] (.Name f p7) p8] scope dV kV doc pm an (.ref cda) ct cc), osl⟩)
    (hcd : PySem.W.codeIn K (.ref cda) qual = true) (hcc : K.lookup cc = some ⟨cl, cld, .cell (some (.ref C)), csl⟩)
    (hcode : K.lookup cda = some ⟨ccl, cdd, .fields fv, ccs⟩) (hfv : fv[2]? = some (.str file tf)) (hfile : ((P.main.file : Str) == file) = true) (htop : (P.main.scope.names.lookup ("super" : Str)).isSome = false) (hms : mg "super" = none)
    (har : (params.posonlyargs ++ params.args).head? = some ar) (hself : ar.arg = self) (hst : noStars [ea] = true) (hline : (p2.endLine == p3.line) = true)
    (say : SayOk [self, f] scope ea) (hno : PySem.W.findIn K (.ref C) f = some none)
    (hd1 : (self == ("__debug__" : Str)) = false) (hd2 : (self == ("__classdict__" : Str)) = false) (hd3 : (f == ("__debug__" : Str)) = false) (hd4 : (f == ("__classdict__" : Str)) = false) :
    FnOk P w K mg base (fun _ _ _ _ _ _ => False) (k + 1) fI (PySem.W.ksFn name qual params [.Expr (.Call (.Attribute (.Call (.Name "super" p0) [] [] p1) "__init__" p2) [ea] [] p3) p4, .Assign [.Attribute (.Name self p5) f p6] (.Name f p7) p8] scope dV kV doc pm an (.ref cda) ct cc) [self, f] (spOne K C f) := by
  refine sup_fn S T rfl lk hcd hcc hcode hfv hfile htop hms har (by rw [hself]; rfl) hst (by show 1 < 20; decide) hline (fun vs H Q E ⟨a, v, ev, _⟩ => by rw [ev]; rfl) fun A outer s H vs Q E hr ⟨a, v, ev, hv, ea0, q⟩ => ?_
  obtain ⟨ta, hA, hta⟩ := say (cxS P w K mg base [self, f] qual scope fI (.ref cda) cc A outer s H) rfl rfl
  have ps := ps_ost (X := cxS P w K mg base [self, f] qual scope fI (.ref cda) cc A outer s H) (f := f) (p' := p6) (pos := p8) (pe_var (i := 0) (pos := p5) rfl (.inl (S.par _ (by simp))) hd1 hd2) (pe_var (i := 1) (pos := p7) rfl (.inl (S.par _ (by simp))) hd3 hd4)
  refine ⟨a, [v], ta, _, ev, ea0, hA, pss_cons ps pss_nil, ?_⟩
  subst ev
  refine hta _ _ v _ rfl hv fun us hu => ⟨by omega, ea0, ?_⟩
  exact ⟨v, rfl, .ref a, rfl, a, C, rfl, T.ox, hno, .inl ⟨ea0, fun d n ne => q d n ne⟩⟩
end
theorem pmk_up {X : Cx} {x : Expr} {es : List Expr} {ta : TA} (h : PA X (x :: es) ta) : PA X (x :: es) (fun σ H Q => ∃ Q1, ta σ H Q1 ∧ ∀ vs H', Q1 vs H' → Q vs H') :=
  ⟨fun pos pins s σ H Q I ⟨Q1, h1, h2⟩ => thn (h.run pos pins s σ H Q1 I h1) fun us s' ⟨vs, H', J, r, q⟩ => ⟨vs, H', J, r, h2 _ _ q⟩⟩
theorem pmk_one {Y : Cx} {c f : Str} {M : Str → Option Addr} {C fI : Addr} {k : Nat} {fd : FuncData} {N : List Str} {x : Expr} {xs : List Expr} {ta : TA} {p pos : Pos} (hfs : fieldsOf c = [f]) (hM : M c = some C) (T : SupC Y.K C) (iC : PySem.W.findIn Y.K (.ref C) "__init__" = some (some (.ref fI))) (tI : PySem.W.typeIn Y.K (.ref fI) = some (.type "function"))
    (F1 : FnOk Y.prog Y.w Y.K Y.mg Y.base (fun _ _ _ _ _ _ => False) k fI fd N (spOne Y.K C f)) (hr : Room (k + 1) Y.A) (hb : Binds Y.K fd N []) (hg : Gl Y c) (hm : Y.mg c = some (.ref C)) (ha : PA Y (x :: xs) ta) (hns : noStars (x :: xs) = true) (hdb : (c == ("__debug__" : Str)) = false) :
    PMk Y (.Call (.Name c p) (x :: xs) [] pos) (tMk (EvX M) c ta) := by
  obtain ⟨n1, n2⟩ := noStars_cons hns
  have main := pmk_oex (X := Y) (p := p) (pos := pos) (dvs := []) (ds := []) T.ox iC tI F1 hr hb .nil (fun _ _ _ _ _ _ _ z => z.elim) hg hm (pmk_up ha) hdb (star_cons n1) (plain_any n2)
  intro pins s σ H Q I h
  refine main pins s σ H Q I ⟨_, h, fun vs H1 ⟨ds, hl, hsm, hvs, q⟩ => ?_⟩
  rw [hfs] at hl
  obtain ⟨d0, rfl⟩ : ∃ d0, ds = [d0] := by
    cases ds with
    | nil => cases hl
    | cons d0 r =>
      cases r with
      | nil => exact ⟨d0, rfl⟩
      | cons _ _ => simp at hl
  obtain ⟨v, rfl⟩ : ∃ v, vs = [v] := by
    cases vs with
    | nil => cases hvs
    | cons v r =>
      cases r with
      | nil => exact ⟨v, rfl⟩
      | cons _ _ => simp at hvs
  have hv : scD d0 = some v := by simpa using hvs
  have hsm0 : isSm d0 = true := by simpa using hsm
  refine ⟨by show 1 ≤ 1000; decide, fun a na => ⟨a, v, rfl, smV_of hsm0 hv, upd_same, fun d nd ne => ⟨rfl, d, [(f, v)], upd_same, ?_, ?_, ?_⟩⟩⟩
  · rw [upd_ne ne, upd_same]
  · rw [upd_ne ne] at nd
    exact nd
  · have nd' : H1 d = none := by
      rw [upd_ne ne] at nd
      exact nd
    refine q _ _ _ ⟨C, [v], hM, rfl, hvs, by rw [hfs]; rfl, .inr ⟨d, [(f, v)], rfl, upd_same, fun g u z => ?_⟩⟩ fun b o ho => ?_
    · rw [hfs] at z
      exact z
    · have hba : b ≠ a := fun z => by rw [z, na] at ho; cases ho
      have hbd : b ≠ d := fun z => by rw [z, nd'] at ho; cases ho
      rw [upd_ne hbd, del_ne hba, upd_ne hba, upd_ne hbd, upd_ne hba]
      exact ho
end VI
set_option autoImplicit true
set_option Elab.async false
set_option linter.all false
set_option maxRecDepth 100000
set_option maxHeartbeats 4000000
namespace VI
open PySem PySem.Spec PyProof.Rows L2 He
def oexB (K : PySem.W.Frag) (C : Addr) : Bool := (match K.lookup C with
  | some ⟨.type "type", _, .cls cd, sl⟩ => (match cd.mro, sl.toList with
    | .ref C' :: bm, [_, _, _, _, some (.builtin n), _] => decide (C' = C) && (decide (n = "ValueError.__new__") && (!cd.hasDel && (cd.hasDict && PySem.HandSPX.refsVE bm)))
    | _, _ => false)
  | _ => false) && (eqO (PySem.W.findIn K (.ref C) "__setattr__") (some (some (.builtin "object.__setattr__"))) && (decide (PySem.W.subIn K (.ref C) (.type "BaseException") = some true) && (decide (PySem.W.typeIn K (.ref C) = some (.type "type")) && PySem.W.keepIn K (.ref C))))
theorem oexB_ok {K : PySem.W.Frag} {C : Addr} (h : oexB K C = true) : OexC K C := by
  obtain ⟨h0, h⟩ := ba h
  obtain ⟨h1, h⟩ := ba h
  obtain ⟨h2, h⟩ := ba h
  obtain ⟨h3, h4⟩ := ba h
  refine ⟨?_, eqO_ok h1, of_decide_eq_true h2, of_decide_eq_true h3, h4⟩
  split at h0
  · rename_i dd cd sl ho
    split at h0
    · rename_i C' bm k0 k1 k2 k3 n k5 hm hs
      obtain ⟨e1, h0⟩ := ba h0
      obtain ⟨e2, h0⟩ := ba h0
      obtain ⟨e3, h0⟩ := ba h0
      obtain ⟨e4, e5⟩ := ba h0
      obtain rfl := of_decide_eq_true e1
      obtain rfl := of_decide_eq_true e2
      obtain ⟨nm, bs, mro, ns, qn, hd, sn, sub, ab, col, del⟩ := cd
      dsimp only at hm e3 e4
      subst hm e4
      have e3' : del = false := by simpa using e3
      subst e3'
      have hsl : sl = #[k0, k1, k2, k3, some (.builtin "ValueError.__new__"), k5] := by
        obtain ⟨l⟩ := sl
        simp only at hs
        rw [hs]
      subst hsl
      exact ⟨nm, qn, ns, bs, bm, sn, sub, ab, col, dd, k0, k1, k2, k3, k5, ho, e5⟩
    · cases h0
  · cases h0
def excCB (K : PySem.W.Frag) (D : Addr) : Bool := eqO (PySem.W.findIn K (.ref D) "__getattribute__") (some (some (.builtin "BaseException.__getattribute__"))) && (eqO (PySem.W.findIn K (.ref D) "__getattr__") (some none) && (decide (PySem.W.subIn K (.ref D) (.type "BaseException") = some true) && (PySem.W.hasDictIn K D &&
  (eqO (PySem.W.findIn K (.ref D) "__class__") (some (some (.builtin "object.__class__"))) && (eqO (PySem.W.specialIn K (.builtin "object.__class__") "__get__") (some (some (.builtin "getset_descriptor.__get__"))) && (decide (PySem.W.takesIn K (.builtin "object.__class__") = some true) && decide (PySem.W.mroIn K D (.type "object") = some true)))))))
theorem excCB_ok {K : PySem.W.Frag} {D : Addr} (h : excCB K D = true) : ExcC K D := by
  obtain ⟨h1, h⟩ := ba h
  obtain ⟨h2, h⟩ := ba h
  obtain ⟨h3, h⟩ := ba h
  obtain ⟨h4, h⟩ := ba h
  obtain ⟨h5, h⟩ := ba h
  obtain ⟨h6, h⟩ := ba h
  obtain ⟨h7, h8⟩ := ba h
  exact ⟨eqO_ok h1, eqO_ok h2, of_decide_eq_true h3, h4, eqO_ok h5, eqO_ok h6, of_decide_eq_true h7, of_decide_eq_true h8⟩
def mOf (K : PySem.W.Frag) (ex : List Str) : Str → Option Addr := fun c => if ex.contains c then some (ga K c) else none
def clsB (K : PySem.W.Frag) (ex : List Str) : Bool := (ex.all fun c => eqO (PySem.W.nsIn K mainGlobals c) (some (some (.ref (ga K c)))) && (excCB K (ga K c) && (xfB K (ga K c) && (fieldsOf c).all fun f => eqO (PySem.W.findIn K (.ref (ga K c)) f) (some none)))) &&
  ((ex.all fun c => ex.all fun t => decide (PySem.W.exmOne K (.ref (ga K c)) (.ref (ga K t)) = some (catches c [t])) && decide (PySem.W.kitOne K (.ref (ga K c)) (.ref (ga K t)) = some (t == c || t == ("SwapError" : Str)))) && !(ex.contains ("ValueError" : Str)))
theorem mOf_some {K : PySem.W.Frag} {ex : List Str} {c : Str} (h : c ∈ ex) : mOf K ex c = some (ga K c) := if_pos (List.contains_iff_mem.mpr h)
theorem clsB_ok {K : PySem.W.Frag} {h : Heap} {mg : Str → Option Value} {ex : List Str} (X : K.In h) (G : h.Ns mainGlobals mg) (c : clsB K ex = true) : ClsOk K mg (mOf K ex) ex := by
  obtain ⟨h1, c⟩ := ba c
  obtain ⟨h2, h3⟩ := ba c
  refine ⟨fun c hc => ?_, fun c hc t ht C D eC eD => ?_, fun c hc t ht C D eC eD => ?_, fun t ht e => ?_, fun c C e => ?_⟩
  · obtain ⟨q1, q⟩ := ba (List.all_eq_true.mp h1 c hc)
    obtain ⟨q2, q⟩ := ba q
    obtain ⟨q3, q4⟩ := ba q
    exact ⟨ga K c, mOf_some hc, PySem.W.mg_of X G (eqO_ok q1), excCB_ok q2, xfB_ok q3, fun f hf => eqO_ok (List.all_eq_true.mp q4 f hf)⟩
  · rw [mOf_some hc] at eC
    rw [mOf_some ht] at eD
    cases eC; cases eD
    exact of_decide_eq_true (ba (List.all_eq_true.mp (List.all_eq_true.mp h2 c hc) t ht)).1
  · rw [mOf_some hc] at eC
    rw [mOf_some ht] at eD
    cases eC; cases eD
    exact of_decide_eq_true (ba (List.all_eq_true.mp (List.all_eq_true.mp h2 c hc) t ht)).2
  · rw [e] at ht
    rw [List.contains_iff_mem.mpr ht] at h3
    cases h3
  · unfold mOf at e
    split at e
    · rename_i q
      exact List.contains_iff_mem.mp q
    · cases e
structure SupD where
  cls : Str
  qual : Str
  params : Arguments
  body : List Stmt
  scope : Scope
abbrev FnS : Type := Option (Str × Str × Arguments × FuncBody × Scope × Addr × List Str × Addr)
def iAd (K : PySem.W.Frag) (c : Str) : Addr := ma K (ga K c) "__init__"
def fnS (K : PySem.W.Frag) (c : Str) : FnS := match K.lookup (iAd K c) with
  | some ⟨_, _, .func fd, _⟩ => some (fd.name, fd.qualname, fd.params, fd.body, fd.scope, fd.globals, fd.closure.map (·.1), fd.builtins)
  | _ => none
def SupD.val (d : SupD) : FnS := some ("__init__", d.qual, d.params, .stmts d.body, d.scope, mainGlobals, [clsName], builtinsNs)
def cellB (K : PySem.W.Frag) (C : Addr) : List (Str × Addr) → Bool
  | [(_, cc)] => (match K.lookup cc with
    | some ⟨_, _, .cell (some (.ref D)), _⟩ => decide (D = C)
    | _ => false)
  | _ => false
def fileB (K : PySem.W.Frag) (fl : Str) : Value → Bool
  | .ref a => (match K.lookup a with
    | some ⟨_, _, .fields fv, _⟩ => (match (fv[2]? : Option Value) with
      | some (Value.str f _) => fl == f
      | _ => false)
    | _ => false)
  | _ => false
def noneB : Value → Bool
  | .none => true
  | _ => false
theorem noneB_ok {v : Value} (h : noneB v = true) : v = .none := by cases v <;> first | rfl | cases h
def supB (K : PySem.W.Frag) (C : Addr) : Bool := oexB K C && (decide (PySem.W.mroIn K C (.ref C) = some true) && (eqO (PySem.W.ks_superIn K C C "__init__") (some (some (.builtin "ValueError.__init__"))) && (decide (PySem.W.subIn K (.ref C) (.type "ValueError") = some true) && eqO (PySem.W.nsIn K PySem.cStatics "thirdparty.any") (some none))))
theorem supB_ok {K : PySem.W.Frag} {C : Addr} (h : supB K C = true) : SupC K C := by
  obtain ⟨h1, h⟩ := ba h
  obtain ⟨h2, h⟩ := ba h
  obtain ⟨h3, h⟩ := ba h
  obtain ⟨h4, h5⟩ := ba h
  exact ⟨oexB_ok h1, of_decide_eq_true h2, eqO_ok h3, of_decide_eq_true h4, eqO_ok h5⟩
def SupD.ok (fl : Str) (K : PySem.W.Frag) (d : SupD) : Bool := supB K (ga K d.cls) && (eqO (PySem.W.findIn K (.ref (ga K d.cls)) "__init__") (some (some (.ref (iAd K d.cls)))) && (decide (PySem.W.typeIn K (.ref (iAd K d.cls)) = some (.type "function")) && (match K.lookup (iAd K d.cls) with
  | some ⟨_, _, .func fd, _⟩ => PySem.W.codeIn K fd.code d.qual && (cellB K (ga K d.cls) fd.closure && (fileB K fl fd.code && noneB fd.defaults))
  | _ => false)))
structure SupF (fl : Str) (K : PySem.W.Frag) (c qual : Str) (params : Arguments) (body : List Stmt) (scope : Scope) (fd : FuncData) : Prop where
  sup : SupC K (ga K c)
  ini : PySem.W.findIn K (.ref (ga K c)) "__init__" = some (some (.ref (iAd K c)))
  ty : PySem.W.typeIn K (.ref (iAd K c)) = some (.type "function")
  df : fd.defaults = .none
  ex : ∃ (oc cl ccl dV kV doc pm ct : Value) (od cld cdd an : Option Addr) (osl csl ccs : Array (Option Value)) (cda cc : Addr) (fv : Array Value) (tf : Tok), fd = PySem.W.ksFn "__init__" qual params body scope dV kV doc pm an (.ref cda) ct cc ∧ K.lookup (iAd K c) = some ⟨oc, od, .func fd, osl⟩ ∧
    PySem.W.codeIn K (.ref cda) qual = true ∧ K.lookup cc = some ⟨cl, cld, .cell (some (.ref (ga K c))), csl⟩ ∧ K.lookup cda = some ⟨ccl, cdd, .fields fv, ccs⟩ ∧ ∃ f, fv[2]? = some (.str f tf) ∧ (fl == f) = true
theorem SupD.fact {fl : Str} {K : PySem.W.Frag} {d : SupD} (e : fnS K d.cls = d.val) (c : d.ok fl K = true) : ∃ fd, SupF fl K d.cls d.qual d.params d.body d.scope fd := by
  obtain ⟨c1, c⟩ := ba c
  obtain ⟨c2, c⟩ := ba c
  obtain ⟨c3, c4⟩ := ba c
  unfold fnS at e
  cases q : K.lookup (iAd K d.cls) with
  | none =>
    rw [q] at c4
    cases c4
  | some o =>
    obtain ⟨oc, od, dt, osl⟩ := o
    rw [q] at c4 e
    cases dt with
    | func fd =>
      obtain ⟨n1, n2, n3, n4, n5, n6, n7, n8, n9, n10, n11, n12, n13, n14, n15⟩ := fd
      have e2 : (some (n1, n2, n3, n4, n5, n6, n7.map (·.1), n15) : FnS) = some (("__init__" : Str), d.qual, d.params, FuncBody.stmts d.body, d.scope, mainGlobals, [clsName], builtinsNs) := e
      simp only [Option.some.injEq, Prod.mk.injEq] at e2
      obtain ⟨h1, h2, h3, h4, h5, h6, h7, h8⟩ := e2
      have c5 : (PySem.W.codeIn K n13 d.qual && (cellB K (ga K d.cls) n7 && (fileB K fl n13 && noneB n8))) = true := c4
      obtain ⟨k1, k2⟩ := ba c5
      obtain ⟨k3, k40⟩ := ba k2
      obtain ⟨k4, k5⟩ := ba k40
      have k6 : n8 = .none := noneB_ok k5
      unfold cellB at k3
      split at k3
      · rename_i x cc
        split at k3
        · rename_i cl cld D csl hcc
          obtain rfl := of_decide_eq_true k3
          unfold fileB at k4
          split at k4
          · rename_i cda
            split at k4
            · rename_i ccl cdd fv ccs hcd
              split at k4
              · rename_i f tf hf
                have h7' : x = clsName := by simpa using h7
                subst h1 h2 h3 h4 h5 h6 h7' h8
                exact ⟨_, supB_ok c1, eqO_ok c2, of_decide_eq_true c3, k6, oc, cl, ccl, n8, n9, n10, n11, n14, od, cld, cdd, n12, osl, csl, ccs, cda, cc, fv, tf, rfl, q, k1, hcc, hcd, f, hf, k4⟩
              · cases k4
            · cases k4
          · cases k4
        · cases k3
      · cases k3
    | _ => cases c4
abbrev AlS : Type := AlD × Bool × List FnS
structure HeadD where
  fa : List Fa
  fn : List DefD
  ex : List Str
  su : List SupD
  fl : Str
def obsS (q : HeadD) (K : PySem.W.Frag) : AlS := (obsD q.fa q.fn K, clsB K q.ex && (q.su.all fun d => d.ok q.fl K), q.su.map fun d => fnS K d.cls)
def valS (q : HeadD) : AlS := (valD q.fn, true, q.su.map SupD.val)
def SaysS (q : HeadD) (K : PySem.W.Frag) : Prop := obsS q K = valS q
def obsSG (n : Nat) (q : HeadD) (g : Addr → Option Obj) : AlS := obsS q (frG g (PySem.cStatics :: asD g n))
def hookS (n : Nat) (q : HeadD) : PySem.W.Hook where
  α := AlS
  obs := fun s => obsSG n q s.heap.get?
  val := fun _ => valS q
  says := fun _ h => ∃ K : PySem.W.Frag, K.In h ∧ SaysS q K
  of := fun _ _ e => ⟨_, frG_in, e⟩
  keeps := fun _ _ _ ⟨K, hK, c⟩ k => ⟨K, PySem.W.Frag.In.keeps hK k, c⟩
theorem obsSG_eq {n : Nat} {q : HeadD} {g : Addr → Option Obj} {s : Shared} (h : ∀ a, g a = s.heap.get? a) : obsSG n q g = (hookS n q).obs s := by
  have e : g = s.heap.get? := funext h
  rw [e] <;> rfl
section
variable {q : HeadD} {K : PySem.W.Frag}
theorem SaysS.d (c : SaysS q K) : SaysD q.fa q.fn K := congrArg (fun z : AlS => z.1) c
theorem SaysS.cls (c : SaysS q K) : clsB K q.ex = true := (ba (show (clsB K q.ex && (q.su.all fun d => d.ok q.fl K)) = true from congrArg (fun z : AlS => z.2.1) c)).1
theorem SaysS.sup (c : SaysS q K) {d : SupD} (hd : d ∈ q.su) : ∃ fd, SupF q.fl K d.cls d.qual d.params d.body d.scope fd := by
  have c2 := (ba (show (clsB K q.ex && (q.su.all fun d => d.ok q.fl K)) = true from congrArg (fun z : AlS => z.2.1) c)).2
  have e : q.su.map (fun d => fnS K d.cls) = q.su.map SupD.val := congrArg (fun z : AlS => z.2.2) c
  exact SupD.fact (List.map_inj_left.mp e d hd) (List.all_eq_true.mp c2 d hd)
end
end VI
set_option autoImplicit true
set_option Elab.async false
set_option linter.all false
set_option maxRecDepth 100000
set_option maxHeartbeats 4000000
namespace VI
open PySem PySem.Spec PyProof.Rows L2 He
theorem look_in : ∀ {ns : List Str} {us : List Value} {n : Str}, us.length = ns.length → n ∈ ns → ((ns.zip us).lookup n).isNone = false
  | m :: ns, u :: us, n, hl, h => by
    by_cases e : n = m
    · subst e
      simp [List.lookup]
    · have b : (n == m) = false := by simpa using e
      have h' : n ∈ ns := (List.mem_cons.mp h).resolve_left e
      simp only [List.zip_cons_cons, List.lookup, b]
      exact look_in (by simpa using hl) h'
  | _ :: _, [], _, hl, _ => by simp at hl
  | [], _, _, _, h => nomatch h
theorem look_map : ∀ {ns : List Str} {us : List Value} (pre : List (Str × Value)), ns.Nodup → (∀ n ∈ ns, pre.lookup n = none) → us.length = ns.length → ns.filterMap (fun n => ((pre ++ ns.zip us).lookup n).map (n, ·)) = ns.zip us
  | [], us, pre, _, _, hl => rfl
  | _ :: _, [], _, _, _, hl => by simp at hl
  | m :: ns, u :: us, pre, nd, hp, hl => by
    have n := List.nodup_cons.mp nd
    have e1 : (pre ++ (m, u) :: ns.zip us).lookup m = some u := by
      rw [List.lookup_append, hp m List.mem_cons_self]
      simp [List.lookup]
    simp only [List.zip_cons_cons, List.filterMap_cons, e1, Option.map_some]
    congr 1
    have ih := look_map (us := us) (pre ++ [(m, u)]) n.2 (fun y hy => by
      rw [List.lookup_append, hp y (List.mem_cons_of_mem _ hy)]
      have b : (y == m) = false := by simpa using fun e : y = m => n.1 (e ▸ hy)
      simp [List.lookup, b]) (by simpa using hl)
    simpa [List.append_assoc] using ih
theorem bind_plain {fd : FuncData} {us : List Value} {ns : List Str} (h1 : fd.params.posonlyargs = []) (h2 : fd.params.args.map (·.arg) = ns) (h3 : fd.params.vararg = none) (h4 : fd.params.kwonlyargs = []) (h5 : fd.params.kwarg = none) (h6 : fd.defaults = .none) (nd : ns.Nodup) (hl : us.length = ns.length) :
    bindArgs fd ⟨us, []⟩ = pure (ns.zip us) := by
  have hm : ∀ k, (ns.take k).filter (fun n => ((ns.zip us).lookup n).isNone) = [] := fun k => by
    rw [List.filter_eq_nil_iff]
    intro n hn
    rw [look_in hl (List.mem_of_mem_take hn)]
    simp
  have hb := look_map (us := us) [] nd (fun _ _ => rfl) hl
  unfold bindArgs
  simp only [h1, h2, h3, h4, h5, h6, List.map_nil, List.nil_append, List.append_nil]
  have hs : seqItems? Value.none = (pure none : Sem (Option (Array Value))) := by first | rfl | kernel_rfl
  have hg : ¬ us.length > ns.length := by omega
  simp [hs, hg, hm, hb]
  exact (if_neg (fun q => by rw [hm] at q; cases q)).trans (congrArg pure hb)
structure DefV where
  fd : Fd
  N : List Str
  params : Arguments
  body : List Stmt
  scope : Scope
def DefV.ps (d : DefV) : List Str := d.params.args.map (·.arg)
def DefV.dd (d : DefV) : DefD := ⟨(d.fd.name, none), d.fd.name, d.fd.name, d.params, d.body, d.scope, [], []⟩
structure Nm where
  bis : List Str
  fns : List Str
  inos : List Str
  ex : List Str
  mks : List Str
def DefV.tx (m : Nm) (d : DefV) : Tx := ⟨d.N, d.scope.names, m.bis, m.fns, m.inos, m.ex, m.mks⟩
def scB (N ps : List Str) (sc : Scope) : Bool := (match sc.kind with | .function => true | _ => false) && (!sc.isCoroutine && (!sc.isGenerator && (decide N.Nodup && (decide (N.take ps.length = ps) && ((ps.all fun x => match sc.names.lookup x with
  | some .local => true
  | some .cell => true
  | _ => false) && sc.names.all fun y => match y.2 with
    | .free => false
    | _ => true)))))
theorem scB_ok {N ps : List Str} {sc : Scope} (h : scB N ps sc = true) : FnScope N ps sc := by
  obtain ⟨h1, h⟩ := ba h
  obtain ⟨h2, h⟩ := ba h
  obtain ⟨h3, h⟩ := ba h
  obtain ⟨h4, h⟩ := ba h
  obtain ⟨h5, h⟩ := ba h
  obtain ⟨h6, h7⟩ := ba h
  refine ⟨?_, by simpa using h2, by simpa using h3, of_decide_eq_true h4, of_decide_eq_true h5, fun x hx => ?_, fun y hy e => ?_⟩
  · split at h1
    · assumption
    · cases h1
  · have q := List.all_eq_true.mp h6 x hx
    split at q
    · exact .inl (by assumption)
    · exact .inr (by assumption)
    · cases q
  · have q := List.all_eq_true.mp h7 y hy
    rw [e] at q
    cases q
def DefV.ok (m : Nm) (d : DefV) : Bool := chkSs (d.tx m) d.fd.body d.body && (scB d.N d.ps d.scope && (decide (d.fd.ps = d.ps.length) && (decide (d.fd.ns = d.N.length) && (decide (d.fd.ps ≤ d.fd.ns) && (d.params.posonlyargs.isEmpty && (d.params.vararg.isNone && (d.params.kwonlyargs.isEmpty && d.params.kwarg.isNone)))))))
def FnAt (P : Program) (w : World) (K : PySem.W.Frag) (mg : Str → Option Value) (base : Heap) (M : Str → Option Addr) (p : Pg) (n : Nat) (x : Str) : Prop :=
  ∃ a fd ps, FnOk P w K mg base (L2.CX P w) (n + 2) a fd ps (spF K (EvX M) (p.sm n) x) ∧ mg x = some (.ref a) ∧ PySem.W.keepIn K (.ref a) = true ∧ Binds K fd ps []
section
variable {P : Program} {w : World} {K : PySem.W.Frag} {mg : Str → Option Value} {base : Heap} {M : Str → Option Addr} {p : Pg} {m : Nm}
theorem fn_none {k : Nat} {a : Addr} {fd : FuncData} {ps : List Str} {x : Str} : FnOk P w K mg base (L2.CX P w) k a fd ps (spF K (EvX M) (p.sm 0) x) :=
  ⟨fun _ _ _ _ ⟨_, _, _, _, h⟩ => h.elim, fun _ _ _ _ _ _ _ _ _ _ _ _ _ ⟨_, _, _, _, h⟩ => h.elim⟩
theorem DefV.binds {d : DefV} (hok : d.ok m = true) {f : Addr} {fd : FuncData} (F : FunD K d.fd.name d.fd.name d.params d.body d.scope [] [] f fd) : Binds K fd d.ps [] := by
  obtain ⟨h1, h⟩ := ba hok
  obtain ⟨h2, h⟩ := ba h
  obtain ⟨h3, h⟩ := ba h
  obtain ⟨h4, h⟩ := ba h
  obtain ⟨h5, h⟩ := ba h
  obtain ⟨h6, h⟩ := ba h
  obtain ⟨h7, h⟩ := ba h
  obtain ⟨h8, h9⟩ := ba h
  have S := scB_ok h2
  refine F.bindsN fun kV doc pm an cdv ct us hl => bind_plain (by simpa using h6) rfl (by simpa using h7) (by simpa using h8) (by simpa using h9) rfl ?_ hl
  show d.ps.Nodup
  rw [← S.pre]
  exact S.nd.sublist (List.take_sublist _ _)
theorem fn_step {d : DefV} {n : Nat} {fd : FuncData} {a : Addr} (hok : d.ok m = true) (F : FunD K d.fd.name d.fd.name d.params d.body d.scope [] [] a fd) (hfind : p.find d.fd.name = some d.fd ∧ p.ext d.fd.name = none) (ih : ∀ g ∈ m.fns, FnAt P w K mg base M p n g)
    (hbi : ∀ y ∈ m.bis, mg y = none) (hin : ∀ f, p.ino f = m.inos.contains f) (hw : WhlOk p.whl) (hcls : ClsOk K mg M m.ex)
    (hmk : ∀ Y : Cx, Y.prog = P → Y.w = w → Y.K = K → Y.mg = mg → Y.base = base → Y.calm = true → Room 2 Y.A → ∀ c ∈ m.mks, ∀ (x : Expr) (xs : List Expr) (ta : TA) (p pos : Pos), Gl Y c → PA Y (x :: xs) ta → noStars (x :: xs) = true → PMk Y (.Call (.Name c p) (x :: xs) [] pos) (tMk (EvX M) c ta)) :
    FnOk P w K mg base (L2.CX P w) (n + 3) a fd d.ps (spF K (EvX M) (p.sm (n + 1)) d.fd.name) := by
  obtain ⟨oc, od, dV, kV, doc, pm, an, cdv, ct, osl, rfl, lk, hcd, hD, hK⟩ := F.ex
  obtain ⟨c1, h⟩ := ba hok
  obtain ⟨c2, h⟩ := ba h
  obtain ⟨c3, h⟩ := ba h
  obtain ⟨c4, h⟩ := ba h
  obtain ⟨c5, h⟩ := ba h
  obtain ⟨f1, f2⟩ := hfind
  refine fn_ok (T := d.tx m) (Γ := p.sm n) (Γ' := p.sm (n + 1)) (x := d.fd.name) (fd := d.fd) (k := n + 2) lk hcd (scB_ok c2) rfl (of_decide_eq_true c3) (of_decide_eq_true c4) (of_decide_eq_true c5) c1 (fun as => ?_) ?_ hbi hin hw (fun g hg => ih g hg) hcls (fun Y e1 e2 e3 e4 e5 e6 hr => hmk Y e1 e2 e3 e4 e5 e6 (hr.mono (by omega)))
  · show p.callN (n + 1) d.fd.name as = _
    simp only [Pg.callN, f2, f1]
    rfl
  · show p.ino d.fd.name = d.fd.ino
    simp only [Pg.ino, f2, f1]
theorem all_fn {ds : List DefV} {exts : List Str} (hok : ∀ d ∈ ds, d.ok m = true) (hF : ∀ d ∈ ds, mg d.fd.name = some (.ref (ga K d.fd.name)) ∧ ∃ fd, FunD K d.fd.name d.fd.name d.params d.body d.scope [] [] (ga K d.fd.name) fd)
    (hfind : ∀ d ∈ ds, p.find d.fd.name = some d.fd ∧ p.ext d.fd.name = none) (hfns : ∀ g ∈ m.fns, (∃ d ∈ ds, d.fd.name = g) ∨ g ∈ exts) (hext : ∀ n, (∀ g ∈ m.fns, FnAt P w K mg base M p n g) → ∀ g ∈ exts, FnAt P w K mg base M p (n + 1) g) (hext0 : ∀ g ∈ exts, FnAt P w K mg base M p 0 g)
    (hbi : ∀ y ∈ m.bis, mg y = none) (hin : ∀ f, p.ino f = m.inos.contains f) (hw : WhlOk p.whl) (hcls : ClsOk K mg M m.ex)
    (hmk : ∀ Y : Cx, Y.prog = P → Y.w = w → Y.K = K → Y.mg = mg → Y.base = base → Y.calm = true → Room 2 Y.A → ∀ c ∈ m.mks, ∀ (x : Expr) (xs : List Expr) (ta : TA) (p pos : Pos), Gl Y c → PA Y (x :: xs) ta → noStars (x :: xs) = true → PMk Y (.Call (.Name c p) (x :: xs) [] pos) (tMk (EvX M) c ta)) :
    ∀ n, (∀ d ∈ ds, FnAt P w K mg base M p n d.fd.name) ∧ ∀ g ∈ exts, FnAt P w K mg base M p n g
  | 0 => ⟨fun d hd => by
      obtain ⟨h1, fd, F⟩ := hF d hd
      exact ⟨_, fd, d.ps, fn_none, h1, F.kp, DefV.binds (hok d hd) F⟩, hext0⟩
  | n + 1 => by
    obtain ⟨ih1, ih2⟩ := all_fn hok hF hfind hfns hext hext0 hbi hin hw hcls hmk n
    have ih : ∀ g ∈ m.fns, FnAt P w K mg base M p n g := fun g hg => by
      rcases hfns g hg with ⟨d, hd, rfl⟩ | q
      · exact ih1 d hd
      · exact ih2 g q
    refine ⟨fun d hd => ?_, hext n ih⟩
    obtain ⟨h1, fd, F⟩ := hF d hd
    exact ⟨_, fd, d.ps, fn_step (hok d hd) F (hfind d hd) ih hbi hin hw hcls hmk, h1, F.kp, DefV.binds (hok d hd) F⟩
end
end VI
set_option autoImplicit true
set_option Elab.async false
set_option linter.all false
set_option maxRecDepth 100000
set_option maxHeartbeats 4000000
namespace VI
open PySem PySem.Spec PyProof.Rows L2 He
def supScB (N : List Str) (sc : Scope) : Bool := (match sc.kind with | .function => true | _ => false) && (!sc.isCoroutine && (!sc.isGenerator && (decide N.Nodup && ((N.all fun x => decide (sc.names.lookup x = some .local)) && ((sc.names.all fun y => match y.2 with
  | .cell => false
  | .free => y.1 == clsName
  | _ => true) && (decide (sc.names.lookup ("super" : Str) = some .globalImplicit) && decide (sc.names.lookup clsName = some .free)))))))
theorem supScB_ok {N : List Str} {sc : Scope} (h : supScB N sc = true) : SupScope N sc := by
  obtain ⟨h1, h⟩ := ba h
  obtain ⟨h2, h⟩ := ba h
  obtain ⟨h3, h⟩ := ba h
  obtain ⟨h4, h⟩ := ba h
  obtain ⟨h5, h⟩ := ba h
  obtain ⟨h6, h⟩ := ba h
  obtain ⟨h7, h8⟩ := ba h
  refine ⟨?_, by simpa using h2, by simpa using h3, of_decide_eq_true h4, fun x hx => of_decide_eq_true (List.all_eq_true.mp h5 x hx), fun y hy e => ?_, fun x hx => ?_, of_decide_eq_true h7, of_decide_eq_true h8⟩
  · split at h1
    · assumption
    · cases h1
  · have q := List.all_eq_true.mp h6 y hy
    rw [e] at q
    cases q
  · have q := List.all_eq_true.mp h6 _ (PySem.mem_of_lookup hx)
    exact beq_iff_eq.mp q
def SupD.one (d : SupD) (f : Str) : Bool := match d.body with
  | [.Expr (.Call (.Attribute (.Call (.Name s _) [] [] _) i p2) [.JoinedStr [.Constant (.str pre) _ _, .FormattedValue (.Name x _) c none _] _] [] p3) _, .Assign [.Attribute (.Name se _) g _] (.Name y _) _] =>
    decide (s = ("super" : Str)) && (decide (i = ("__init__" : Str)) && (decide (c = -1) && (decide (x = f) && (decide (g = f) && (decide (y = f) && ((p2.endLine == p3.line) && (decide (pre.length ≤ 1000) && (decide (d.params.args.map (·.arg) = [se, f]) && (d.params.posonlyargs.isEmpty && (d.params.vararg.isNone && (d.params.kwonlyargs.isEmpty && (d.params.kwarg.isNone &&
      (supScB [se, f] d.scope && (!(se == ("__debug__" : Str)) && (!(se == ("__classdict__" : Str)) && (!(f == ("__debug__" : Str)) && !(f == ("__classdict__" : Str))))))))))))))))))
  | _ => false
theorem mk_super {fl f c qual : Str} {params : Arguments} {body : List Stmt} {scope : Scope} {K : PySem.W.Frag} {fd : FuncData} {M : Str → Option Addr} {Y : Cx} {x : Expr} {xs : List Expr} {ta : TA} {p pos : Pos} (F : SupF fl K c qual params body scope fd)
    (ho : SupD.one ⟨c, qual, params, body, scope⟩ f = true) (hfs : fieldsOf c = [f]) (hM : M c = some (ga K c)) (hno : PySem.W.findIn K (.ref (ga K c)) f = some none) (hfl : (Y.prog.main.file : Str) = fl)
    (htop : (Y.prog.main.scope.names.lookup ("super" : Str)).isSome = false) (hK : Y.K = K) (hms : Y.mg "super" = none) (hmc : Y.mg c = some (.ref (ga K c))) (hr : Room 2 Y.A) (hg : Gl Y c) (ha : PA Y (x :: xs) ta) (hns : noStars (x :: xs) = true) (hdb : (c == ("__debug__" : Str)) = false) :
    PMk Y (.Call (.Name c p) (x :: xs) [] pos) (tMk (EvX M) c ta) := by
  subst hK
  unfold SupD.one at ho
  dsimp only at ho
  split at ho
  · rename_i s p0 p1 i p2 pre j q1 x' q2 cc q3 q4 p3 p4 se p5 g p6 y p7 p8
    simp only [Bool.and_eq_true, decide_eq_true_eq, Bool.not_eq_true'] at ho
    obtain ⟨rfl, rfl, rfl, rfl, rfl, rfl, h7, h8, h9, h10, h11, h12, h13, h14, h15, h16, h17, h18⟩ := ho
    have hdf := F.df
    obtain ⟨oc, cl, ccl, dV, kV, doc, pm, ct, od, cld, cdd, an, osl, csl, ccs, cda, cc, fv, tf, rfl, lk, hcd, hcc, hcode, file, hfv, hfile⟩ := F.ex
    have S := supScB_ok h14
    obtain ⟨ar, har, hself⟩ : ∃ ar, (params.posonlyargs ++ params.args).head? = some ar ∧ ar.arg = se := by
      rw [List.isEmpty_iff.mp h10, List.nil_append]
      cases hz : params.args with
      | nil => rw [hz] at h9; cases h9
      | cons ar r =>
        rw [hz] at h9
        simp only [List.map_cons, List.cons.injEq] at h9
        exact ⟨ar, rfl, h9.1⟩
    have F1 := sup_one (P := Y.prog) (w := Y.w) (mg := Y.mg) (base := Y.base) (k := 0) S F.sup lk hcd hcc hcode hfv (by rw [hfl]; exact hfile) htop hms har hself rfl h7 (say_f rfl (S.par _ (by simp)) h8 h17 h18) hno h15 h16 h17 h18
    exact pmk_one hfs hM F.sup F.ini F.ty F1 hr (.all fun us hl => bind_plain (List.isEmpty_iff.mp h10) h9 (by simpa using h11) (List.isEmpty_iff.mp h12) (by simpa using h13) hdf S.nd hl) hg hmc ha hns hdb
  · cases ho
end VI
set_option autoImplicit true
set_option Elab.async false
set_option linter.all false
set_option maxRecDepth 100000
set_option maxHeartbeats 4000000
namespace VI
open PySem PySem.Spec PyProof.Rows L2 He
structure LawP where
  ds : List DefV
  exts : List (Str × (List (Nat × D) → R0))
  extD : List DefD
  bis : List Str
  ex : List Str
  su : List SupD
  fl : Str
noncomputable def LawP.pg (q : LawP) : Pg := ⟨q.ds.map (·.fd), fun f => (q.exts.lookup f).map fun c => (false, c), fun _ => none, whlC⟩
def LawP.nm (q : LawP) : Nm := ⟨q.bis, q.ds.map (·.fd.name) ++ q.exts.map (·.1), ((q.ds.map (·.fd)).filter (·.ino)).map (·.name), q.ex, q.su.map (·.cls)⟩
def LawP.hd (q : LawP) : HeadD := ⟨(q.ds.map fun d => .glo d.fd.name) ++ ((q.exts.map fun e => .glo e.1) ++ (q.bis.map .free ++ [.free "super"])), q.ds.map DefV.dd ++ q.extD, q.ex, q.su, q.fl⟩
def LawP.ok (q : LawP) : Bool := (q.ds.all fun d => d.ok q.nm) && (decide ((q.ds.map (·.fd.name) ++ q.exts.map (·.1)).Nodup) && (q.su.all fun d => (match fieldsOf d.cls with
  | [f] => d.one f
  | _ => false) && (q.ex.contains d.cls && !(d.cls == ("__debug__" : Str)))))
theorem saysD_fact {fa : List Fa} {fn : List DefD} {K : PySem.W.Frag} (c : SaysD fa fn K) {f : Fa} (h : f ∈ fa) : f.ok K = true := by
  obtain ⟨i, hi⟩ := List.getElem?_of_mem h
  exact c.fact i hi
theorem saysD_def {fa : List Fa} {fn : List DefD} {K : PySem.W.Frag} (c : SaysD fa fn K) {d : DefD} (h : d ∈ fn) : ∃ fd, FunD K d.name d.qual d.params d.body d.scope (d.dvs K) (d.kws K) (fAd K d.at_) fd := by
  obtain ⟨i, hi⟩ := List.getElem?_of_mem h
  exact c.def_ i hi
theorem find_nd : ∀ {l : List Fd} {x : Fd}, (l.map (·.name)).Nodup → x ∈ l → (l.find? fun y => y.name == x.name) = some x
  | [], _, _, h => nomatch h
  | y :: l, x, nd, h => by
    have n := List.nodup_cons.mp nd
    rcases List.mem_cons.mp h with e | e
    · subst e
      simp [List.find?]
    · have b : (y.name == x.name) = false := by simpa using fun z : y.name = x.name => n.1 (List.mem_map.mpr ⟨x, e, z.symm⟩)
      simp only [List.find?, b]
      exact find_nd n.2 e
theorem ino_of : ∀ {l : List Fd} {f : Str}, (l.map (·.name)).Nodup → (match l.find? (fun y => y.name == f) with
    | some x => x.ino
    | none => false) = ((l.filter (·.ino)).map (·.name)).contains f
  | [], _, _ => rfl
  | y :: l, f, nd => by
    have n := List.nodup_cons.mp nd
    by_cases e : y.name = f
    · subst e
      have no : ((l.filter (·.ino)).map (·.name)).contains y.name = false := by
        cases z : ((l.filter (·.ino)).map (·.name)).contains y.name with
        | false => rfl
        | true =>
          obtain ⟨x, hx, e⟩ := List.mem_map.mp (List.contains_iff_mem.mp z)
          exact absurd (List.mem_map.mpr ⟨x, (List.mem_filter.mp hx).1, e⟩) n.1
      cases hi : y.ino with
      | false =>
        have e1 : (y :: l).filter (·.ino) = l.filter (·.ino) := List.filter_cons_of_neg (by rw [hi]; decide)
        rw [e1, no]
        simp [List.find?, hi]
      | true => simp [List.find?, hi]
    · have b : (y.name == f) = false := by simpa using e
      have b2 : (f == y.name) = false := by simpa using fun z : f = y.name => e z.symm
      simp only [List.find?, b]
      rw [ino_of n.2]
      cases hi : y.ino <;> simp [List.filter, hi, b2, List.contains_cons]
section
variable {P : Program} {w : World} {K : PySem.W.Frag} {mg : Str → Option Value} {h : Heap} {q : LawP}
theorem LawP.ds_ok (ho : q.ok = true) : ∀ d ∈ q.ds, d.ok q.nm = true := fun d hd => List.all_eq_true.mp (ba ho).1 d hd
theorem LawP.nd (ho : q.ok = true) : (q.ds.map (·.fd.name) ++ q.exts.map (·.1)).Nodup := of_decide_eq_true (ba (ba ho).2).1
theorem LawP.find (ho : q.ok = true) : ∀ d ∈ q.ds, q.pg.find d.fd.name = some d.fd ∧ q.pg.ext d.fd.name = none := fun d hd => by
  have nd := List.nodup_append.mp (LawP.nd ho)
  refine ⟨find_nd (by show ((q.ds.map (·.fd)).map (·.name)).Nodup; rw [List.map_map]; exact nd.1) (List.mem_map_of_mem hd), ?_⟩
  show (q.exts.lookup d.fd.name).map _ = none
  cases z : q.exts.lookup d.fd.name with
  | none => rfl
  | some c => exact absurd rfl (nd.2.2 _ (List.mem_map_of_mem (f := (·.fd.name)) hd) _ (List.mem_map_of_mem (f := (·.1)) (PySem.mem_of_lookup z)))
theorem LawP.ino (ho : q.ok = true) : ∀ f, q.pg.ino f = q.nm.inos.contains f := fun f => by
  have nd := List.nodup_append.mp (LawP.nd ho)
  have e := ino_of (l := q.ds.map (·.fd)) (f := f) (by rw [List.map_map]; exact nd.1)
  show (match ((q.exts.lookup f).map fun c => (false, c) : Option (Bool × (List (Nat × D) → R0))) with
    | some x => x.1
    | none => match (q.ds.map fun d : DefV => d.fd).find? (fun y : Fd => y.name == f) with
      | some x => x.ino
      | none => false) = _
  cases z : q.exts.lookup f with
  | none => exact e
  | some c =>
    show false = _
    cases y : q.nm.inos.contains f with
    | false => rfl
    | true =>
      obtain ⟨x, hx, e⟩ := List.mem_map.mp (List.contains_iff_mem.mp y)
      obtain ⟨d, hd, rfl⟩ := List.mem_map.mp (List.mem_filter.mp hx).1
      exact absurd e (nd.2.2 _ (List.mem_map_of_mem (f := (·.fd.name)) hd) _ (List.mem_map_of_mem (f := (·.1)) (PySem.mem_of_lookup z)))
theorem LawP.defs (X : K.In h) (G : h.Ns mainGlobals mg) (c : SaysS q.hd K) : ∀ d ∈ q.ds, mg d.fd.name = some (.ref (ga K d.fd.name)) ∧ ∃ fd, FunD K d.fd.name d.fd.name d.params d.body d.scope [] [] (ga K d.fd.name) fd := fun d hd =>
  ⟨glo_ok X G (saysD_fact c.d (List.mem_append_left _ (List.mem_map_of_mem (f := fun d : DefV => Fa.glo d.fd.name) hd))), saysD_def c.d (d := d.dd) (List.mem_append_left _ (List.mem_map_of_mem hd))⟩
theorem LawP.extG (X : K.In h) (G : h.Ns mainGlobals mg) (c : SaysS q.hd K) : ∀ e ∈ q.exts, mg e.1 = some (.ref (ga K e.1)) := fun e he => glo_ok X G (saysD_fact c.d (List.mem_append_right _ (List.mem_append_left _ (List.mem_map_of_mem (f := fun e : Str × _ => Fa.glo e.1) he))))
theorem LawP.bi (X : K.In h) (G : h.Ns mainGlobals mg) (c : SaysS q.hd K) : ∀ y ∈ q.bis, mg y = none := fun y hy => free_ok X G (saysD_fact c.d (List.mem_append_right _ (List.mem_append_right _ (List.mem_append_left _ (List.mem_map_of_mem hy)))))
theorem LawP.sp (X : K.In h) (G : h.Ns mainGlobals mg) (c : SaysS q.hd K) : mg "super" = none := free_ok X G (saysD_fact c.d (List.mem_append_right _ (List.mem_append_right _ (List.mem_append_right _ List.mem_cons_self))))
theorem LawP.cls (X : K.In h) (G : h.Ns mainGlobals mg) (c : SaysS q.hd K) : ClsOk K mg (mOf K q.ex) q.ex := clsB_ok X G c.cls
theorem LawP.made (ho : q.ok = true) (X : K.In h) (G : h.Ns mainGlobals mg) (c : SaysS q.hd K) (hfl : (P.main.file : Str) = q.fl) (htop : (P.main.scope.names.lookup ("super" : Str)).isSome = false) :
    ∀ Y : Cx, Y.prog = P → Y.K = K → Y.mg = mg → Room 2 Y.A → ∀ c ∈ q.nm.mks, ∀ (x : Expr) (xs : List Expr) (ta : TA) (p pos : Pos), Gl Y c → PA Y (x :: xs) ta → noStars (x :: xs) = true → PMk Y (.Call (.Name c p) (x :: xs) [] pos) (tMk (EvX (mOf K q.ex)) c ta) := fun Y e1 e3 e4 hr cn hc x xs ta p pos hg ha hns => by
  obtain ⟨d, hd, rfl⟩ := List.mem_map.mp hc
  obtain ⟨o1, o2⟩ := ba (List.all_eq_true.mp (ba (ba ho).2).2 d hd)
  obtain ⟨o2, o3⟩ := ba o2
  have hex := List.contains_iff_mem.mp o2
  obtain ⟨fd, F⟩ := SaysS.sup c hd
  obtain ⟨C, hM, hmg, _, _, hno⟩ := (LawP.cls X G c).at_ d.cls hex
  have hC : C = ga K d.cls := by
    have y := mOf_some (K := K) hex
    rw [hM] at y
    exact Option.some.inj y
  subst hC
  split at o1
  · rename_i f hf
    subst e1 e4
    exact mk_super F o1 hf hM (hno f (by rw [hf]; simp)) hfl htop e3 (LawP.sp X G c) hmg hr hg ha hns (by simpa using o3)
  · cases o1
end
end VI
set_option autoImplicit true
set_option Elab.async false
set_option linter.all false
set_option maxRecDepth 100000
set_option maxHeartbeats 4000000
namespace VI
open PySem PySem.Spec PyProof.Rows L2 He
abbrev CXn : CXT := fun _ _ _ _ _ _ => False
theorem FnOk.still {P : Program} {w : World} {K : PySem.W.Frag} {mg : Str → Option Value} {base : Heap} {k : Nat} {a : Addr} {fd : FuncData} {ps : List Str} {sp : Sp} (F : FnOk P w K mg base (L2.CX P w) k a fd ps sp) :
    FnOk P w K mg base CXn k a fd ps (fun vs H Q _ => sp vs H Q fun _ _ _ => False) := by
  refine ⟨fun vs H Q E h => F.len _ _ _ _ h, fun A outer s H args us vs Q E hr e0 hb r h => codeAny_mono (F.run A outer s H args us vs Q _ hr e0 hb r h) fun z s' hz => ?_⟩
  cases z with
  | error e =>
    obtain ⟨_, _, _, _, _, _, _, _, _, _, _, _, q⟩ := hz
    exact q
  | ok fl => cases fl <;> exact hz
def spLaw (p : Pg) (n : Nat) (K : PySem.W.Frag) (M : Str → Option Addr) : Sp := fun vs H Q _ => spF K (EvX M) (p.sm n) "law" vs H Q fun _ _ _ => False
theorem law_entry {K : PySem.W.Frag} {M : Str → Option Addr} {p : Pg} {n : Nat} {ns : List Int} {k : Nat} {H : Hp} {a : Addr} (hp : p.callN n "law" [(0, .arg ns)] = .ok k (.bl true) none) (hi : p.ino "law" = false) (hO : Only H) (hS : SqL K H a (ns.map V.int)) :
    spLaw p n K M [.ref a] H (fun v _ => v = .bl true) fun _ _ _ => False := by
  have ha : ArgAt K H a ns := by
    rcases hS with (h | ⟨o, h⟩) | h
    · rcases hO a with z | ⟨o, xs, z⟩
      · rw [z] at h; cases h
      · rw [z] at h; cases h
    · exact .inl ⟨o, h⟩
    · exact .inr h
  refine ⟨[(0, .arg ns)], fun _ => False, fun _ => False, ⟨fun _ z => z.elim, fun _ z => z.elim, fun _ z => z.elim, ?_⟩, ?_⟩
  · show match p.ino "law" with
      | false => Looks K H (fun _ => False) [(0, .arg ns)] [.ref a] ∧ ∀ a, ¬ False
      | true => _
    rw [hi]
    exact ⟨⟨rfl, .arg ha, trivial⟩, fun _ z => z⟩
  · show match p.callN n "law" [(0, .arg ns)] with
      | .ok k d out => out.isSome = p.ino "law" ∧ _
      | .exn c xs => _
      | .bad => False
    rw [hp]
    refine ⟨by rw [hi]; rfl, fun v H' e => ?_⟩
    obtain ⟨F', lab', _, ⟨fp, r, _⟩, _⟩ := e
    cases r
    rfl
theorem LawP.walk {q : LawP} {P : Program} {N n : Nat} {d : DefV} {x : Str} (ho : q.ok = true) (hd : d ∈ q.ds) (hdn : d.fd.name = ("law" : Str)) (hps : d.ps = [x]) (hfl : (P.main.file : Str) = q.fl) (htop : (P.main.scope.names.lookup ("super" : Str)).isSome = false) (hi : q.pg.ino "law" = false)
    (hx : ∀ (w : World) (K : PySem.W.Frag) (mg : Str → Option Value) (base : Heap), K.In base → base.Ns mainGlobals mg → SaysS q.hd K → ∀ j, (∀ g ∈ q.nm.fns, FnAt P w K mg base (mOf K q.ex) q.pg j g) → ∀ g ∈ q.exts.map (·.1), FnAt P w K mg base (mOf K q.ex) q.pg (j + 1) g)
    (hx0 : ∀ (w : World) (K : PySem.W.Frag) (mg : Str → Option Value) (base : Heap), K.In base → base.Ns mainGlobals mg → SaysS q.hd K → ∀ g ∈ q.exts.map (·.1), FnAt P w K mg base (mOf K q.ex) q.pg 0 g)
    (plain : ∀ ns : List Int, ns.length ≤ n → ∃ k, q.pg.callN (N + 1) "law" [(0, .arg ns)] = .ok k (.bl true) none)
    {w : World} {mg : Str → Option Value} {fa : Addr} {h : Heap} (Y : ∃ K : PySem.W.Frag, K.In h ∧ SaysS q.hd K) (G : h.Ns mainGlobals mg) (hmg : mg ("law" : Str) = some (.ref fa)) :
    ∃ (K : PySem.W.Frag) (fd : FuncData) (sp : Sp), K.In h ∧ (∀ (s : Shared) (u : Value), BindsTo s fd ⟨[u], []⟩ [(x, u)]) ∧
        (∀ (H : Hp) (a : Addr) (ns : List Int), ns.length ≤ n → Only H → SqL K H a (ns.map V.int) → sp [.ref a] H (fun v _ => v = .bl true) fun _ _ _ => False) ∧
        ∀ base : Heap, K.In base → base.Ns mainGlobals mg → FnOk P w K mg base CXn (N + 3) fa fd [x] sp := by
  obtain ⟨K, X, c⟩ := Y
  obtain ⟨hg, fd, F⟩ := LawP.defs X G c d hd
  have e : fa = ga K d.fd.name := by
    rw [hdn] at hg ⊢
    rw [hmg] at hg
    injection hg with z
    injection z
  subst e
  have hb : ∀ (s : Shared) (u : Value), BindsTo s fd ⟨[u], []⟩ [(x, u)] := by
    have okd := LawP.ds_ok ho d hd
    obtain ⟨h1, z⟩ := ba okd
    obtain ⟨h2, z⟩ := ba z
    obtain ⟨h3, z⟩ := ba z
    obtain ⟨h4, z⟩ := ba z
    obtain ⟨h5, z⟩ := ba z
    obtain ⟨h6, z⟩ := ba z
    obtain ⟨h7, z⟩ := ba z
    obtain ⟨h8, h9⟩ := ba z
    intro s u
    have b := FunD.bindsA (ps := d.ps) F (fun kV doc pm an cdv ct us hl => bind_plain (by simpa using h6) rfl (by simpa using h7) (by simpa using h8) (by simpa using h9) rfl (by
      show d.ps.Nodup
      rw [hps]
      simp) hl) s [u] (by rw [hps]; rfl)
    rw [hps] at b
    exact b
  refine ⟨K, fd, spLaw q.pg (N + 1) K (mOf K q.ex), X, hb, fun H a ns hl hO hS => ?_, fun base XB GB => ?_⟩
  · obtain ⟨k, hk⟩ := plain ns hl
    exact law_entry hk hi hO hS
  · have all := all_fn (P := P) (w := w) (p := q.pg) (m := q.nm) (ds := q.ds) (exts := q.exts.map (·.1)) (LawP.ds_ok ho) (LawP.defs XB GB c) (LawP.find ho) (fun g hg => by
        rcases List.mem_append.mp hg with z | z
        · obtain ⟨d, hd, rfl⟩ := List.mem_map.mp z
          exact .inl ⟨d, hd, rfl⟩
        · exact .inr z) (hx w K mg base XB GB c) (hx0 w K mg base XB GB c) (LawP.bi XB GB c) (LawP.ino ho) whlC_ok (LawP.cls XB GB c)
      (fun Y e1 e2 e3 e4 e5 e6 hr => LawP.made ho XB GB c hfl htop Y e1 e3 e4 hr) N
    have st := fn_step (LawP.ds_ok ho d hd) F (LawP.find ho d hd) (fun g hg => by
        rcases List.mem_append.mp hg with z | z
        · obtain ⟨d, hd, rfl⟩ := List.mem_map.mp z
          exact all.1 d hd
        · exact all.2 g z) (LawP.bi XB GB c) (LawP.ino ho) whlC_ok (LawP.cls XB GB c)
      (fun Y e1 e2 e3 e4 e5 e6 hr => LawP.made ho XB GB c hfl htop Y e1 e3 e4 hr)
    rw [hps] at st
    simp only [hdn] at st ⊢
    exact FnOk.still st
end VI
set_option autoImplicit true
set_option Elab.async false
set_option linter.all false
set_option maxRecDepth 100000
set_option maxHeartbeats 4000000
namespace VI
open PySem PySem.Spec PyProof.Rows L2
def tNo : TE := fun _ _ _ => False
def rLenS (K : PySem.W.Frag) : List V → Hp → VK → Prop := fun xs H Q => ∃ p ys, xs = [.ref p] ∧ (SqL K H p ys ∨ SqT K H p ys) ∧ Q (.int ys.length) H
def rListS (K : PySem.W.Frag) : List V → Hp → VK → Prop := fun xs H Q => ∃ p ys, xs = [.ref p] ∧ (SqL K H p ys ∨ SqT K H p ys) ∧ ∀ l, H l = none → Q (.ref l) (upd H l (.lst ys))
section
variable (Ev : EvT) (Γ : Sm) (K : PySem.W.Frag)
mutual
def hE : CE → TE
  | .var i => tVar i
  | .mv i => tVar i
  | .fz i _ => tVar i
  | .int n => tC (.int n)
  | .lst es => tLst (hA es)
  | .sub a i => tOp (rIx K) (hE a) (hE i)
  | .bi f es => if f = "len" then tCB (rLenS K) (hA es) else if f = "list" then tCB (rListS K) (hA es) else tNo
  | .fn f es => match es with
    | .cons _ _ => tCallS (spF K Ev Γ f) (WE W0) (hA es)
    | .nil => tNo
  | .mut m o es => if m = "append" then tBM K "list" rAppend (hE o) (hA es) else tNo
  | _ => tNo
def hA : CEs → TA
  | .nil => tNil
  | .cons a r => tCons (hE a) (hA r)
end
def hT : CE → TT
  | .fn f es => fun σ H Q => hE Ev Γ K (.fn f es) σ H fun x H' => ∃ k, TruV K x H' k ∧ Q k H'
  | _ => fun _ _ _ => False
def hI : CI → TI
  | .seq c => iList K (hE Ev Γ K c)
  | .rng a => iRng1 (tCons (hE Ev Γ K a) tNil)
  | _ => fun _ _ _ => False
mutual
def hS : CS → TS
  | .set i c => if c.isLc then fun _ _ _ => False else tAsg (hE Ev Γ K c) (gName i)
  | .six o i c => tAsg (hE Ev Γ K c) (gSub (hE Ev Γ K o) (hE Ev Γ K i) rSetL)
  | .exp c => tDrop (hE Ev Γ K c)
  | .ret c => tRet (hE Ev Γ K c)
  | .ite c a b => tIfS (hT Ev Γ K c) (hSs a) (hSs b)
  | .for g it b => match g with
    | .name i => tFor (hI Ev Γ K it) (gName i) (hSs b)
    | _ => fun _ _ _ => False
  | _ => fun _ _ _ => False
def hSs : CSs → TS
  | .nil => tNext
  | .cons s r => tSeq (hS s) (hSs r)
end
end
theorem pe_no {X : Cx} {e : Expr} : PE X e tNo := ⟨fun _ _ _ _ _ _ h => h.elim⟩
theorem ps_no {X : Cx} {s : Stmt} : PS X s (fun _ _ _ => False) := ⟨fun _ _ _ _ _ _ h => h.elim⟩
section
variable {X : Cx} {T : Tx} {Γ : Sm} {Ev : EvT} {M : Str → Option Addr}
mutual
theorem hE_ok (h : XOk X T Γ Ev) : ∀ (c : CE) {e : Expr}, chkE T c e = true → PE X e (hE Ev Γ X.K c)
  | .var i, e, hc => by
    unfold chkE at hc
    split at hc
    · exact h.vis hc
    · cases hc
  | .mv i, e, hc => by
    unfold chkE at hc
    split at hc
    · exact h.vis hc
    · cases hc
  | .fz i k, e, hc => by
    unfold chkE at hc
    split at hc
    · exact h.vis hc
    · cases hc
  | .int n, e, hc => by
    unfold chkE at hc
    split at hc
    · rw [decide_eq_true_eq] at hc; subst hc
      exact pe_int
    · cases hc
  | .lst es, e, hc => by
    unfold chkE at hc
    split at hc
    · rw [Bool.and_eq_true] at hc
      exact pe_lst (hA_ok h es hc.1 hc.2)
    · cases hc
  | .sub a i, e, hc => by
    unfold chkE at hc
    split at hc
    · simp only [Bool.and_eq_true, Bool.not_eq_true'] at hc
      exact pe_ix ix_seq (hE_ok h a hc.1.1) (hE_ok h i hc.1.2) (slice_ok hc.2)
    · cases hc
  | .bi f es, e, hc => by
    unfold chkE at hc
    split at hc
    · simp only [Bool.and_eq_true, decide_eq_true_eq, Bool.or_eq_true] at hc
      obtain ⟨⟨⟨⟨rfl, h1⟩, h2⟩, h3⟩, h4⟩ := hc
      obtain ⟨g, m⟩ := h.blt h1
      obtain ⟨n1, n2⟩ := noStars_cons h4
      unfold hE
      by_cases e1 : f = "len"
      · subst e1
        rw [if_pos rfl]
        exact pe_callB (id := "len") call_len_seq g m (by decide +kernel) (hA_ok h es h3 h4) (by decide) (by decide) (star_cons n1) (plain_any n2)
      · rw [if_neg e1]
        by_cases e2 : f = "list"
        · subst e2
          rw [if_pos rfl]
          exact pe_callTy (T := "list") call_list_of g m (by decide +kernel) (hA_ok h es h3 h4) (by decide) (by decide) (star_cons n1) (plain_any n2)
        · rw [if_neg e2]
          exact pe_no
    · cases hc
  | .fn f es, e, hc => by
    cases es with
    | nil => unfold hE; exact pe_no
    | cons c r =>
      unfold chkE at hc
      split at hc
      · rename_i g p xs pos
        simp only [Bool.and_eq_true, decide_eq_true_eq] at hc
        obtain ⟨⟨⟨⟨rfl, h1⟩, h3⟩, h4⟩, h5⟩ := hc
        unfold Tx.fn at h1
        simp only [Bool.and_eq_true, Bool.not_eq_true'] at h1
        obtain ⟨⟨g1, g2⟩, g3⟩ := h1
        obtain ⟨a, fd, ps, n, Fn, hr, hm, hk, hb⟩ := h.fns f (List.contains_iff_mem.mp g2)
        have pa := hA_ok h (.cons c r) h3 h4
        cases xs with
        | nil => unfold chkEs at h3; cases h3
        | cons x xs =>
          obtain ⟨n1, n2⟩ := noStars_cons h4
          unfold hE
          exact pe_callS Fn hr (h.gl g1) hm hk hb (fun σ => passAt takesW0 σ) pa g3 (star_cons n1) (plain_any n2)
      · cases hc
  | .mut m o es, e, hc => by
    unfold chkE at hc
    split at hc
    · rename_i y m' ap xs cp
      simp only [Bool.and_eq_true, decide_eq_true_eq] at hc
      obtain ⟨⟨⟨⟨rfl, h1⟩, h2⟩, h3⟩, h4⟩ := hc
      obtain ⟨mc, ns⟩ := mc_ok h4
      unfold hE
      by_cases e1 : m = "append"
      · subst e1
        rw [if_pos rfl]
        cases xs with
        | nil =>
          cases es with
          | nil =>
            refine ⟨fun pins s σ H Q I hq => ?_⟩
            exact (pe_bm0 PySem.F.plainAttrs_list PySem.F.slot_list_append PySem.F.type_list_append mt_append (hP_ok h o h2) mc.base mc.line).run pins s σ H Q I (by simpa only [tBM, tBM0, hA, tNil] using hq)
          | cons a r => unfold chkEs at h3; cases h3
        | cons x xs =>
          obtain ⟨n1, n2⟩ := noStars_cons ns
          exact pe_bm PySem.F.plainAttrs_list PySem.F.slot_list_append PySem.F.type_list_append mt_append (hP_ok h o h2) (hA_ok h es h3 ns) mc.base mc.few mc.line (star_cons n1) (plain_any n2)
      · rw [if_neg e1]; exact pe_no
    · cases hc
  | .str _, _, _ | .bl _, _, _ | .non, _, _ | .cst _, _, _ | .bin _ _ _, _, _ | .neg _, _, _ | .cmp _ _ _, _, _ | .chn _ _ _ _ _, _, _ | .and _ _, _, _ | .or _ _, _, _ | .not _, _, _ | .ite _ _ _, _, _ | .tup _, _, _ | .slc _ _ _, _, _ | .rev _, _, _ | .nop, _, _ | .met _ _ _, _, _ | .lc .., _, _ | .lc2 .., _, _ | .isi _ _, _, _ | .sp _ _, _, _ | .bad, _, _ => by
    unfold hE; exact pe_no
theorem hA_ok (h : XOk X T Γ Ev) : ∀ (es : CEs) {xs : List Expr}, chkEs T es xs = true → noStars xs = true → PA X xs (hA Ev Γ X.K es)
  | .nil, xs, hc, ns => by
    unfold chkEs at hc
    split at hc
    · unfold hA; exact pa_nil
    · cases hc
  | .cons a r, xs, hc, ns => by
    unfold chkEs at hc
    split at hc
    · rw [Bool.and_eq_true] at hc
      obtain ⟨n1, n2⟩ := noStars_cons ns
      unfold hA
      exact pa_cons (hE_ok h a hc.1) (hA_ok h r hc.2 n2) (star_cons n1)
    · cases hc
theorem hP_ok (h : XOk X T Γ Ev) : ∀ (c : CE) {e : Expr}, chkP T c e = true → PE X e (hE Ev Γ X.K c)
  | .var i, e, hc => by
    unfold chkP at hc
    split at hc
    · exact h.vis hc
    · cases hc
  | .sub a c, e, hc => by
    unfold chkP at hc
    split at hc
    · simp only [Bool.and_eq_true, Bool.not_eq_true'] at hc
      exact pe_ix ix_seq (hP_ok h a hc.1.1) (hE_ok h c hc.1.2) (slice_ok hc.2)
    · cases hc
  | .mv _, _, hc | .fz _ _, _, hc | .int _, _, hc | .str _, _, hc | .bl _, _, hc | .non, _, hc | .cst _, _, hc | .bin _ _ _, _, hc | .neg _, _, hc | .cmp _ _ _, _, hc | .chn _ _ _ _ _, _, hc | .and _ _, _, hc | .or _ _, _, hc | .not _, _, hc | .ite _ _ _, _, hc | .tup _, _, hc | .lst _, _, hc | .slc _ _ _, _, hc | .rev _, _, hc | .nop, _, hc | .bi _ _, _, hc | .fn _ _, _, hc | .met _ _ _, _, hc | .mut _ _ _, _, hc | .lc .., _, hc | .lc2 .., _, hc | .isi _ _, _, hc | .sp _ _, _, hc | .bad, _, hc => by
    unfold chkP at hc; cases hc
end
theorem hT_ok (h : XOk X T Γ Ev) (c : CE) {e : Expr} (hc : chkE T c e = true) : PT X e (hT Ev Γ X.K c) := by
  cases c with
  | fn f es =>
    refine pt_truth (hE_ok h (.fn f es) hc) ?_
    unfold chkE at hc
    split at hc
    · exact fun _ => rfl
    · cases hc
  | _ => exact ⟨fun _ _ _ _ _ _ z => z.elim⟩
theorem hI_ok (h : XOk X T Γ Ev) (it : CI) {tg e : Expr} (hc : chkI T it e = true) : PI X tg e (hI Ev Γ X.K it) ∧ isSet e = false := by
  cases it with
  | seq c =>
    unfold chkI at hc
    simp only [Bool.and_eq_true, Bool.not_eq_true'] at hc
    exact ⟨pi_list (hE_ok h c hc.1), hc.2⟩
  | rng a =>
    unfold chkI at hc
    split at hc
    · simp only [Bool.and_eq_true, decide_eq_true_eq, Bool.not_eq_true'] at hc
      obtain ⟨⟨⟨rfl, h1⟩, h2⟩, h3⟩ := hc
      obtain ⟨g, m⟩ := h.blt h1
      exact ⟨pi_range1 g m (pa_cons (hE_ok h a h2) pa_nil (star_cons h3)) (by rw [star_cons h3]; rfl), rfl⟩
    · cases hc
  | rng2 a b =>
    unfold chkI at hc
    split at hc
    · exact ⟨⟨fun _ _ _ _ _ _ z => z.elim⟩, rfl⟩
    · cases hc
  | enm e => unfold chkI at hc; cases hc
  | zip a b => unfold chkI at hc; cases hc
  | rvd a => unfold chkI at hc; cases hc
mutual
theorem hS_ok (h : SOk X T Γ M) : ∀ (c : CS) {s : Stmt}, chkS T c s = true → PS X s (hS (EvX M) Γ X.K c)
  | .set i c, s, hc => by
    unfold chkS at hc
    split at hc
    · rename_i x px e pos
      simp only [Bool.and_eq_true, decide_eq_true_eq, Bool.or_eq_true, Bool.not_eq_true'] at hc
      obtain ⟨⟨⟨h1, h2⟩, h3⟩, h4⟩ := hc
      unfold hS
      by_cases hl : c.isLc = true
      · rw [if_pos hl]; exact ps_no
      · rw [if_neg hl]
        rcases h4 with (h4 | ⟨h4, h5⟩) | h4
        · exact ps_asg (hE_ok h.toXOk c h3) (h.toXOk.loc h1) (sole_name h4) st_name rfl
        · exact absurd h4 hl
        · have hk : X.env.scope.names.lookup x = some .cell := by
            unfold isCell at h4
            cases hq : T.names.lookup x with
            | none => rw [hq] at h4; cases h4
            | some kd =>
              rw [hq] at h4
              cases kd with
              | cell => exact (h.names x _ hq).elim id fun z => nomatch z.1
              | _ => cases h4
          exact ps_asg (hE_ok h.toXOk c h3) (h.toXOk.loc h1) (sole_cell hk) st_name rfl
    · cases hc
  | .six o i c, s, hc => by
    unfold chkS at hc
    split at hc
    · rename_i x y p e pos
      simp only [Bool.and_eq_true, Bool.not_eq_true'] at hc
      obtain ⟨⟨⟨⟨h1, h2⟩, h3⟩, h4⟩, h5⟩ := hc
      unfold hS
      refine ps_asg (hE_ok h.toXOk c h4) (pg_sub (hP_ok h.toXOk o h1) (hE_ok h.toXOk i h2) set_list ?_) (sole_name h5) st_sub rfl
      intro v
      cases y <;> first | rfl | cases h3
    · cases hc
  | .exp c, s, hc => by
    unfold chkS at hc
    split at hc
    · simp only [Bool.and_eq_true, Bool.not_eq_true'] at hc
      unfold hS
      exact ps_expr (hE_ok h.toXOk c hc.1) (comp_sw hc.2)
    · cases hc
  | .ret c, s, hc => by
    unfold chkS at hc
    split at hc
    · unfold hS; exact ps_ret (hE_ok h.toXOk c hc)
    · cases hc
  | .ite c a b, s, hc => by
    unfold chkS at hc
    split at hc
    · simp only [Bool.and_eq_true] at hc
      unfold hS
      exact ps_if (hT_ok h.toXOk c hc.1.1) (hSs_ok h a hc.1.2) (hSs_ok h b hc.2)
    · cases hc
  | .for g it b, s, hc => by
    unfold chkS at hc
    split at hc
    · rename_i tg iter x pos
      simp only [Bool.and_eq_true, Bool.not_eq_true'] at hc
      obtain ⟨⟨⟨h1, h2⟩, h3⟩, h4⟩ := hc
      have hIo := hI_ok h.toXOk it (tg := tg) h3
      unfold hS
      cases g with
      | name i =>
        unfold chkG at h1
        split at h1
        · rename_i heq
          cases heq
          exact ps_for h.pass h.calm hIo.1 (h.toXOk.loc h1) (hSs_ok h b h4) (set_ok hIo.2)
        · rename_i heq; cases heq
        · cases h1
      | _ => exact ps_no
    · cases hc
  | .set2 .., _, _ | .unp .., _, _ | .par .., _, _ | .aug .., _, _ | .augx .., _, _ | .retN, _, _ | .whl .., _, _ | .brk, _, _ | .cnt, _, _ | .pas, _, _ | .rai .., _, _ | .try .., _, _ | .bad, _, _ => by
    unfold hS; exact ps_no
theorem hSs_ok (h : SOk X T Γ M) : ∀ (c : CSs) {s : List Stmt}, chkSs T c s = true → PSs X s (hSs (EvX M) Γ X.K c)
  | .nil, s, hc => by
    unfold chkSs at hc
    split at hc
    · unfold hSs; exact pss_nil
    · cases hc
  | .cons a r, s, hc => by
    unfold chkSs at hc
    split at hc
    · rw [Bool.and_eq_true] at hc
      unfold hSs
      exact pss_cons (hS_ok h a hc.1) (hSs_ok h r hc.2)
    · cases hc
end
end
end VI
set_option autoImplicit true
set_option Elab.async false
set_option linter.all false
set_option maxRecDepth 100000
set_option maxHeartbeats 4000000
namespace VI
open PySem PySem.Spec PyProof.Rows L2
def listify : Nat → D → D
  | 0, d => d
  | n + 1, .lst xs => .lst (xs.map (listify n))
  | n + 1, .tup xs => .lst (xs.map (listify n))
  | _ + 1, d => d
def rowOf : D → Option (List D)
  | .lst xs => some xs
  | .tup xs => some xs
  | _ => none
mutual
def D.plain : D → Bool
  | .non => true
  | .bl _ => true
  | .int _ => true
  | .str _ => true
  | .tup xs => D.plains xs
  | .lst xs => D.plains xs
  | _ => false
def D.plains : List D → Bool
  | [] => true
  | x :: xs => x.plain && D.plains xs
end
mutual
def D.cnt : D → Nat
  | .tup xs => D.cnts xs + 1
  | .lst xs => D.cnts xs + 1
  | _ => 1
def D.cnts : List D → Nat
  | [] => 0
  | x :: xs => x.cnt + D.cnts xs
end
theorem D.plains_all : ∀ {xs : List D}, D.plains xs = true ↔ ∀ x ∈ xs, x.plain = true
  | [] => by simp [D.plains]
  | x :: xs => by simp [D.plains, D.plains_all (xs := xs)]
theorem D.cnt_pos (d : D) : 1 ≤ d.cnt := by cases d <;> simp [D.cnt]
theorem D.cnts_len : ∀ (xs : List D), xs.length ≤ D.cnts xs
  | [] => by simp [D.cnts]
  | x :: xs => by have := D.cnts_len xs; have := x.cnt_pos; simp [D.cnts]; omega
theorem rowOf_cnt {d : D} {es : List D} (h : rowOf d = some es) : d.cnt = D.cnts es + 1 := by
  cases d <;> first | (cases h; rfl) | cases h
theorem rowOf_plain {d : D} {es : List D} (h : rowOf d = some es) (hp : d.plain = true) : D.plains es = true := by
  cases d <;> first | (cases h; exact hp) | cases h
theorem listify_row {r : Nat} {d : D} {es : List D} (h : rowOf d = some es) : listify (r + 1) d = .lst (es.map (listify r)) := by
  cases d <;> first | cases h <;> rfl | cases h
theorem listify_atom {r : Nat} {d : D} (h : rowOf d = none) : listify r d = d := by
  cases r with
  | zero => rfl
  | succ r => cases d <;> first | rfl | cases h
abbrev FrL := List (Addr × List D)
mutual
inductive Gr (K : PySem.W.Frag) (H : Hp) (F I : Addr → Prop) : Nat → V → D → FrL → Prop
  | atom {r v d} : Rep K H F 0 v d [] → rowOf d = none → Gr K H F I (r + 1) v d []
  | last {b ws d es} : H b = some (.lst ws) → rowOf d = some es → Reps K H F 0 ws es [] → Gr K H F I 1 (.ref b) d [(b, es)]
  | inner {r b ws d es fr} : H b = some (.lst ws) → I b → rowOf d = some es → Grs K H F I (r + 1) ws es fr → Gr K H F I (r + 2) (.ref b) d fr
inductive Grs (K : PySem.W.Frag) (H : Hp) (F I : Addr → Prop) : Nat → List V → List D → FrL → Prop
  | nil {r} : Grs K H F I r [] [] []
  | cons {r v vs d ds fr fs} : Gr K H F I r v d fr → Grs K H F I r vs ds fs → Grs K H F I r (v :: vs) (d :: ds) (fr ++ fs)
end
section
variable {K : PySem.W.Frag} {H H' : Hp} {F F' I I' W : Addr → Prop} {g : Addr → FrL}
mutual
theorem Gr.done (m : ∀ a, F a → F' a) (hI : ∀ a, I a → F' a) : ∀ {r : Nat} {v : V} {d : D} {fr : FrL}, Gr K H F I r v d fr → (∀ q ∈ fr, F' q.1) → Rep K H F' 0 v (listify r d) []
  | _, _, _, _, .atom h n, _ => by rw [listify_atom n]; exact h.mono m
  | _, _, _, _, .last (es := es) h e g, hf => by
    rw [listify_row e]
    have : es.map (listify 0) = es := by simp [show listify 0 = id from rfl]
    rw [this]
    exact .lst0 h (hf _ List.mem_cons_self) (g.mono m)
  | _, _, _, _, .inner h i e g, hf => by rw [listify_row e]; exact .lst0 h (hI _ i) (Grs.done m hI g hf)
theorem Grs.done (m : ∀ a, F a → F' a) (hI : ∀ a, I a → F' a) : ∀ {r : Nat} {vs : List V} {ds : List D} {fr : FrL}, Grs K H F I r vs ds fr → (∀ q ∈ fr, F' q.1) → Reps K H F' 0 vs (ds.map (listify r)) []
  | _, _, _, _, .nil, _ => .nil
  | _, _, _, _, .cons h g, hf => .cons (Gr.done m hI h fun a z => hf a (List.mem_append_left _ z)) (Grs.done m hI g fun a z => hf a (List.mem_append_right _ z))
end
mutual
theorem Gr.keep (kp : Keeps W H H') (nt : Lists W H) (hF : ∀ a, F a → ¬ W a) (hI : ∀ a, I a → ¬ W a) (mI : ∀ a, I a → I' a) : ∀ {r : Nat} {v : V} {d : D} {fr : FrL}, Gr K H F I r v d fr → (∀ q ∈ fr, ¬ W q.1) → Gr K H' F I' r v d fr
  | _, _, _, _, .atom h n, _ => .atom (h.keep kp nt hF (fun _ z => z) fun _ z => nomatch z) n
  | _, _, _, _, .last h e g, hf => .last (kp _ _ h (hf _ List.mem_cons_self)) e (g.keep kp nt hF (fun _ z => z) fun _ z => nomatch z)
  | _, _, _, _, .inner h i e g, hf => .inner (kp _ _ h (hI _ i)) (mI _ i) e (Grs.keep kp nt hF hI mI g hf)
theorem Grs.keep (kp : Keeps W H H') (nt : Lists W H) (hF : ∀ a, F a → ¬ W a) (hI : ∀ a, I a → ¬ W a) (mI : ∀ a, I a → I' a) : ∀ {r : Nat} {vs : List V} {ds : List D} {fr : FrL}, Grs K H F I r vs ds fr → (∀ q ∈ fr, ¬ W q.1) → Grs K H' F I' r vs ds fr
  | _, _, _, _, .nil, _ => .nil
  | _, _, _, _, .cons h g, hf => .cons (Gr.keep kp nt hF hI mI h fun a z => hf a (List.mem_append_left _ z)) (Grs.keep kp nt hF hI mI g fun a z => hf a (List.mem_append_right _ z))
end
mutual
theorem Gr.step (kp : ∀ {v d}, Rep K H F 0 v d [] → Rep K H' F 0 v d []) (kI : ∀ a o, I a → H a = some o → H' a = some o) (mI : ∀ a, I a → I' a) : ∀ {r : Nat} {v : V} {d : D} {fr : FrL}, Gr K H F I (r + 1) v d fr → (∀ q ∈ fr, I' q.1) →
    (∀ q ∈ fr, ∃ ws', H' q.1 = some (.lst ws') ∧ Grs K H' F I' 1 ws' q.2 (g q.1)) → Gr K H' F I' (r + 2) v d (fr.flatMap fun q => g q.1)
  | _, _, _, _, .atom h n, _, _ => .atom (kp h) n
  | _, _, _, _, .last (b := b) h e q, hI, hb => by
    obtain ⟨ws', h', q'⟩ := hb _ List.mem_cons_self
    have z := Gr.inner (I := I') h' (hI _ List.mem_cons_self) e q'
    simpa using z
  | _, _, _, _, .inner h i e q, hI, hb => .inner (kI _ _ i h) (mI _ i) e (Grs.step kp kI mI q hI hb)
theorem Grs.step (kp : ∀ {v d}, Rep K H F 0 v d [] → Rep K H' F 0 v d []) (kI : ∀ a o, I a → H a = some o → H' a = some o) (mI : ∀ a, I a → I' a) : ∀ {r : Nat} {vs : List V} {ds : List D} {fr : FrL}, Grs K H F I (r + 1) vs ds fr → (∀ q ∈ fr, I' q.1) →
    (∀ q ∈ fr, ∃ ws', H' q.1 = some (.lst ws') ∧ Grs K H' F I' 1 ws' q.2 (g q.1)) → Grs K H' F I' (r + 2) vs ds (fr.flatMap fun q => g q.1)
  | _, _, _, _, .nil, _, _ => .nil
  | _, _, _, _, .cons h q, hI, hb => by
    rw [List.flatMap_append]
    exact .cons (Gr.step kp kI mI h (fun a z => hI a (List.mem_append_left _ z)) fun b z => hb b (List.mem_append_left _ z)) (Grs.step kp kI mI q (fun a z => hI a (List.mem_append_right _ z)) fun b z => hb b (List.mem_append_right _ z))
end
mutual
theorem Gr.front : ∀ {r : Nat} {v : V} {d : D} {fr : FrL}, Gr K H F I r v d fr → d.plain = true → ∀ q ∈ fr, (∃ ws, H q.1 = some (.lst ws) ∧ Reps K H F 0 ws q.2 []) ∧ D.plains q.2 = true
  | _, _, _, _, .atom _ _, _, _, h => nomatch h
  | _, _, _, _, .last h e g, hp, q, hq => by
    obtain rfl := List.mem_singleton.mp hq
    exact ⟨⟨_, h, g⟩, rowOf_plain e hp⟩
  | _, _, _, _, .inner h i e g, hp, q, hq => Grs.front g (rowOf_plain e hp) q hq
theorem Grs.front : ∀ {r : Nat} {vs : List V} {ds : List D} {fr : FrL}, Grs K H F I r vs ds fr → D.plains ds = true → ∀ q ∈ fr, (∃ ws, H q.1 = some (.lst ws) ∧ Reps K H F 0 ws q.2 []) ∧ D.plains q.2 = true
  | _, _, _, _, .nil, _, _, h => nomatch h
  | _, _, _, _, .cons h g, hp, q, hq => by
    rw [D.plains, Bool.and_eq_true] at hp
    rcases List.mem_append.mp hq with z | z
    · exact Gr.front h hp.1 q z
    · exact Grs.front g hp.2 q z
end
def lens : FrL → Nat
  | [] => 0
  | q :: r => q.2.length + lens r
theorem lens_append : ∀ {a b : FrL}, lens (a ++ b) = lens a + lens b
  | [], b => by simp [lens]
  | q :: a, b => by simp [lens, lens_append (a := a) (b := b)]; omega
mutual
theorem Gr.size : ∀ {r : Nat} {v : V} {d : D} {fr : FrL}, Gr K H F I r v d fr → fr.length ≤ d.cnt ∧ lens fr ≤ d.cnt
  | _, _, _, _, .atom _ _ => ⟨Nat.zero_le _, Nat.zero_le _⟩
  | _, _, _, _, .last (es := es) h e g => by
    have := D.cnts_len es
    rw [rowOf_cnt e]; simp [lens]; omega
  | _, _, _, _, .inner h i e g => by
    have := Grs.size g
    rw [rowOf_cnt e]; omega
theorem Grs.size : ∀ {r : Nat} {vs : List V} {ds : List D} {fr : FrL}, Grs K H F I r vs ds fr → fr.length ≤ D.cnts ds ∧ lens fr ≤ D.cnts ds
  | _, _, _, _, .nil => ⟨Nat.zero_le _, Nat.zero_le _⟩
  | _, _, _, _, .cons h g => by
    have := Gr.size h
    have := Grs.size g
    rw [List.length_append, lens_append, D.cnts]; omega
end
theorem Reps.len : ∀ {k : Nat} {vs : List V} {ds : List D} {fp : List Addr}, Reps K H F k vs ds fp → vs.length = ds.length
  | _, _, _, _, .nil => rfl
  | _, _, _, _, .cons _ r => by simp [Reps.len r]
theorem Reps.get0 : ∀ {vs : List V} {ds : List D} {i : Nat} {d : D}, Reps K H F 0 vs ds [] → ds[i]? = some d → ∃ v, vs[i]? = some v ∧ Rep K H F 0 v d [] := by
  intro vs
  induction vs with
  | nil => intro ds i d r h; cases r; cases h
  | cons v vs ih =>
    intro ds i d r h
    cases ds with
    | nil => cases r
    | cons d0 ds =>
      generalize hz : ([] : List Addr) = z at r
      cases r with
      | cons a b =>
        rename_i f1 f2
        obtain ⟨rfl, rfl⟩ := List.append_eq_nil_iff.mp hz.symm
        cases i with
        | zero => simp at h; subst h; exact ⟨v, rfl, a⟩
        | succ i => exact ih b (by simpa using h)
theorem Grs.snoc {I : Addr → Prop} {r : Nat} {v : V} {d : D} {fs : FrL} (h2 : Gr K H F I r v d fs) : ∀ {vs : List V} {ds : List D} {fr : FrL}, Grs K H F I r vs ds fr → Grs K H F I r (vs ++ [v]) (ds ++ [d]) (fr ++ fs)
  | _, _, _, .nil => by simpa using Grs.cons h2 .nil
  | _, _, _, .cons h g => by simpa [List.append_assoc] using Grs.cons h (Grs.snoc h2 g)
end
end VI
set_option autoImplicit true
set_option Elab.async false
set_option linter.all false
set_option maxRecDepth 100000
set_option maxHeartbeats 4000000
namespace VI
open PySem PySem.Spec PyProof.Rows L2
def lsItem : CSs := .cons (.ite (.fn "_law_is_row" (.cons (.sub (.var 5) (.var 6)) .nil)) (.cons (.six (.var 5) (.var 6) (.bi "list" (.cons (.sub (.var 5) (.var 6)) .nil))) (.cons (.exp (.mut "append" (.var 4) (.cons (.sub (.var 5) (.var 6)) .nil))) .nil)) .nil) .nil
def lsRow : CSs := .cons (.for (.name 6) (.rng (.bi "len" (.cons (.var 5) .nil))) lsItem) .nil
def lsRound : CSs := .cons (.set 4 (.lst .nil)) (.cons (.for (.name 5) (.seq (.var 2)) lsRow) (.cons (.set 2 (.bi "list" (.cons (.var 4) .nil))) .nil))
def lsB : CSs := .cons (.set 1 (.lst (.cons (.var 0) .nil))) (.cons (.set 2 (.lst (.cons (.var 1) .nil))) (.cons (.for (.name 3) (.rng (.int 9)) lsRound) (.cons (.ret (.sub (.var 1) (.int 0))) .nil)))
def lsN : List Str := ["value", "out", "rows", "deep", "inner", "row", "k"]
section
variable {Ev : EvT} {Γ : Sm} {K : PySem.W.Frag} {F : Addr → Prop} {σ : L2.St} {H : Hp} {D₀ : Ends} {b J : Addr} {ws acc : List V} {k : Nat} {w : V} {e : D}
theorem row_at {es : List D} (r : Rep K H F 0 w e []) (h : rowOf e = some es) : ∃ a we, w = .ref a ∧ (SqL K H a we ∨ SqT K H a we) ∧ Reps K H F 0 we es [] := by
  generalize hz : ([] : List Addr) = z at r
  cases r with
  | tup h1 n r => cases h; subst hz; exact ⟨_, _, rfl, .inr (.inl (.inr ⟨_, h1⟩)), r⟩
  | lst0 h1 f r => cases h; exact ⟨_, _, rfl, .inl (.inl (.inl h1)), r.fp0 ▸ r⟩
  | _ => cases h
theorem ixN_n {n j : Nat} (hj : j < n) : ixN n (j : Int) = some j := by
  unfold ixN
  rw [if_pos (by omega), if_pos (by omega)]
  simp
structure RowC (Γ : Sm) : Prop where
  ino : Γ.ino "_law_is_row" = false
  call : ∀ e : D, e.plain = true → Γ.call "_law_is_row" [(0, e)] = .ok 9 (.bl (rowOf e).isSome) none
theorem ls_item (C : RowC Γ) (s4 : σ[4]? = some (some (.ref J))) (s5 : σ[5]? = some (some (.ref b))) (s6 : σ[6]? = some (some (.int (k : Nat)))) (hb : H b = some (.lst ws)) (hw : ws[k]? = some w) (r : Rep K H F 0 w e []) (hp : e.plain = true)
    (hJ : H J = some (.lst acc)) (hJb : J ≠ b) (hz : acc.length < sizeLine) (hF : ∀ a, F a → ∃ xs, H a = some (.lst xs)) (hFb : ∀ a, F a → ¬ (a = b ∨ a = J))
    (k1 : rowOf e = none → ∀ H', (∀ a o, H a = some o → H' a = some o) → D₀.nx σ H')
    (k2 : ∀ es, rowOf e = some es → ∀ H' p we, H p = none → H' p = some (.lst we) → Reps K H' F 0 we es [] → H' b = some (.lst (ws.set k (.ref p))) → H' J = some (.lst (acc ++ [.ref p])) → Keeps (fun a => a = b ∨ a = J) H H' → D₀.nx σ H') :
    hSs Ev Γ K lsItem D₀ σ H := by
  simp only [lsItem, hSs, hS, hT, hE, hA, tSeq, tIfS, tCallS, tCons, tNil, tOp, tVar, tNext]
  refine ⟨.ref b, s5, .int (k : Nat), s6, .inl ⟨b, ws, _, w, rfl, rfl, SqL.of hb, atI_nat hw, ?_⟩⟩
  refine ⟨[(0, e)], F, fun _ => False, ⟨hF, fun _ z => z.elim, fun _ _ z => z, ?_⟩, ?_⟩
  · rw [C.ino]
    exact ⟨⟨rfl, r, trivial⟩, fun _ z => z⟩
  · rw [C.call e hp, C.ino]
    refine ⟨rfl, fun v H1 ⟨F', lab', g, c, _⟩ => ?_⟩
    have ex : ∀ a o, H a = some o → H1 a = some o := fun a o h => g.keep a o h fun z => z
    obtain ⟨fp, rb, _⟩ := c
    cases rb
    refine ⟨_, rfl, ?_⟩
    cases hr : rowOf e with
    | none => simp only [Option.isSome_none, Bool.false_eq_true, if_false]; exact k1 hr H1 ex
    | some es =>
      simp only [Option.isSome_some, if_true]
      have r1 : Rep K H1 F 0 w e [] := r.keep (W := fun _ => False) (fun a o h _ => ex a o h) lists_none (fun _ _ z => z) (fun _ z => z) fun _ z => nomatch z
      obtain ⟨a, we, rfl, hs, rr⟩ := row_at r1 hr
      have hb1 := ex b _ hb
      have hJ1 := ex J _ hJ
      simp only [tAsg, tCB, rListS, gSub, tDrop, tBM]
      refine ⟨.ref b, s5, .int (k : Nat), s6, .inl ⟨b, ws, _, _, rfl, rfl, SqL.of hb1, atI_nat hw, ?_⟩⟩
      refine ⟨a, we, rfl, hs, fun p hp1 => ?_⟩
      have pb : b ≠ p := ne_of_none hb1 hp1
      have pJ : J ≠ p := ne_of_none hJ1 hp1
      have hk : k < ws.length := (List.getElem?_eq_some_iff.mp hw).1
      refine ⟨.ref b, s5, .int (k : Nat), s6, b, ws, _, k, rfl, rfl, by rw [upd_ne pb]; exact hb1, ixN_n hk, ?_⟩
      simp only [tSeq, tDrop, tBM, tCons, tOp, tVar, tNil, tNext]
      refine ⟨.ref J, s4, .inl ⟨rfl, acc, SqL.of (by rw [upd_ne hJb, upd_ne pJ]; exact hJ1)⟩, ?_⟩
      refine ⟨.ref b, s5, .int (k : Nat), s6, .inl ⟨b, _, _, .ref p, rfl, rfl, SqL.of upd_same, atI_nat (by rw [List.getElem?_set_self hk]), ?_⟩⟩
      refine ⟨J, acc, .ref p, rfl, rfl, by rw [upd_ne hJb, upd_ne pJ]; exact hJ1, hz, ?_⟩
      have hH : H p = none := by
        cases q : H p with
        | none => rfl
        | some o => rw [ex p o q] at hp1; cases hp1
      have kp : ∀ a o, H1 a = some o → ¬ (a = b ∨ a = J) → upd (upd (upd H1 p (.lst we)) b (.lst (ws.set k (.ref p)))) J (.lst (acc ++ [.ref p])) a = some o := fun a o h n => by
        rw [upd_ne (fun z => n (.inr z)), upd_ne (fun z => n (.inl z)), upd_ne (ne_of_none h hp1)]; exact h
      have hl : Lists (fun a => a = b ∨ a = J) H1 := fun a z o h => by
        rcases z with rfl | rfl
        · rw [hb1] at h; cases h; exact ⟨_, rfl⟩
        · rw [hJ1] at h; cases h; exact ⟨_, rfl⟩
      refine k2 es hr _ p we hH ?_ ?_ ?_ upd_same fun a o h n => kp a o (ex a o h) n
      · rw [upd_ne (Ne.symm pJ), upd_ne (Ne.symm pb)]; exact upd_same
      · exact rr.keep kp hl hFb (fun _ z => z) fun _ z => nomatch z
      · rw [upd_ne (Ne.symm hJb)]; exact upd_same
structure Sg (σ : L2.St) (A B J : Addr) : Prop where
  len : σ.length = 7
  a : σ[1]? = some (some (.ref A))
  b : σ[2]? = some (some (.ref B))
  j : σ[4]? = some (some (.ref J))
theorem Sg.set {A B : Addr} (h : Sg σ A B J) {i : Nat} (hi : i ≠ 1 ∧ i ≠ 2 ∧ i ≠ 4) (v : V) : Sg (σ.set i (some v)) A B J :=
  ⟨by rw [List.length_set, h.len], by rw [List.getElem?_set_ne hi.1]; exact h.a, by rw [List.getElem?_set_ne hi.2.1]; exact h.b, by rw [List.getElem?_set_ne hi.2.2]; exact h.j⟩
abbrev noI : Addr → Prop := fun _ => False
theorem ls_row {A B : Addr} {es : List D} (C : RowC Γ) (sg : Sg σ A B J) (s5 : σ[5]? = some (some (.ref b))) (hb : H b = some (.lst ws)) (r : Reps K H F 0 ws es []) (hp : D.plains es = true) (hJ : H J = some (.lst acc)) (hJb : J ≠ b) (hz : acc.length + es.length < sizeLine)
    (hl : es.length < 2 ^ 62) (hF : ∀ a, F a → ∃ xs, H a = some (.lst xs)) (hFb : ∀ a, F a → ¬ (a = b ∨ a = J))
    (kk : ∀ σ' H' ws' gk, Sg σ' A B J → H' b = some (.lst ws') → Grs K H' F noI 1 ws' es gk → H' J = some (.lst (acc ++ gk.map fun q => .ref q.1)) → (∀ q ∈ gk, H q.1 = none) → (gk.map (·.1)).Nodup → gk.length ≤ es.length → Keeps (fun a => a = b ∨ a = J) H H' → D₀.nx σ' H') :
    hSs Ev Γ K lsRow D₀ σ H := by
  have hlen := r.len
  simp only [lsRow, hSs, hS, hI, hE, hA, tSeq, tNext, tFor, iRng1, tCB, tCons, tVar, tNil, if_true]
  refine ⟨.ref b, s5, b, ws, rfl, .inl (SqL.of hb), ws.length, rfl, by omega, by omega, ?_⟩
  rw [Int.toNat_natCast]
  have hW : Lists (fun a => a = b ∨ a = J) H := fun a z o h => by
    rcases z with rfl | rfl
    · rw [hb] at h; cases h; exact ⟨_, rfl⟩
    · rw [hJ] at h; cases h; exact ⟨_, rfl⟩
  refine for_range (lo := 0) (n := ws.length) (fun k σ' H' => ∃ wk gk, Sg σ' A B J ∧ σ'[5]? = some (some (.ref b)) ∧ k ≤ ws.length ∧ H' b = some (.lst (wk ++ ws.drop k)) ∧ wk.length = k ∧ Grs K H' F noI 1 wk (es.take k) gk ∧ H' J = some (.lst (acc ++ gk.map fun q => .ref q.1)) ∧ (∀ q ∈ gk, H q.1 = none) ∧ (gk.map (·.1)).Nodup ∧ gk.length ≤ k ∧ Keeps (fun a => a = b ∨ a = J) H H')
    ⟨[], [], sg, s5, Nat.zero_le _, by simpa using hb, rfl, .nil, by simpa using hJ, by simp, by simp, Nat.zero_le _, fun a o h _ => h⟩ ?_ ?_
  · rintro i σ1 H1 hi ⟨wk, gk, g1, g5, _, h1, h2, h3, h4, h5, h6, h7, h8⟩
    have hie : i < es.length := by omega
    have he : es[i]? = some es[i] := List.getElem?_eq_getElem hie
    obtain ⟨w, hw, rw0⟩ := r.get0 he
    have r1 := rw0.keep h8 hW hFb (fun _ z => z) fun _ z => nomatch z
    have hd : ws.drop i = w :: ws.drop (i + 1) := by
      rw [List.drop_eq_getElem_cons hi]
      congr 1
      exact Option.some.inj ((List.getElem?_eq_getElem hi).symm.trans hw)
    have hF1 : ∀ a, F a → ∃ xs, H1 a = some (.lst xs) := fun a ha => let ⟨xs, q⟩ := hF a ha; ⟨xs, h8 a _ q (hFb a ha)⟩
    have ht : es.take (i + 1) = es.take i ++ [es[i]] := by rw [List.take_add_one, he]; rfl
    have hpe : es[i].plain = true := D.plains_all.mp hp _ (List.getElem_mem hie)
    have gn : ∀ q ∈ gk, ¬ (q.1 = b ∨ q.1 = J) := fun q hq z => by
      have := h5 q hq
      rcases z with z | z
      · rw [z, hb] at this; cases this
      · rw [z, hJ] at this; cases this
    have hW1 : Lists (fun a => a = b ∨ a = J) H1 := fun a z o h => by
      rcases z with rfl | rfl
      · rw [h1] at h; cases h; exact ⟨_, rfl⟩
      · rw [h4] at h; cases h; exact ⟨_, rfl⟩
    show hSs Ev Γ K lsItem _ (σ1.set 6 (some (.int (0 + (i : Nat))))) H1
    have g2 : Sg (σ1.set 6 (some (.int (0 + (i : Nat))))) A B J := g1.set (by decide) _
    have g25 : (σ1.set 6 (some (V.int (0 + (i : Nat)))))[5]? = some (some (.ref b)) := by rw [List.getElem?_set_ne (by decide)]; exact g5
    refine ls_item (w := w) (e := es[i]) (acc := acc ++ gk.map fun q => .ref q.1) C g2.j g25 (by rw [List.getElem?_set_self (by rw [g1.len]; decide), Int.zero_add]) h1 (by rw [List.getElem?_append_right (by omega), h2, Nat.sub_self, hd]; rfl) r1 hpe h4 hJb (by simp; omega) hF1 hFb ?_ ?_
    · intro hr H2 ex
      have kp : Keeps (fun _ => False) H1 H2 := fun a o h _ => ex a o h
      refine ⟨wk ++ [w], gk, g2, g25, hi, ?_, by simp [h2], ?_, ex _ _ h4, h5, h6, by omega, fun a o h n => ex _ _ (h8 a o h n)⟩
      · rw [ex _ _ h1, hd]; simp
      · rw [ht]
        have := (h3.keep kp lists_none (fun _ _ z => z) (fun _ z => z.elim) (fun _ z => z) fun _ _ z => z : Grs K H2 F noI 1 wk (es.take i) gk).snoc (.atom (r1.keep kp lists_none (fun _ _ z => z) (fun _ z => z) fun _ z => nomatch z) hr)
        simpa using this
    · intro es2 hr H2 p we hp2 q1 q2 q3 q4 kp
      have hHp : H p = none := by
        cases q : H p with
        | none => rfl
        | some o =>
          by_cases z : p = b ∨ p = J
          · rcases z with rfl | rfl
            · rw [h1] at hp2; cases hp2
            · rw [h4] at hp2; cases hp2
          · rw [h8 p o q z] at hp2; cases hp2
      have gp : ∀ q ∈ gk, q.1 ≠ p := fun q hq z => by
        have := Grs.front h3 (by
          have hall := D.plains_all.mp hp
          exact D.plains_all.mpr fun x hx => hall x (List.mem_of_mem_take hx)) q hq
        obtain ⟨⟨us, hu, _⟩, _⟩ := this
        rw [z, hp2] at hu; cases hu
      refine ⟨wk ++ [.ref p], gk ++ [(p, es2)], g2, g25, hi, ?_, by simp [h2], ?_, ?_, ?_, ?_, by simp; omega, fun a o h n => kp _ _ (h8 a o h n) n⟩
      · rw [q3, hd, List.set_append_right _ _ (by omega), h2, Nat.sub_self]; simp
      · rw [ht]
        exact (h3.keep kp hW1 hFb (fun _ z => z.elim) (fun _ z => z) gn : Grs K H2 F noI 1 wk (es.take i) gk).snoc (.last q1 hr q2)
      · rw [q4]; simp
      · intro q hq
        rcases List.mem_append.mp hq with z | z
        · exact h5 q z
        · obtain rfl := List.mem_singleton.mp z; exact hHp
      · rw [List.map_append]
        refine List.nodup_append.mpr ⟨h6, by simp, fun a ha c hc z => ?_⟩
        obtain ⟨q, hq, rfl⟩ := List.mem_map.mp ha
        simp at hc
        exact gp q hq (z.trans hc)
  · rintro σ1 H1 ⟨wk, gk, g1, g5, _, h1, h2, h3, h4, h5, h6, h7, h8⟩
    rw [List.take_of_length_le (by omega)] at h3
    rw [List.drop_length, List.append_nil] at h1
    exact kk σ1 H1 wk gk g1 h1 h3 h4 h5 h6 (by omega) h8
end
end VI
set_option autoImplicit true
set_option Elab.async false
set_option linter.all false
set_option maxRecDepth 100000
set_option maxHeartbeats 4000000
namespace VI
open PySem PySem.Spec PyProof.Rows L2
section
variable {Ev : EvT} {Γ : Sm} {K : PySem.W.Frag} {F : Addr → Prop} {σ : L2.St} {H₀ H : Hp} {D₀ : Ends} {A : Addr} {d : D} {r : Nat}
structure Rnd (K : PySem.W.Frag) (F : Addr → Prop) (H₀ : Hp) (A : Addr) (d : D) (r : Nat) (I : Addr → Prop) (fr : FrL) (B : Addr) (σ : L2.St) (H : Hp) : Prop where
  len : σ.length = 7
  a : σ[1]? = some (some (.ref A))
  b : σ[2]? = some (some (.ref B))
  gr : Gr K H F I (r + 1) (.ref A) (.lst [d]) fr
  rows : H B = some (.lst (fr.map fun q => .ref q.1))
  ext : ∀ a o, H₀ a = some o → H a = some o
  fresh : ∀ q ∈ fr, H₀ q.1 = none ∧ ¬ I q.1 ∧ q.1 ≠ B
  nd : (fr.map (·.1)).Nodup
  inn : ∀ a, I a → H₀ a = none ∧ ∃ xs, H a = some (.lst xs)
theorem lens_take {fr : FrL} {i : Nat} {q : Addr × List D} (h : fr[i]? = some q) : lens (fr.take i) + q.2.length = lens (fr.take (i + 1)) := by
  rw [List.take_add_one, h, lens_append]; simp [lens]
theorem lens_le {fr : FrL} {i : Nat} : lens (fr.take i) ≤ lens fr := by
  have : fr = fr.take i ++ fr.drop i := (List.take_append_drop _ _).symm
  conv => rhs; rw [this, lens_append]
  omega
theorem ls_round {I : Addr → Prop} {fr : FrL} {B : Addr} (C : RowC Γ) (s : Rnd K F H₀ A d r I fr B σ H) (hp : d.plain = true) (hz : d.cnt + 10 ≤ 16777216) (hF : ∀ a, F a → ∃ xs, H₀ a = some (.lst xs))
    (kk : ∀ σ' H' I' fr' B', Rnd K F H₀ A d (r + 1) I' fr' B' σ' H' → D₀.nx σ' H') : hSs Ev Γ K lsRound D₀ σ H := by
  have hsl : sizeLine = 16777216 := rfl
  have hpl : (D.lst [d]).plain = true := by simp [D.plain, D.plains, hp]
  have hcnt : (D.lst [d]).cnt = d.cnt + 1 := by simp [D.cnt, D.cnts]
  obtain ⟨z1, z2⟩ := s.gr.size
  rw [hcnt] at z1 z2
  simp only [lsRound, hSs, hS, hI, hE, hA, tSeq, tNext, tFor, iList, tAsg, gName, tLst, tCB, tCons, tVar, tNil, if_true]
  simp only [CE.isLc, Bool.false_eq_true, if_false]
  refine ⟨Nat.zero_le _, fun J hJ => ?_⟩
  have hFo : ∀ a, F a → ∃ xs, H a = some (.lst xs) := fun a ha => let ⟨xs, q⟩ := hF a ha; ⟨xs, s.ext _ _ q⟩
  have frl : ∀ q ∈ fr, (∃ ws, H q.1 = some (.lst ws) ∧ Reps K H F 0 ws q.2 []) ∧ D.plains q.2 = true := fun q hq => Gr.front s.gr hpl q hq
  have BJ : B ≠ J := ne_of_none s.rows hJ
  have frJ : ∀ q ∈ fr, q.1 ≠ J := fun q hq => let ⟨⟨ws, h, _⟩, _⟩ := frl q hq; ne_of_none h hJ
  let W : Addr → Prop := fun a => a = J ∨ ∃ q ∈ fr, q.1 = a
  have hWl : Lists W H := fun a z o h => by
    rcases z with rfl | ⟨q, hq, rfl⟩
    · rw [hJ] at h; cases h
    · obtain ⟨⟨ws, h2, _⟩, _⟩ := frl q hq
      rw [h2] at h; cases h; exact ⟨_, rfl⟩
  have hFW : ∀ a, F a → ¬ W a := fun a ha z => by
    obtain ⟨xs, q0⟩ := hF a ha
    rcases z with rfl | ⟨q, hq, rfl⟩
    · rw [s.ext _ _ q0] at hJ; cases hJ
    · rw [(s.fresh q hq).1] at q0; cases q0
  have BW : ¬ W B := fun z => by
    rcases z with z | ⟨q, hq, z⟩
    · exact BJ z
    · exact (s.fresh q hq).2.2 z
  have IW : ∀ a, I a → ¬ W a := fun a ha z => by
    obtain ⟨_, xs, q0⟩ := s.inn a ha
    rcases z with rfl | ⟨q, hq, rfl⟩
    · rw [hJ] at q0; cases q0
    · exact (s.fresh q hq).2.1 ha
  refine ⟨.ref B, by rw [List.getElem?_set_ne (by decide)]; exact s.b, B, rfl, ⟨_, SqL.of (by rw [upd_ne BJ]; exact s.rows)⟩, ?_⟩
  refine for_list (xs := fr.map fun q => V.ref q.1) (fun i σ' H' => ∃ g : Addr → FrL, Sg σ' A B J ∧ Keeps W H H' ∧ (∀ q ∈ fr.drop i, H' q.1 = H q.1) ∧ (∀ q ∈ fr.take i, ∃ ws', H' q.1 = some (.lst ws') ∧ Grs K H' F noI 1 ws' q.2 (g q.1)) ∧
      H' J = some (.lst (((fr.take i).flatMap fun q => g q.1).map fun q => V.ref q.1)) ∧ (∀ q ∈ (fr.take i).flatMap fun q => g q.1, H q.1 = none ∧ q.1 ≠ J) ∧ (((fr.take i).flatMap fun q => g q.1).map (·.1)).Nodup ∧ ((fr.take i).flatMap fun q => g q.1).length ≤ lens (fr.take i)) ?_ ?_ ?_ ?_
  · refine ⟨fun _ => [], ⟨by rw [List.length_set, s.len], by rw [List.getElem?_set_ne (by decide)]; exact s.a, by rw [List.getElem?_set_ne (by decide)]; exact s.b, by rw [List.getElem?_set_self (by rw [s.len]; decide)]⟩, fun a o h n => by rw [upd_ne (fun z => n (.inl z))]; exact h, fun q hq => upd_ne (frJ q (by simpa using hq)), by simp, by simp [upd_same], by simp, by simp, by simp [lens]⟩
  · rintro i σ1 H1 hi ⟨g, g1, g2, _⟩
    exact SqL.of (g2 _ _ s.rows BW)
  · rintro i x σ1 H1 hx ⟨g, g1, g2, g3, g4, g5, g6, g7, g8⟩
    rw [List.getElem?_map] at hx
    cases hq : fr[i]? with
    | none => rw [hq] at hx; cases hx
    | some q =>
      rw [hq] at hx
      cases hx
      have hqm : q ∈ fr := List.mem_of_getElem? hq
      obtain ⟨hil, hqe⟩ := List.getElem?_eq_some_iff.mp hq
      obtain ⟨⟨ws, hw, rw0⟩, hpq⟩ := frl q hqm
      have hdrop : fr.drop i = q :: fr.drop (i + 1) := by rw [List.drop_eq_getElem_cons hil, hqe]
      have htake : fr.take (i + 1) = fr.take i ++ [q] := by rw [List.take_add_one, hq]; rfl
      have hq1 : H1 q.1 = some (.lst ws) := by rw [g3 q (by rw [hdrop]; exact List.mem_cons_self)]; exact hw
      have hl2 := lens_take hq
      have hl3 := lens_le (fr := fr) (i := i + 1)
      have nd2 : ∀ q' ∈ fr.take i, q'.1 ≠ q.1 := fun q' h' z => by
        have hnd := s.nd
        rw [← List.take_append_drop i fr, hdrop, List.map_append] at hnd
        exact (List.nodup_append.mp hnd).2.2 q'.1 (List.mem_map_of_mem h') q.1 (by simp) z
      have nd3 : ∀ q' ∈ fr.drop (i + 1), q'.1 ≠ q.1 := fun q' h' z => by
        have hnd := s.nd
        rw [← List.take_append_drop i fr, hdrop, List.map_append] at hnd
        have := (List.nodup_cons.mp (by simpa using (List.nodup_append.mp hnd).2.1 : (q.1 :: (fr.drop (i + 1)).map (·.1)).Nodup)).1
        exact this (List.mem_map.mpr ⟨q', h', z⟩)
      show hSs Ev Γ K lsRow _ (σ1.set 5 (some (.ref q.1))) H1
      refine ls_row (A := A) (B := B) (es := q.2) C (g1.set (by decide) _) (by rw [List.getElem?_set_self (by rw [g1.len]; decide)]) hq1 (rw0.keep g2 hWl hFW (fun _ z => z) fun _ z => nomatch z) hpq g5 (Ne.symm (frJ q hqm)) (by rw [List.length_map]; omega) (by omega)
        (fun a ha => let ⟨xs, h⟩ := hFo a ha; ⟨xs, g2 _ _ h (hFW a ha)⟩) (fun a ha z => hFW a ha (by rcases z with rfl | rfl; exact .inr ⟨q, hqm, rfl⟩; exact .inl rfl)) ?_
      intro σ3 H3 ws' gk k1 k2 k3 k4 k5 k6 k7 k8
      have hold : ∀ q' ∈ fr.take i, (if q'.1 = q.1 then gk else g q'.1) = g q'.1 := fun q' h' => if_neg (nd2 q' h')
      have hflat : (fr.take (i + 1)).flatMap (fun q' => if q'.1 = q.1 then gk else g q'.1) = ((fr.take i).flatMap fun q' => g q'.1) ++ gk := by
        rw [htake, List.flatMap_append]
        congr 1
        · rw [List.flatMap_def, List.flatMap_def]
          congr 1
          exact List.map_congr_left hold
        · simp
      have hW1 : Lists (fun a => a = q.1 ∨ a = J) H1 := fun a z o h => by
        rcases z with rfl | rfl
        · rw [hq1] at h; cases h; exact ⟨_, rfl⟩
        · rw [g5] at h; cases h; exact ⟨_, rfl⟩
      have hFq : ∀ a, F a → ¬ (a = q.1 ∨ a = J) := fun a ha z => hFW a ha (by rcases z with rfl | rfl; exact .inr ⟨q, hqm, rfl⟩; exact .inl rfl)
      refine ⟨fun a => if a = q.1 then gk else g a, k1, fun a o h n => k8 _ _ (g2 _ _ h n) (fun z => n (by rcases z with rfl | rfl; exact .inr ⟨q, hqm, rfl⟩; exact .inl rfl)), fun q' h' => ?_, fun q' h' => ?_, ?_, ?_, ?_, ?_⟩
      · have h2 := g3 q' (by rw [hdrop]; exact List.mem_cons_of_mem _ h')
        have hm : q' ∈ fr := List.mem_of_mem_drop h'
        obtain ⟨⟨us, hu, _⟩, _⟩ := frl q' hm
        rw [hu] at h2 ⊢
        exact k8 _ _ h2 fun z => z.elim (nd3 q' h') (frJ q' hm)
      · rw [htake] at h'
        rcases List.mem_append.mp h' with h' | h'
        · obtain ⟨ws2, m1, m2⟩ := g4 q' h'
          have hm : q' ∈ fr := List.mem_of_mem_take h'
          refine ⟨ws2, k8 _ _ m1 (fun z => z.elim (nd2 q' h') (frJ q' hm)), ?_⟩
          dsimp only
          rw [if_neg (nd2 q' h')]
          refine m2.keep k8 hW1 hFq (fun _ z => z.elim) (fun _ z => z) fun q2 h2 z => ?_
          obtain ⟨n1, n2⟩ := g6 q2 (List.mem_flatMap.mpr ⟨q', h', h2⟩)
          rcases z with z | z
          · rw [z, hw] at n1; cases n1
          · exact n2 z
        · obtain rfl := List.mem_singleton.mp h'
          exact ⟨ws', k2, by dsimp only; rw [if_pos rfl]; exact k3⟩
      · rw [hflat, List.map_append]; exact k4
      · rw [hflat]
        intro q2 h2
        rcases List.mem_append.mp h2 with h2 | h2
        · exact g6 q2 h2
        · have n1 := k5 q2 h2
          refine ⟨?_, fun z => by rw [z, g5] at n1; cases n1⟩
          cases hh : H q2.1 with
          | none => rfl
          | some o =>
            by_cases z : W q2.1
            · rcases z with z | ⟨q3, m3, z⟩
              · rw [z, g5] at n1; cases n1
              · exfalso
                by_cases hd3 : q3 ∈ fr.take i
                · obtain ⟨us, hu, _⟩ := g4 q3 hd3
                  rw [z, n1] at hu; cases hu
                · have : q3 ∈ fr.drop i := by
                    rw [← List.take_append_drop i fr] at m3
                    exact (List.mem_append.mp m3).resolve_left hd3
                  have e3 := g3 q3 this
                  rw [z, n1, hh] at e3; cases e3
            · rw [g2 _ _ hh z] at n1; cases n1
      · rw [hflat, List.map_append]
        refine List.nodup_append.mpr ⟨g7, k6, fun a ha c hc z => ?_⟩
        obtain ⟨q2, h2, rfl⟩ := List.mem_map.mp ha
        obtain ⟨q3, h3, rfl⟩ := List.mem_map.mp hc
        have n1 := k5 q3 h3
        obtain ⟨q', h', hg⟩ := List.mem_flatMap.mp h2
        obtain ⟨us, _, hgr⟩ := g4 q' h'
        obtain ⟨⟨vs, hv, _⟩, _⟩ := Grs.front hgr (frl q' (List.mem_of_mem_take h')).2 q2 hg
        rw [z, n1] at hv; cases hv
      · rw [hflat, List.length_append]; omega
  · rintro σ1 H1 ⟨g, g1, g2, g3, g4, g5, g6, g7, g8⟩
    rw [List.length_map] at g3 g4 g5 g6 g7 g8
    rw [List.take_length] at g4 g5 g6 g7 g8
    refine ⟨.ref J, g1.j, J, _, rfl, .inl (SqL.of g5), fun l hl => ?_⟩
    have keepL : ∀ a o, H1 a = some o → upd H1 l (.lst ((fr.flatMap fun q => g q.1).map fun q => V.ref q.1)) a = some o := fun a o h => by rw [upd_ne (ne_of_none h hl)]; exact h
    have kpL : Keeps (fun _ => False) H1 (upd H1 l (.lst ((fr.flatMap fun q => g q.1).map fun q => V.ref q.1))) := fun a o h _ => keepL a o h
    have newf : ∀ q' ∈ fr.flatMap fun q => g q.1, ∃ us, H1 q'.1 = some (.lst us) := fun q' h' => by
      obtain ⟨q, hq, hg⟩ := List.mem_flatMap.mp h'
      obtain ⟨us, _, hgr⟩ := g4 q hq
      obtain ⟨⟨vs, hv, _⟩, _⟩ := Grs.front hgr (frl q hq).2 q' hg
      exact ⟨vs, hv⟩
    refine kk _ _ (fun a => I a ∨ ∃ q ∈ fr, q.1 = a) (fr.flatMap fun q => g q.1) l ⟨by rw [List.length_set, g1.len], by rw [List.getElem?_set_ne (by decide)]; exact g1.a, by rw [List.getElem?_set_self (by rw [g1.len]; decide)], ?_, upd_same, ?_, ?_, g7, ?_⟩
    · refine Gr.step (fun {v d} rp => (rp.keep g2 hWl hFW (fun _ z => z) (fun _ z => nomatch z) : Rep K H1 F 0 v d []).keep kpL lists_none (fun _ _ z => z) (fun _ z => z) fun _ z => nomatch z) (fun a o ha h => keepL _ _ (g2 _ _ h (IW a ha))) (fun a ha => .inl ha) s.gr (fun q hq => .inr ⟨q, hq, rfl⟩) fun q hq => ?_
      obtain ⟨ws', m1, m2⟩ := g4 q hq
      exact ⟨ws', keepL _ _ m1, m2.keep kpL lists_none (fun _ _ z => z) (fun _ z => z.elim) (fun _ z => z.elim) fun _ _ z => z⟩
    · intro a o h
      refine keepL _ _ (g2 _ _ (s.ext _ _ h) fun z => ?_)
      rcases z with rfl | ⟨q, hq, rfl⟩
      · rw [s.ext _ _ h] at hJ; cases hJ
      · rw [(s.fresh q hq).1] at h; cases h
    · intro q' h'
      obtain ⟨n1, n2⟩ := g6 q' h'
      obtain ⟨us, hu⟩ := newf q' h'
      refine ⟨?_, ?_, ne_of_none hu hl⟩
      · cases hh : H₀ q'.1 with
        | none => rfl
        | some o => rw [s.ext _ _ hh] at n1; cases n1
      · rintro (z | ⟨q, hq, z⟩)
        · obtain ⟨_, xs, hx⟩ := s.inn _ z
          rw [n1] at hx; cases hx
        · obtain ⟨⟨vs, hv, _⟩, _⟩ := frl q hq
          rw [z, n1] at hv; cases hv
    · rintro a (ha | ⟨q, hq, rfl⟩)
      · obtain ⟨n1, xs, hx⟩ := s.inn a ha
        exact ⟨n1, xs, keepL _ _ (g2 _ _ hx (IW a ha))⟩
      · obtain ⟨ws', m1, _⟩ := g4 q hq
        exact ⟨(s.fresh q hq).1, ws', keepL _ _ m1⟩
end
end VI
set_option autoImplicit true
set_option Elab.async false
set_option linter.all false
set_option maxRecDepth 100000
set_option maxHeartbeats 4000000
namespace VI
open PySem PySem.Spec PyProof.Rows L2 He
def lsC : List (Nat × D) → R0
  | [(_, d)] => if d.plain = true ∧ d.cnt + 10 ≤ 16777216 then .ok 0 (listify 9 d) none else .bad
  | _ => .bad
def lsFd : Fd := ⟨"_law_listed", 1, 7, false, lsB⟩
section
variable {Ev : EvT} {Γ : Sm} {K : PySem.W.Frag} {F : Addr → Prop} {σ : L2.St} {H : Hp} {D₀ : Ends} {A : Addr} {d : D}
theorem ls_all {u : V} (C : RowC Γ) (r : Rep K H F 0 u d []) (hp : d.plain = true) (hz : d.cnt + 10 ≤ 16777216) (hF : ∀ a, F a → ∃ xs, H a = some (.lst xs)) (Q : VK)
    (kk : ∀ v H', Exit (frOf K H F (fun _ => False) false [u]) H' v 0 (listify 9 d) none → Q v H') : hSs Ev Γ K lsB { nx := fun _ H' => Q .non H', rt := Q } (L2.start lsN [u]) H := by
  simp only [lsB, hSs, hS, hI, hE, hA, tSeq, tNext, tFor, iRng1, tAsg, gName, tLst, tRet, tOp, tCons, tVar, tNil, tC]
  simp only [CE.isLc, Bool.false_eq_true, if_false]
  refine ⟨u, rfl, by show 1 ≤ sizeLine; decide, fun A hA => ?_⟩
  refine ⟨.ref A, rfl, by show 1 ≤ sizeLine; decide, fun B hB => ?_⟩
  have AB : A ≠ B := ne_of_none upd_same hB
  have hBn : H B = none := by rw [upd_ne (Ne.symm AB)] at hB; exact hB
  refine ⟨9, rfl, by decide, by decide, ?_⟩
  have ex0 : ∀ a o, H a = some o → upd (upd H A (.lst [u])) B (.lst [.ref A]) a = some o := fun a o h => by
    rw [upd_ne (ne_of_none h hBn), upd_ne (ne_of_none h hA)]; exact h
  have r0 : Rep K (upd (upd H A (.lst [u])) B (.lst [.ref A])) F 0 u d [] := r.keep (W := fun _ => False) (fun a o h _ => ex0 a o h) lists_none (fun _ _ z => z) (fun _ z => z) fun _ z => nomatch z
  refine for_range (lo := 0) (n := (9 : Int).toNat) (fun k σ' H' => ∃ I fr B', Rnd K F H A d k I fr B' σ' H')
    ⟨fun _ => False, [(A, [d])], B, ⟨rfl, rfl, rfl, .last (by rw [upd_ne AB]; exact upd_same) rfl (by simpa using Reps.cons r0 .nil), upd_same, ex0, fun q hq => by obtain rfl := List.mem_singleton.mp hq; exact ⟨hA, id, AB⟩, by simp, fun _ z => z.elim⟩⟩ ?_ ?_
  · rintro k σ1 H1 hk ⟨I, fr, B', s⟩
    show hSs Ev Γ K lsRound _ (σ1.set 3 (some (.int (0 + (k : Nat))))) H1
    have s' : Rnd K F H A d k I fr B' (σ1.set 3 (some (.int (0 + (k : Nat))))) H1 := ⟨by rw [List.length_set, s.len], by rw [List.getElem?_set_ne (by decide)]; exact s.a, by rw [List.getElem?_set_ne (by decide)]; exact s.b, s.gr, s.rows, s.ext, s.fresh, s.nd, s.inn⟩
    exact ls_round C s' hp hz hF fun σ2 H2 I' fr' B2 s2 => ⟨I', fr', B2, s2⟩
  · rintro σ1 H1 ⟨I, fr, B', s⟩
    have frl : ∀ q ∈ fr, ∃ ws, H1 q.1 = some (.lst ws) := fun q hq => let ⟨⟨ws, h, _⟩, _⟩ := Gr.front s.gr (by simp [D.plain, D.plains, hp]) q hq; ⟨ws, h⟩
    have rd := Gr.done (F' := fun a => F a ∨ I a ∨ ∃ q ∈ fr, q.1 = a) (fun _ h => .inl h) (fun _ h => .inr (.inl h)) s.gr fun q hq => .inr (.inr ⟨q, hq, rfl⟩)
    rw [listify_row (es := [d]) rfl] at rd
    generalize hz0 : ([] : List Addr) = z0 at rd
    cases rd with
    | lst0 h1 f1 rs =>
      rename_i xs
      obtain rfl := rs.fp0
      obtain ⟨w, hw, rw1⟩ := Reps.get0 (i := 0) (d := listify 9 d) rs rfl
      refine ⟨.ref A, s.a, .inl ⟨A, xs, ((0 : Nat) : Int), w, rfl, rfl, SqL.of h1, atI_nat hw, ?_⟩⟩
      refine kk w H1 ⟨fun a => F a ∨ I a ∨ ∃ q ∈ fr, q.1 = a, fun _ => none, ⟨fun a h => .inl h, fun a h => ?_, fun _ _ => rfl, fun a h => ?_, (fun _ _ h => nomatch h), (fun _ _ h => nomatch h), fun a o h _ => s.ext a o h, fun a h => ?_, (fun _ z => z.elim), (fun _ _ _ _ z => z), (fun q hq => nomatch hq)⟩, ⟨[], rw1, List.nodup_nil, fun _ z => nomatch z⟩, trivial⟩
      · rcases h with h | h | ⟨q, hq, rfl⟩
        · exact .inl h
        · exact .inr (.inr (s.inn a h).1)
        · exact .inr (.inr (s.fresh q hq).1)
      · rcases h with h | h | ⟨q, hq, rfl⟩
        · obtain ⟨xs, q⟩ := hF a h; exact ⟨xs, s.ext _ _ q⟩
        · exact (s.inn a h).2
        · exact frl q hq
      · cases hh : H a with
        | none => exact absurd hh h
        | some o => rw [s.ext a o hh]; simp
end
section
variable {P : Program} {w : World} {K : PySem.W.Frag} {mg : Str → Option Value} {base : Heap} {M : Str → Option Addr} {p : Pg} {m : Nm}
theorem ls_step {d : DefV} {n : Nat} {fd : FuncData} {a : Addr} (hfd : d.fd = lsFd) (hN : d.N = lsN) (hok : d.ok m = true) (F : FunD K d.fd.name d.fd.name d.params d.body d.scope [] [] a fd) (hext : p.ext "_law_listed" = some (false, lsC)) (hrow : ∀ n e, D.plain e = true → (p.sm (n + 1)).call "_law_is_row" [(0, e)] = .ok 9 (.bl (rowOf e).isSome) none) (hri : p.ino "_law_is_row" = false)
    (ih : ∀ g ∈ m.fns, FnAt P w K mg base M p n g)
    (hbi : ∀ y ∈ m.bis, mg y = none) (hin : ∀ f, p.ino f = m.inos.contains f) (hw : WhlOk p.whl) (hcls : ClsOk K mg M m.ex)
    (hmk : ∀ Y : Cx, Y.prog = P → Y.w = w → Y.K = K → Y.mg = mg → Y.base = base → Y.calm = true → Room 2 Y.A → ∀ c ∈ m.mks, ∀ (x : Expr) (xs : List Expr) (ta : TA) (p pos : Pos), Gl Y c → PA Y (x :: xs) ta → noStars (x :: xs) = true → PMk Y (.Call (.Name c p) (x :: xs) [] pos) (tMk (EvX M) c ta)) :
    FnOk P w K mg base (L2.CX P w) (n + 3) a fd d.ps (spF K (EvX M) (p.sm (n + 1)) "_law_listed") := by
  obtain ⟨oc, od, dV, kV, doc, pm, an, cdv, ct, osl, rfl, lk, hcd, hD, hK⟩ := F.ex
  obtain ⟨c1, h⟩ := ba hok
  obtain ⟨c2, h⟩ := ba h
  obtain ⟨c3, h⟩ := ba h
  obtain ⟨c4, h⟩ := ba h
  obtain ⟨c5, h⟩ := ba h
  have hi0 : p.ino "_law_listed" = false := by simp only [Pg.ino, hext]
  have hps : d.ps.length = 1 := by have := of_decide_eq_true c3; rw [hfd] at this; exact this.symm
  have S := scB_ok c2
  have key : ∀ vs H Q E, spF K (EvX M) (p.sm (n + 1)) "_law_listed" vs H Q E → ∃ k u e F', n = k + 1 ∧ vs = [u] ∧ Rep K H F' 0 u e [] ∧ (∀ a, F' a → ∃ xs, H a = some (.lst xs)) ∧ e.plain = true ∧ e.cnt + 10 ≤ 16777216 ∧ ∀ v H', Exit (frOf K H F' (fun _ => False) false [u]) H' v 0 (listify 9 e) none → Q v H' := by
    rintro vs H Q E ⟨as, F', P', en, h⟩
    have hi1 : (p.sm (n + 1)).ino "_law_listed" = false := hi0
    rw [hi1] at en h
    clear ih
    cases n with
    | zero =>
      have hc : (p.sm (0 + 1)).call "_law_listed" as = .bad := by
        show p.callN (0 + 1) "_law_listed" as = _
        simp only [Pg.callN, hext]
      rw [hc] at h
      exact h.elim
    | succ k =>
      have hc : (p.sm (k + 1 + 1)).call "_law_listed" as = lsC as := by
        show p.callN (k + 1 + 1) "_law_listed" as = _
        simp only [Pg.callN, hext]
      rw [hc] at h
      obtain ⟨la, lp⟩ := en.args
      match as, vs, la, h with
      | [(k0, e)], [u], la, h =>
        obtain ⟨rfl, r, _⟩ := la
        by_cases hc2 : e.plain = true ∧ e.cnt + 10 ≤ 16777216
        · have hl : lsC [(0, e)] = .ok 0 (listify 9 e) none := by simp only [lsC, if_pos hc2]
          rw [hl] at h
          have hP : P' = fun _ => False := by funext a; exact propext ⟨fun z => lp a z, fun z => z.elim⟩
          subst hP
          exact ⟨k, u, e, F', rfl, rfl, r, en.ft, hc2.1, hc2.2, h.2⟩
        · have hl : lsC [(0, e)] = .bad := by simp only [lsC, if_neg hc2]
          rw [hl] at h
          exact h.elim
      | [], _, _, h => exact h.elim
      | _ :: _ :: _, _, _, h => exact h.elim
      | [_], [], la, _ => exact la.elim
      | [_], _ :: _ :: _, la, _ => exact la.2.2.elim
  refine fn_of lk hcd S (fun vs H Q E h => by obtain ⟨_, u, _, _, _, rfl, _⟩ := key vs H Q E h; rw [hps]; rfl) fun A outer s H vs Q E hr hsp => ?_
  obtain ⟨k, u, e, F', rfl, rfl, r, hF, hp, hz, hQ⟩ := key vs H Q E hsp
  have ok : SOk (cxOf (L2.CX P w) P w K mg base d.N d.fd.name d.scope a cdv A outer s H E) (d.tx m) (p.sm (k + 1)) M :=
    { n := rfl, nd := S.nd, names := fun y kd hy => .inl hy, fn := fun _ _ => rfl, calm := rfl, room := by have := hr.un; show (A.deeper (envOfC d.fd.name d.scope s.heap.objs.size a cdv)).units + 200 < cLine; omega, bi := hbi, ino := hin,
      fns := fun g hg => let ⟨a, fd, ps, h1, h2, h3, h4⟩ := ih g hg; ⟨a, fd, ps, _, h1, hr, h2, h3, h4⟩, kind := S.kind, pass := passes_of (X := cxOf (L2.CX P w) P w K mg base d.N d.fd.name d.scope a cdv A outer s H E) rfl, whl := hw,
      cls := hcls, stk := rfl, frm := rfl, mke := fun Y e1 e2 e3 e4 e5 e6 e7 => hmk Y e1 e2 e3 e4 e5 e6 (by rw [e7]; exact hr.mono (by omega)) }
  refine ⟨_, hSs_ok ok d.fd.body c1, ?_⟩
  rw [hfd, hN]
  exact ls_all ⟨hri, fun e he => hrow k e he⟩ r hp hz hF Q hQ
end
end VI
set_option autoImplicit true
set_option Elab.async false
set_option linter.all false
set_option maxRecDepth 100000
set_option maxHeartbeats 4000000
namespace VI
open PySem PySem.Spec PyProof.Rows L2 He
theorem LawP.listed {q : LawP} {P : Program} {dv : DefV} (ho : q.ok = true) (hq : q.exts = [(("_law_listed" : Str), lsC)]) (hd : q.extD = [dv.dd]) (hfd : dv.fd = lsFd) (hN : dv.N = lsN) (hok : dv.ok q.nm = true) (hfl : (P.main.file : Str) = q.fl) (htop : (P.main.scope.names.lookup ("super" : Str)).isSome = false)
    (hrow : ∀ n e, D.plain e = true → (q.pg.sm (n + 1)).call "_law_is_row" [(0, e)] = .ok 9 (.bl (rowOf e).isSome) none) (hri : q.pg.ino "_law_is_row" = false)
    (w : World) (K : PySem.W.Frag) (mg : Str → Option Value) (base : Heap) (X : K.In base) (G : base.Ns mainGlobals mg) (c : SaysS q.hd K) :
    (∀ j, (∀ g ∈ q.nm.fns, FnAt P w K mg base (mOf K q.ex) q.pg j g) → ∀ g ∈ q.exts.map (·.1), FnAt P w K mg base (mOf K q.ex) q.pg (j + 1) g) ∧ ∀ g ∈ q.exts.map (·.1), FnAt P w K mg base (mOf K q.ex) q.pg 0 g := by
  have hg : mg "_law_listed" = some (.ref (ga K "_law_listed")) := LawP.extG X G c (("_law_listed" : Str), lsC) (by rw [hq]; exact List.mem_cons_self)
  obtain ⟨fd, F⟩ := saysD_def c.d (d := dv.dd) (List.mem_append_right _ (by rw [hd]; exact List.mem_cons_self))
  have hnm : dv.fd.name = "_law_listed" := by rw [hfd]; rfl
  have F : FunD K dv.fd.name dv.fd.name dv.params dv.body dv.scope [] [] (ga K "_law_listed") fd := by
    have z : FunD K dv.fd.name dv.fd.name dv.params dv.body dv.scope [] [] (ga K dv.fd.name) fd := F
    rw [hnm] at z ⊢
    exact z
  have kp : PySem.W.keepIn K (.ref (ga K "_law_listed")) = true := F.kp
  have bd := DefV.binds hok F
  refine ⟨fun j ih g hg' => ?_, fun g hg' => ?_⟩
  · rw [hq] at hg'
    obtain rfl := List.mem_singleton.mp hg'
    refine ⟨_, fd, dv.ps, ?_, hg, kp, bd⟩
    exact ls_step hfd hN hok F (by show (q.exts.lookup ("_law_listed" : Str)).map _ = _; rw [hq]; rfl) hrow hri ih (LawP.bi X G c) (LawP.ino ho) whlC_ok (LawP.cls X G c) (fun Y e1 e2 e3 e4 e5 e6 hr => LawP.made ho X G c hfl htop Y e1 e3 e4 hr)
  · rw [hq] at hg'
    obtain rfl := List.mem_singleton.mp hg'
    exact ⟨_, fd, dv.ps, fn_none, hg, kp, bd⟩
end VI
set_option autoImplicit true
set_option Elab.async false
set_option linter.all false
set_option maxRecDepth 100000
set_option maxHeartbeats 4000000
namespace VI.P
open PySem PySem.Spec PyProof.Rows L2
section
variable {Γ : Sm} {α : Type} {bs : List Nat} {e : Env} {i j k n : Nat} {d : D} {x y z : Tg × D × Env} {c : Str} {xs : List D} {a b : CE} {es : CEs} {op : Operator} {cop : CmpOp} {as : List (Tg × D)} {b0 : Bool}
theorem okM_s {a : α} : okM (some a) = .ok a := rfl
theorem guard_t {r : R α} : guardR true r = r := rfl
def kVar (o : Option (Nat × D)) (i : Nat) (e : Env) : R (Tg × D × Env) := match o with
  | some (k, d) => .ok (nrm (varTg i k) d, d, e)
  | none => .bad
theorem ev_var : evE Γ (.var i) bs e = kVar (e.get i) i e := by simp only [evE, kVar] <;> rfl
theorem kVar1 : kVar (some (k, d)) i e = .ok (nrm (varTg i k) d, d, e) := rfl
def kMv (o : Option (Nat × D)) (i : Nat) (bs : List Nat) (e : Env) : R (Tg × D × Env) := match o with
  | some (k, d) => guardR (!bs.contains i) (.ok (nrm (.own k) d, d, e.set i none))
  | none => .bad
theorem ev_mv : evE Γ (.mv i) bs e = kMv (e.get i) i bs e := by simp only [evE, kMv] <;> rfl
theorem kMv1 : kMv (some (k, d)) i bs e = guardR (!bs.contains i) (.ok (nrm (.own k) d, d, e.set i none)) := rfl
def kFz (o : Option (Nat × D)) (i k : Nat) (bs : List Nat) (e : Env) : R (Tg × D × Env) := match o with
  | some (j, d) => if j ≤ k || d.flat then .ok (nrm (varTg i j) d, d, e) else guardR (!bs.contains i) (.ok (nrm (varTg i k) d, d, e.set i (some (k, d))))
  | none => .bad
theorem ev_fz : evE Γ (.fz i k) bs e = kFz (e.get i) i k bs e := by simp only [evE, kFz] <;> rfl
theorem kFz1 : kFz (some (j, d)) i k bs e = if j ≤ k || d.flat then .ok (nrm (varTg i j) d, d, e) else guardR (!bs.contains i) (.ok (nrm (varTg i k) d, d, e.set i (some (k, d)))) := rfl
theorem ev_int {n : Int} : evE Γ (.int n) bs e = .ok (.own 9, .int n, e) := by simp only [evE]
theorem ev_str {n : Str} : evE Γ (.str n) bs e = .ok (.own 9, .str n, e) := by simp only [evE]
theorem ev_bl {n : Bool} : evE Γ (.bl n) bs e = .ok (.own 9, .bl n, e) := by simp only [evE]
theorem ev_non : evE Γ .non bs e = .ok (.own 9, .non, e) := by simp only [evE]
def kBin1 (r : R (Tg × D × Env)) (Γ : Sm) (op : Operator) (b : CE) (bs : List Nat) : R (Tg × D × Env) := r.bind fun x => (evE Γ b (x.1.slots ++ bs) x.2.2).bind fun y => (okM (binV op (x.1, x.2.1) (y.1, y.2.1))).bind fun r => .ok (r.1, r.2, y.2.2)
def kBin2 (r : R (Tg × D × Env)) (op : Operator) (x : Tg × D) : R (Tg × D × Env) := r.bind fun y => (okM (binV op x (y.1, y.2.1))).bind fun r => .ok (r.1, r.2, y.2.2)
def kOpt (o : Option (Tg × D)) (e : Env) : R (Tg × D × Env) := match o with
  | some r => .ok (r.1, r.2, e)
  | none => .bad
theorem kOpt_eq {o : Option (Tg × D)} : (okM o).bind (fun r => .ok (r.1, r.2, e)) = kOpt o e := by cases o <;> rfl
theorem kOpt1 {t : Tg} : kOpt (some (t, d)) e = .ok (t, d, e) := rfl
theorem ev_bin : evE Γ (.bin op a b) bs e = kBin1 (evE Γ a bs e) Γ op b bs := by simp only [evE, kBin1]
theorem kBin1o {t : Tg} : kBin1 (.ok (t, d, e)) Γ op b bs = kBin2 (evE Γ b (t.slots ++ bs) e) op (t, d) := rfl
theorem kBin1x : kBin1 (.exn c xs e) Γ op b bs = .exn c xs e := rfl
theorem kBin2o {t : Tg} {w : Tg × D} : kBin2 (.ok (t, d, e)) op w = kOpt (binV op w (t, d)) e := by simp only [kBin2, R.bind, ← kOpt_eq]
theorem kBin2x {w : Tg × D} : kBin2 (.exn c xs e) op w = .exn c xs e := rfl
def kNeg (r : R (Tg × D × Env)) : R (Tg × D × Env) := r.bind fun x => match x.2.1 with
  | .int n => .ok (.own 9, .int (-n), x.2.2)
  | _ => .bad
theorem ev_neg : evE Γ (.neg a) bs e = kNeg (evE Γ a bs e) := by simp only [evE, kNeg] <;> rfl
theorem kNego {t : Tg} {n : Int} : kNeg (.ok (t, .int n, e)) = .ok (.own 9, .int (-n), e) := rfl
def kBool (o : Option Bool) (e : Env) : R (Tg × D × Env) := match o with
  | some r => .ok (.own 9, .bl r, e)
  | none => .bad
theorem kBool1 : kBool (some b0) e = .ok (.own 9, .bl b0, e) := rfl
def kCmp1 (r : R (Tg × D × Env)) (Γ : Sm) (op : CmpOp) (b : CE) (bs : List Nat) : R (Tg × D × Env) := r.bind fun x => (evE Γ b (x.1.slots ++ bs) x.2.2).bind fun y => (okM (cmpV op x.2.1 y.2.1)).bind fun r => .ok (.own 9, .bl r, y.2.2)
def kCmp2 (r : R (Tg × D × Env)) (op : CmpOp) (x : D) : R (Tg × D × Env) := r.bind fun y => (okM (cmpV op x y.2.1)).bind fun r => .ok (.own 9, .bl r, y.2.2)
theorem ev_cmp : evE Γ (.cmp cop a b) bs e = kCmp1 (evE Γ a bs e) Γ cop b bs := by simp only [evE, kCmp1]
theorem kCmp1o {t : Tg} : kCmp1 (.ok (t, d, e)) Γ cop b bs = kCmp2 (evE Γ b (t.slots ++ bs) e) cop d := rfl
theorem kCmp1x : kCmp1 (.exn c xs e) Γ cop b bs = .exn c xs e := rfl
theorem kCmp2o {t : Tg} {w : D} : kCmp2 (.ok (t, d, e)) cop w = kBool (cmpV cop w d) e := by cases h : cmpV cop w d <;> simp [kCmp2, R.bind, okM, h, kBool]
theorem kCmp2x {w : D} : kCmp2 (.exn c xs e) cop w = .exn c xs e := rfl
def kChn1 (r : R (Tg × D × Env)) (Γ : Sm) (o1 o2 : CmpOp) (b c : CE) (bs : List Nat) : R (Tg × D × Env) := r.bind fun x => (evE Γ b (x.1.slots ++ bs) x.2.2).bind fun y => (okM (cmpV o1 x.2.1 y.2.1)).bind fun r =>
      if r then (evE Γ c (y.1.slots ++ (x.1.slots ++ bs)) y.2.2).bind fun z => (okM (cmpV o2 y.2.1 z.2.1)).bind fun q => .ok (.own 9, .bl q, z.2.2)
      else .ok (.own 9, .bl false, y.2.2)
def kChn2 (r : R (Tg × D × Env)) (Γ : Sm) (o1 o2 : CmpOp) (c : CE) (x : D) (bs : List Nat) : R (Tg × D × Env) := r.bind fun y => (okM (cmpV o1 x y.2.1)).bind fun r =>
      if r then (evE Γ c (y.1.slots ++ bs) y.2.2).bind fun z => (okM (cmpV o2 y.2.1 z.2.1)).bind fun q => .ok (.own 9, .bl q, z.2.2)
      else .ok (.own 9, .bl false, y.2.2)
def kChn3 (o : Option Bool) (Γ : Sm) (o2 : CmpOp) (c : CE) (y : D) (bs : List Nat) (e : Env) : R (Tg × D × Env) := match o with
  | some true => kCmp2 (evE Γ c bs e) o2 y
  | some false => .ok (.own 9, .bl false, e)
  | none => .bad
variable {o1 o2 : CmpOp} {cc : CE}
theorem ev_chn : evE Γ (.chn o1 o2 a b cc) bs e = kChn1 (evE Γ a bs e) Γ o1 o2 b cc bs := by simp only [evE, kChn1]
theorem kChn1o {t : Tg} : kChn1 (.ok (t, d, e)) Γ o1 o2 b cc bs = kChn2 (evE Γ b (t.slots ++ bs) e) Γ o1 o2 cc d (t.slots ++ bs) := rfl
theorem kChn2o {t : Tg} {w : D} : kChn2 (.ok (t, d, e)) Γ o1 o2 cc w bs = kChn3 (cmpV o1 w d) Γ o2 cc d (t.slots ++ bs) e := by
  cases h : cmpV o1 w d with
  | none => simp [kChn2, kChn3, R.bind, okM, h]
  | some r => cases r <;> simp [kChn2, kChn3, R.bind, okM, h, kCmp2]
theorem kChn3t {w : D} : kChn3 (some true) Γ o2 cc w bs e = kCmp2 (evE Γ cc bs e) o2 w := rfl
theorem kChn3f {w : D} : kChn3 (some false) Γ o2 cc w bs e = .ok (.own 9, .bl false, e) := rfl
def kAnd (r : R (Tg × D × Env)) (Γ : Sm) (b : CE) (bs : List Nat) : R (Tg × D × Env) := r.bind fun x => match x.2.1 with
    | .bl true => evE Γ b bs x.2.2
    | .bl false => .ok (.own 9, .bl false, x.2.2)
    | _ => .bad
theorem ev_and : evE Γ (.and a b) bs e = kAnd (evE Γ a bs e) Γ b bs := by simp only [evE, kAnd] <;> rfl
theorem kAndt {t : Tg} : kAnd (.ok (t, .bl true, e)) Γ b bs = evE Γ b bs e := rfl
theorem kAndf {t : Tg} : kAnd (.ok (t, .bl false, e)) Γ b bs = .ok (.own 9, .bl false, e) := rfl
def kOr (r : R (Tg × D × Env)) (Γ : Sm) (b : CE) (bs : List Nat) : R (Tg × D × Env) := r.bind fun x => match x.2.1 with
    | .bl false => evE Γ b bs x.2.2
    | .bl true => .ok (.own 9, .bl true, x.2.2)
    | _ => .bad
theorem ev_or : evE Γ (.or a b) bs e = kOr (evE Γ a bs e) Γ b bs := by simp only [evE, kOr] <;> rfl
theorem kOrf {t : Tg} : kOr (.ok (t, .bl false, e)) Γ b bs = evE Γ b bs e := rfl
theorem kOrt {t : Tg} : kOr (.ok (t, .bl true, e)) Γ b bs = .ok (.own 9, .bl true, e) := rfl
def kNot (r : R (Tg × D × Env)) : R (Tg × D × Env) := r.bind fun x => match x.2.1 with
    | .bl b => .ok (.own 9, .bl (!b), x.2.2)
    | _ => .bad
theorem ev_not : evE Γ (.not a) bs e = kNot (evE Γ a bs e) := by simp only [evE, kNot] <;> rfl
theorem kNoto {t : Tg} : kNot (.ok (t, .bl b0, e)) = .ok (.own 9, .bl (!b0), e) := rfl
def kIte1 (r : R (Tg × D × Env)) (Γ : Sm) (a b : CE) (bs : List Nat) : R (Tg × D × Env) := r.bind fun x => (okM (truV x.2.1)).bind fun r => if r then evE Γ a bs x.2.2 else evE Γ b bs x.2.2
def kIte2 (o : Option Bool) (Γ : Sm) (a b : CE) (bs : List Nat) (e : Env) : R (Tg × D × Env) := match o with
  | some true => evE Γ a bs e
  | some false => evE Γ b bs e
  | none => .bad
theorem ev_ite : evE Γ (.ite cc a b) bs e = kIte1 (evE Γ cc bs e) Γ a b bs := by simp only [evE, kIte1]
theorem kIte1o {t : Tg} : kIte1 (.ok (t, d, e)) Γ a b bs = kIte2 (truV d) Γ a b bs e := by
  cases h : truV d with
  | none => simp [kIte1, kIte2, R.bind, okM, h]
  | some r => cases r <;> simp [kIte1, kIte2, R.bind, okM, h]
theorem kIte2t : kIte2 (some true) Γ a b bs e = evE Γ a bs e := rfl
theorem kIte2f : kIte2 (some false) Γ a b bs e = evE Γ b bs e := rfl
def kTup (r : R (List (Tg × D) × Env)) : R (Tg × D × Env) := r.bind fun x => (okM (minK x.1)).bind fun k => guardR (lim x.1.length) (.ok (nrm (.own k) (.tup (x.1.map (·.2))), .tup (x.1.map (·.2)), x.2))
def kTup2 (o : Option Nat) (as : List (Tg × D)) (e : Env) : R (Tg × D × Env) := match o with
  | some k => guardR (lim as.length) (.ok (nrm (.own k) (.tup (as.map (·.2))), .tup (as.map (·.2)), e))
  | none => .bad
theorem ev_tup : evE Γ (.tup es) bs e = kTup (evEs Γ es bs e) := by simp only [evE, kTup]
theorem kTupo : kTup (.ok (as, e)) = kTup2 (minK as) as e := by cases h : minK as <;> simp [kTup, kTup2, R.bind, okM, h]
theorem kTupx : kTup (.exn c xs e) = .exn c xs e := rfl
theorem kTup2o : kTup2 (some k) as e = guardR (lim as.length) (.ok (nrm (.own k) (.tup (as.map (·.2))), .tup (as.map (·.2)), e)) := rfl
def kLst (r : R (List (Tg × D) × Env)) : R (Tg × D × Env) := r.bind fun x => (okM (minK x.1)).bind fun k => guardR (lim x.1.length) (.ok (.own (k + 1), .lst (x.1.map (·.2)), x.2))
def kLst2 (o : Option Nat) (as : List (Tg × D)) (e : Env) : R (Tg × D × Env) := match o with
  | some k => guardR (lim as.length) (.ok (.own (k + 1), .lst (as.map (·.2)), e))
  | none => .bad
theorem ev_lst : evE Γ (.lst es) bs e = kLst (evEs Γ es bs e) := by simp only [evE, kLst]
theorem kLsto : kLst (.ok (as, e)) = kLst2 (minK as) as e := by cases h : minK as <;> simp [kLst, kLst2, R.bind, okM, h]
theorem kLstx : kLst (.exn c xs e) = .exn c xs e := rfl
theorem kLst2o : kLst2 (some k) as e = guardR (lim as.length) (.ok (.own (k + 1), .lst (as.map (·.2)), e)) := rfl
def kSub1 (r : R (Tg × D × Env)) (Γ : Sm) (i : CE) (bs : List Nat) : R (Tg × D × Env) := r.bind fun x => (evE Γ i (x.1.slots ++ bs) x.2.2).bind fun y => (okM (subV (x.1, x.2.1) y.2.1)).bind fun r => .ok (r.1, r.2, y.2.2)
def kSub2 (r : R (Tg × D × Env)) (x : Tg × D) : R (Tg × D × Env) := r.bind fun y => (okM (subV x y.2.1)).bind fun r => .ok (r.1, r.2, y.2.2)
theorem ev_sub : evE Γ (.sub a b) bs e = kSub1 (evE Γ a bs e) Γ b bs := by simp only [evE, kSub1]
theorem kSub1o {t : Tg} : kSub1 (.ok (t, d, e)) Γ b bs = kSub2 (evE Γ b (t.slots ++ bs) e) (t, d) := rfl
theorem kSub2o {t : Tg} {w : Tg × D} : kSub2 (.ok (t, d, e)) w = kOpt (subV w d) e := by simp only [kSub2, R.bind, ← kOpt_eq]
theorem kSub1x : kSub1 (.exn c xs e) Γ b bs = .exn c xs e := rfl
theorem kSub2x {w : Tg × D} : kSub2 (.exn c xs e) w = .exn c xs e := rfl
def kPart (n : Bool) (r : R (Tg × D × Env)) : R (Option Int × Env) := r.bind fun y => match y.2.1 with
  | .int i => .ok (some i, y.2.2)
  | _ => .bad
def evPt (Γ : Sm) (c : CE) (bs : List Nat) (e : Env) : R (Option Int × Env) := VI.part c.isNop (evE Γ c bs e) e
theorem evPt0 : evPt Γ .nop bs e = .ok (none, e) := rfl
theorem evPt1 (h : a.isNop = false) : evPt Γ a bs e = kPart false (evE Γ a bs e) := by
  unfold evPt VI.part; rw [h]; rfl
theorem evPt_int {m : Int} : evPt Γ (.int m) bs e = .ok (some m, e) := by rw [evPt1 rfl]; simp only [evE]; rfl
theorem evPt_var : evPt Γ (.var i) bs e = kPart false (evE Γ (.var i) bs e) := evPt1 rfl
theorem evPt_mv : evPt Γ (.mv i) bs e = kPart false (evE Γ (.mv i) bs e) := evPt1 rfl
theorem evPt_bin : evPt Γ (.bin op a b) bs e = kPart false (evE Γ (.bin op a b) bs e) := evPt1 rfl
theorem evPt_neg : evPt Γ (.neg a) bs e = kPart false (evE Γ (.neg a) bs e) := evPt1 rfl
theorem evPt_sub : evPt Γ (.sub a b) bs e = kPart false (evE Γ (.sub a b) bs e) := evPt1 rfl
theorem evPt_bi {f : Str} : evPt Γ (.bi f es) bs e = kPart false (evE Γ (.bi f es) bs e) := evPt1 rfl
theorem evPt_fn {f : Str} : evPt Γ (.fn f es) bs e = kPart false (evE Γ (.fn f es) bs e) := evPt1 rfl
theorem kPart1 {t : Tg} {m : Int} {b0} : kPart b0 (.ok (t, .int m, e)) = .ok (some m, e) := rfl
def kSlc1 (r : R (Tg × D × Env)) (Γ : Sm) (lo hi : CE) (bs : List Nat) : R (Tg × D × Env) := r.bind fun x => (evPt Γ lo (x.1.slots ++ bs) x.2.2).bind fun l => (evPt Γ hi (x.1.slots ++ bs) l.2).bind fun h => (okM (slcV (x.1, x.2.1) l.1 h.1)).bind fun r => .ok (r.1, r.2, h.2)
def kSlc2 (r : R (Option Int × Env)) (Γ : Sm) (hi : CE) (bs : List Nat) (x : Tg × D) : R (Tg × D × Env) := r.bind fun l => (evPt Γ hi bs l.2).bind fun h => (okM (slcV x l.1 h.1)).bind fun r => .ok (r.1, r.2, h.2)
def kSlc3 (r : R (Option Int × Env)) (x : Tg × D) (l : Option Int) : R (Tg × D × Env) := r.bind fun h => (okM (slcV x l h.1)).bind fun r => .ok (r.1, r.2, h.2)
theorem ev_slc : evE Γ (.slc cc a b) bs e = kSlc1 (evE Γ cc bs e) Γ a b bs := by simp only [evE, kSlc1] <;> rfl
theorem kSlc1o {t : Tg} : kSlc1 (.ok (t, d, e)) Γ a b bs = kSlc2 (evPt Γ a (t.slots ++ bs) e) Γ b (t.slots ++ bs) (t, d) := rfl
theorem kSlc2o {l : Option Int} {w : Tg × D} : kSlc2 (.ok (l, e)) Γ b bs w = kSlc3 (evPt Γ b bs e) w l := rfl
theorem kSlc3o {l h : Option Int} {w : Tg × D} : kSlc3 (.ok (h, e)) w l = kOpt (slcV w l h) e := by simp only [kSlc3, R.bind, ← kOpt_eq]
def kRev (r : R (Tg × D × Env)) : R (Tg × D × Env) := r.bind fun x => match x.2.1 with
    | .lst xs => (okM (keepK x.1.item xs)).bind fun k => .ok (.own (k + 1), .lst xs.reverse, x.2.2)
    | _ => .bad
def kRev2 (o : Option Nat) (xs : List D) (e : Env) : R (Tg × D × Env) := match o with
  | some k => .ok (.own (k + 1), .lst xs.reverse, e)
  | none => .bad
theorem ev_rev : evE Γ (.rev a) bs e = kRev (evE Γ a bs e) := by simp only [evE, kRev] <;> rfl
theorem kRevo {t : Tg} : kRev (.ok (t, .lst xs, e)) = kRev2 (keepK t.item xs) xs e := by cases h : keepK t.item xs <;> simp [kRev, kRev2, R.bind, okM, h]
theorem kRev2o : kRev2 (some k) xs e = .ok (.own (k + 1), .lst xs.reverse, e) := rfl
def kBi (f : Str) (r : R (List (Tg × D) × Env)) : R (Tg × D × Env) := r.bind fun x => (okM (biV f x.1)).bind fun r => .ok (r.1, r.2, x.2)
theorem ev_bi {f : Str} : evE Γ (.bi f es) bs e = kBi f (evEs Γ es bs e) := by simp only [evE, kBi]
theorem kBio {f : Str} : kBi f (.ok (as, e)) = kOpt (biV f as) e := by simp only [kBi, R.bind, ← kOpt_eq]
theorem kBix {f : Str} : kBi f (.exn c xs e) = .exn c xs e := rfl
def kFn (r : R (List (Tg × D) × Env)) (Γ : Sm) (f : Str) (es : CEs) (bs : List Nat) : R (Tg × D × Env) := r.bind fun x => callE Γ bs f es x.1 x.2
def kFn0 (ino : Bool) (Γ : Sm) (f : Str) (es : CEs) (bs : List Nat) (e : Env) : R (Tg × D × Env) := if ino then guardR (ioOk es e) ((evT Γ es bs e).bind fun x => callE Γ bs f es x.1 x.2) else (evEs Γ es bs e).bind fun x => callE Γ bs f es x.1 x.2
theorem ev_fn {f : Str} : evE Γ (.fn f es) bs e = kFn0 (Γ.ino f) Γ f es bs e := by simp only [evE, kFn0]
theorem kFn0f {f : Str} : kFn0 false Γ f es bs e = kFn (evEs Γ es bs e) Γ f es bs := by simp [kFn0, kFn]
def kFnI (o : Option (Nat × D)) (Γ : Sm) (f : Str) (i : Nat) (es : CEs) (bs : List Nat) (e : Env) : R (Tg × D × Env) := guardR o.isSome (kFn ((evEs Γ es bs e).bind fun y => .ok ((.own 9, .non) :: y.1, y.2)) Γ f (.cons (.var i) es) bs)
theorem kFn0t {f : Str} : kFn0 true Γ f (.cons (.var i) es) bs e = kFnI (e.get i) Γ f i es bs e := by simp [kFn0, kFnI, kFn, ioOk, evT]
def kCall (ino : Bool) (Γ : Sm) (f : Str) (es : CEs) (bs : List Nat) (as : List (Tg × D)) (e : Env) : R (Tg × D × Env) := if ino then
    match es, as with
    | .cons (.var i) _, _ :: as' => match e.get i with
      | some kd => if bs.contains i || (others as').contains i then .bad else
        match Γ.call f (kd :: looked as') with
        | .ok k d (some o) => landE bs (others as') k d (e.set i (some o)) (D.within k d && D.within o.1 o.2)
        | _ => .bad
      | none => .bad
    | _, _ => .bad
  else match Γ.call f (looked as) with
    | .ok k d none => landE bs (others as) k d e (D.within k d)
    | .exn c xs => .exn c xs e
    | _ => .bad
theorem kFno {f : Str} : kFn (.ok (as, e)) Γ f es bs = kCall (Γ.ino f) Γ f es bs as e := by
  simp only [kFn, R.bind, callE, kCall] <;> rfl
theorem kFnx {f : Str} : kFn (.exn c xs e) Γ f es bs = .exn c xs e := rfl
def kRes (r : R0) (bs os : List Nat) (e : Env) : R (Tg × D × Env) := match r with
    | .ok k d none => landE bs os k d e (D.within k d)
    | .exn c xs => .exn c xs e
    | _ => .bad
def kResI (r : R0) (bs os : List Nat) (i : Nat) (e : Env) : R (Tg × D × Env) := match r with
  | .ok k d (some o) => landE bs os k d (e.set i (some o)) (D.within k d && D.within o.1 o.2)
  | _ => .bad
theorem kCallf {f : Str} : kCall false Γ f es bs as e = kRes (Γ.call f (looked as)) bs (others as) e := by
  unfold kCall kRes
  rfl
def kArgI (o : Option (Nat × D)) (Γ : Sm) (f : Str) (bs : List Nat) (as : List (Tg × D)) (i : Nat) (e : Env) : R (Tg × D × Env) := match o with
  | some kd => if bs.contains i || (others as).contains i then .bad else kResI (Γ.call f (kd :: looked as)) bs (others as) i e
  | none => .bad
theorem kCallt {f : Str} {w : Tg × D} : kCall true Γ f (.cons (.var i) es) bs (w :: as) e = kArgI (e.get i) Γ f bs as i e := by
  unfold kCall kArgI kResI
  rfl
theorem kArgIo {f : Str} {kd : Nat × D} : kArgI (some kd) Γ f bs as i e = if bs.contains i || (others as).contains i then .bad else kResI (Γ.call f (kd :: looked as)) bs (others as) i e := rfl
theorem kReso {os : List Nat} : kRes (.ok k d none) bs os e = landE bs os k d e (D.within k d) := rfl
theorem kResx {os : List Nat} : kRes (.exn c xs) bs os e = .exn c xs e := rfl
theorem kResIo {os : List Nat} {o : Nat × D} : kResI (.ok k d (some o)) bs os i e = landE bs os k d (e.set i (some o)) (D.within k d && D.within o.1 o.2) := rfl
theorem land_t {os : List Nat} : landE bs os k d e true = .ok (nrm (.own k) d, d, e) := rfl
theorem land_f {os : List Nat} (h : disj os bs = true) (b0 : Bool) : landE bs os k d e b0 = .ok (nrm (.own k) d, d, if b0 then e else freeze e os) := by
  unfold landE; cases b0 <;> simp [h]
def kMet1 (r : R (Tg × D × Env)) (Γ : Sm) (m : Str) (es : CEs) (bs : List Nat) : R (Tg × D × Env) := r.bind fun y => guardR (metRcv m y.2.1) ((evEs Γ es (y.1.slots ++ bs) y.2.2).bind fun x => (okM (metV m (y.1, y.2.1) x.1)).bind fun r => .ok (r.1, r.2, x.2))
def kMet2 (r : R (List (Tg × D) × Env)) (m : Str) (y : Tg × D) : R (Tg × D × Env) := r.bind fun x => (okM (metV m y x.1)).bind fun r => .ok (r.1, r.2, x.2)
variable {m : Str}
theorem ev_met : evE Γ (.met m a es) bs e = kMet1 (evE Γ a bs e) Γ m es bs := by simp only [evE, kMet1]
theorem kMet1o {t : Tg} : kMet1 (.ok (t, d, e)) Γ m es bs = guardR (metRcv m d) (kMet2 (evEs Γ es (t.slots ++ bs) e) m (t, d)) := rfl
theorem kMet2o {w : Tg × D} : kMet2 (.ok (as, e)) m w = kOpt (metV m w as) e := by simp only [kMet2, R.bind, ← kOpt_eq]
def kMut1 (r : R (Nat × List Nat × Env)) (Γ : Sm) (m : Str) (es : CEs) (bs : List Nat) : R (Tg × D × Env) := r.bind fun p => guardR (okP p.2.2 p.1 p.2.1) ((evEs Γ es (p.1 :: bs) p.2.2).bind fun x => mutE bs m p.1 p.2.1 x.1 x.2)
def kMut2 (r : R (List (Tg × D) × Env)) (m : Str) (bs : List Nat) (i : Nat) (p : List Nat) : R (Tg × D × Env) := r.bind fun x => mutE bs m i p x.1 x.2
variable {p : List Nat}
theorem ev_mut : evE Γ (.mut m a es) bs e = kMut1 (evP Γ a bs e) Γ m es bs := by simp only [evE, kMut1]
theorem kMut1o : kMut1 (.ok (i, p, e)) Γ m es bs = guardR (okP e i p) (kMut2 (evEs Γ es (i :: bs) e) m bs i p) := rfl
theorem kMut2o : kMut2 (.ok (as, e)) m bs i p = mutE bs m i p as e := rfl
def kIsi (r : R (Tg × D × Env)) (ts : List Str) : R (Tg × D × Env) := r.bind fun x => .ok (.own 9, .bl (isiV x.2.1 ts), x.2.2)
theorem ev_isi {ts : List Str} : evE Γ (.isi a ts) bs e = kIsi (evE Γ a bs e) ts := by simp only [evE, kIsi]
theorem kIsio {t : Tg} {ts : List Str} : kIsi (.ok (t, d, e)) ts = .ok (.own 9, .bl (isiV d ts), e) := rfl
def kSp (k : Nat) (r : R (List (Tg × D) × Env)) : R (Tg × D × Env) := r.bind fun x => match k, x.1 with
    | 0, [(_, .int a)] => guardR (rngOk 0 a && lim a.toNat) (.ok (.own 10, .lst (rngI 0 a), x.2))
    | 1, [(_, .int a), (_, .int b)] => guardR (rngOk a b && lim (b - a).toNat) (.ok (.own 10, .lst (rngI a b), x.2))
    | 2, [(t, .lst xs)] => (okM (keepK t.item xs)).bind fun k => .ok (nrm (.own k) (.tup xs.reverse), .tup xs.reverse, x.2)
    | _, _ => .bad
theorem ev_sp : evE Γ (.sp k es) bs e = kSp k (evEs Γ es bs e) := by simp only [evE, kSp] <;> rfl
theorem kSp0 {t : Tg} {a : Int} : kSp 0 (.ok ([(t, .int a)], e)) = guardR (rngOk 0 a && lim a.toNat) (.ok (.own 10, .lst (rngI 0 a), e)) := rfl
theorem kSp1 {t u : Tg} {a b : Int} : kSp 1 (.ok ([(t, .int a), (u, .int b)], e)) = guardR (rngOk a b && lim (b - a).toNat) (.ok (.own 10, .lst (rngI a b), e)) := rfl
def kSpR (o : Option Nat) (xs : List D) (e : Env) : R (Tg × D × Env) := match o with
  | some k => .ok (nrm (.own k) (.tup xs.reverse), .tup xs.reverse, e)
  | none => .bad
theorem kSp2 {t : Tg} : kSp 2 (.ok ([(t, .lst xs)], e)) = kSpR (keepK t.item xs) xs e := by cases h : keepK t.item xs <;> simp [kSp, kSpR, R.bind, okM, h]
theorem kSpRo : kSpR (some k) xs e = .ok (nrm (.own k) (.tup xs.reverse), .tup xs.reverse, e) := rfl
def kArg1 (r : R (Tg × D × Env)) (Γ : Sm) (es : CEs) (bs : List Nat) : R (List (Tg × D) × Env) := r.bind fun x => (evEs Γ es (x.1.slots ++ bs) x.2.2).bind fun y => .ok ((x.1, x.2.1) :: y.1, y.2)
def kArg2 (r : R (List (Tg × D) × Env)) (x : Tg × D) : R (List (Tg × D) × Env) := r.bind fun y => .ok (x :: y.1, y.2)
theorem evs_nil : evEs Γ .nil bs e = .ok ([], e) := by simp only [evEs]
theorem evs_cons : evEs Γ (.cons a es) bs e = kArg1 (evE Γ a bs e) Γ es bs := by simp only [evEs, kArg1]
theorem kArg1o {t : Tg} : kArg1 (.ok (t, d, e)) Γ es bs = kArg2 (evEs Γ es (t.slots ++ bs) e) (t, d) := rfl
theorem kArg1x : kArg1 (.exn c xs e) Γ es bs = .exn c xs e := rfl
theorem kArg2o {w : Tg × D} : kArg2 (.ok (as, e)) w = .ok (w :: as, e) := rfl
theorem kArg2x {w : Tg × D} : kArg2 (.exn c xs e) w = .exn c xs e := rfl
theorem kFnIo {f : Str} {kd : Nat × D} : kFnI (some kd) Γ f i es bs e = kFn (kArg2 (evEs Γ es bs e) (.own 9, .non)) Γ f (.cons (.var i) es) bs := rfl
def kSeq (r : R (Tg × D × Env)) : R (Its × Env) := r.bind fun x => (okM (seqI x.1 x.2.1)).bind fun s => .ok (s, x.2.2)
def kSeq2 (o : Option Its) (e : Env) : R (Its × Env) := match o with
  | some s => .ok (s, e)
  | none => .bad
theorem evi_seq : evI Γ (.seq a) bs e = kSeq (evE Γ a bs e) := by simp only [evI, kSeq]
theorem kSeqo {t : Tg} : kSeq (.ok (t, d, e)) = kSeq2 (seqI t d) e := by cases h : seqI t d <;> simp [kSeq, kSeq2, R.bind, okM, h]
theorem kSeqx : kSeq (.exn c xs e) = .exn c xs e := rfl
theorem kSeq2o {s : Its} : kSeq2 (some s) e = .ok (s, e) := rfl
def kRng (r : R (Tg × D × Env)) : R (Its × Env) := r.bind fun x => match x.2.1 with
    | .int n => guardR (rngOk 0 n) (.ok (⟨.own 9, rngI 0 n, []⟩, x.2.2))
    | _ => .bad
theorem evi_rng : evI Γ (.rng a) bs e = kRng (evE Γ a bs e) := by simp only [evI, kRng] <;> rfl
theorem kRngo {t : Tg} {n : Int} : kRng (.ok (t, .int n, e)) = guardR (rngOk 0 n) (.ok (⟨.own 9, rngI 0 n, []⟩, e)) := rfl
def kRng2 (r : R (Tg × D × Env)) (Γ : Sm) (b : CE) (bs : List Nat) : R (Its × Env) := r.bind fun x => (evE Γ b (x.1.slots ++ bs) x.2.2).bind fun y => match x.2.1, y.2.1 with
    | .int m, .int n => guardR (rngOk m n) (.ok (⟨.own 9, rngI m n, []⟩, y.2.2))
    | _, _ => .bad
def kRng3 (r : R (Tg × D × Env)) (x : D) : R (Its × Env) := r.bind fun y => match x, y.2.1 with
    | .int m, .int n => guardR (rngOk m n) (.ok (⟨.own 9, rngI m n, []⟩, y.2.2))
    | _, _ => .bad
theorem evi_rng2 : evI Γ (.rng2 a b) bs e = kRng2 (evE Γ a bs e) Γ b bs := by simp only [evI, kRng2] <;> rfl
theorem kRng2o {t : Tg} : kRng2 (.ok (t, d, e)) Γ b bs = kRng3 (evE Γ b (t.slots ++ bs) e) d := rfl
theorem kRng3o {t : Tg} {m n : Int} : kRng3 (.ok (t, .int n, e)) (.int m) = guardR (rngOk m n) (.ok (⟨.own 9, rngI m n, []⟩, e)) := rfl
def kPv (o : Option (Nat × D)) (i : Nat) (e : Env) : R (Nat × List Nat × Env) := match o with
    | some _ => .ok (i, [], e)
    | none => .bad
theorem evp_var : evP Γ (.var i) bs e = kPv (e.get i) i e := by simp only [evP, kPv] <;> rfl
theorem kPvo {o : Nat × D} : kPv (some o) i e = .ok (i, [], e) := rfl
def kPs1 (r : R (Nat × List Nat × Env)) (Γ : Sm) (c : CE) (bs : List Nat) : R (Nat × List Nat × Env) := r.bind fun p => guardR (okP p.2.2 p.1 p.2.1) ((evE Γ c (p.1 :: bs) p.2.2).bind fun y => stepP p.1 p.2.1 y.2.1 y.2.2)
def kPs2 (r : R (Tg × D × Env)) (i : Nat) (p : List Nat) : R (Nat × List Nat × Env) := r.bind fun y => stepP i p y.2.1 y.2.2
theorem evp_sub : evP Γ (.sub a b) bs e = kPs1 (evP Γ a bs e) Γ b bs := by simp only [evP, kPs1]
theorem kPs1o : kPs1 (.ok (i, p, e)) Γ b bs = guardR (okP e i p) (kPs2 (evE Γ b (i :: bs) e) i p) := rfl
theorem kPs2o {t : Tg} : kPs2 (.ok (t, d, e)) i p = stepP i p d e := rfl
end
section
variable {Γ : Sm} {bs : List Nat} {e : Env} {i j k n : Nat} {d : D} {c : Str} {xs : List D} {a b cc o : CE} {es : CEs} {as : List (Tg × D)} {s : CS} {ss s1 s2 : CSs} {t : Tg} {p : List Nat} {w : Tg × D} {g : CT}
def kSeqS (r : RS) (Γ : Sm) (ss : CSs) (bs : List Nat) : RS := match r with
  | .nx e1 => exSs Γ ss bs e1
  | q => q
theorem exs_nil : exSs Γ .nil bs e = .nx e := by simp only [exSs]
theorem exs_cons : exSs Γ (.cons s ss) bs e = kSeqS (exS Γ s bs e) Γ ss bs := by simp only [exSs, kSeqS] <;> rfl
theorem kSeqSn : kSeqS (.nx e) Γ ss bs = exSs Γ ss bs e := rfl
theorem kSeqSr : kSeqS (.rt k d e) Γ ss bs = .rt k d e := rfl
theorem kSeqSb : kSeqS (.bk e) Γ ss bs = .bk e := rfl
theorem kSeqSc : kSeqS (.ct e) Γ ss bs = .ct e := rfl
theorem kSeqSx : kSeqS (.exn c xs e) Γ ss bs = .exn c xs e := rfl
theorem kSeqS_nil {r : RS} : kSeqS r Γ .nil bs = r := by cases r <;> first | rfl | (simp only [kSeqS, exSs])
def kO (o : Option Env) : RS := match o with
  | some e => .nx e
  | none => .bad
theorem kOo : kO (some e) = .nx e := rfl
theorem optS_nx (o : Option Env) : optS o .nx = kO o := by cases o <;> rfl
def kSet (r : R (Tg × D × Env)) (i : Nat) (bs : List Nat) : RS := r.toS fun x => optS (x.2.2.bindE bs i x.1 x.2.1) .nx
theorem ex_set : exS Γ (.set i a) bs e = kSet (evE Γ a bs e) i bs := by simp only [exS, kSet]
theorem kSeto : kSet (.ok (t, d, e)) i bs = kO (e.bindE bs i t d) := optS_nx _
theorem kSetx : kSet (.exn c xs e) i bs = .exn c xs e := rfl
def kSet2 (r : R (Tg × D × Env)) (i j : Nat) (bs : List Nat) : RS := r.toS fun x => if x.2.1.flat then optS (x.2.2.bindE bs i x.1 x.2.1) fun e1 => optS (e1.bindE bs j x.1 x.2.1) .nx else .bad
def kO2 (o : Option Env) (bs : List Nat) (j : Nat) (t : Tg) (d : D) : RS := match o with
  | some e1 => kO (e1.bindE bs j t d)
  | none => .bad
theorem kO2o : kO2 (some e) bs j t d = kO (e.bindE bs j t d) := rfl
theorem ex_set2 : exS Γ (.set2 i j a) bs e = kSet2 (evE Γ a bs e) i j bs := by simp only [exS, kSet2]
theorem kSet2o : kSet2 (.ok (t, d, e)) i j bs = if d.flat then kO2 (e.bindE bs i t d) bs j t d else .bad := by
  show (if d.flat = true then optS (e.bindE bs i t d) fun e1 => optS (e1.bindE bs j t d) .nx else .bad) = _
  cases h : e.bindE bs i t d with
  | none => rfl
  | some e1 => simp only [optS, kO2, ← optS_nx]
def kUnp (r : R (Tg × D × Env)) (g : CT) (bs : List Nat) : RS := r.toS fun x => optS (bindT g x.2.2 bs x.1 x.2.1) .nx
theorem ex_unp : exS Γ (.unp g a) bs e = kUnp (evE Γ a bs e) g bs := by simp only [exS, kUnp]
theorem kUnpo : kUnp (.ok (t, d, e)) g bs = kO (bindT g e bs t d) := optS_nx _
def kSix1 (r : R (Tg × D × Env)) (Γ : Sm) (o i : CE) (bs : List Nat) : RS := r.toS fun x => (evP Γ o (x.1.slots ++ bs) x.2.2).toS fun p => if okP p.2.2 p.1 p.2.1 then (evE Γ i (p.1 :: (x.1.slots ++ bs)) p.2.2).toS fun y => sixE (x.1.slots ++ bs) p.1 p.2.1 y.2.1 (x.1, x.2.1) y.2.2 else .bad
def kSix2 (r : R (Nat × List Nat × Env)) (Γ : Sm) (i : CE) (bs : List Nat) (x : Tg × D) : RS := r.toS fun p => if okP p.2.2 p.1 p.2.1 then (evE Γ i (p.1 :: bs) p.2.2).toS fun y => sixE bs p.1 p.2.1 y.2.1 x y.2.2 else .bad
def kSix3 (r : R (Tg × D × Env)) (bs : List Nat) (i : Nat) (p : List Nat) (x : Tg × D) : RS := r.toS fun y => sixE bs i p y.2.1 x y.2.2
def gS (b : Bool) (r : RS) : RS := if b then r else .bad
theorem gS_t {r : RS} : gS true r = r := rfl
theorem ex_six : exS Γ (.six o b a) bs e = kSix1 (evE Γ a bs e) Γ o b bs := by simp only [exS, kSix1]
theorem kSix1o : kSix1 (.ok (t, d, e)) Γ o b bs = kSix2 (evP Γ o (t.slots ++ bs) e) Γ b (t.slots ++ bs) (t, d) := rfl
theorem kSix2o : kSix2 (.ok (i, p, e)) Γ b bs w = gS (okP e i p) (kSix3 (evE Γ b (i :: bs) e) bs i p w) := rfl
theorem kSix3o : kSix3 (.ok (t, d, e)) bs i p w = sixE bs i p d w e := rfl
def kExp (r : R (Tg × D × Env)) : RS := r.toS fun x => .nx x.2.2
theorem ex_exp : exS Γ (.exp a) bs e = kExp (evE Γ a bs e) := by simp only [exS, kExp]
theorem kExpo : kExp (.ok (t, d, e)) = .nx e := rfl
theorem kExpx : kExp (.exn c xs e) = .exn c xs e := rfl
def kRet (r : R (Tg × D × Env)) : RS := r.toS fun x => match minK [(x.1, x.2.1)] with
    | some k => .rt k x.2.1 x.2.2
    | none => .bad
def kRet2 (o : Option Nat) (d : D) (e : Env) : RS := match o with
  | some k => .rt k d e
  | none => .bad
theorem ex_ret : exS Γ (.ret a) bs e = kRet (evE Γ a bs e) := by simp only [exS, kRet] <;> rfl
theorem kReto : kRet (.ok (t, d, e)) = kRet2 (minK [(t, d)]) d e := by
  show (match minK [(t, d)] with | some k => RS.rt k d e | none => .bad) = _
  cases minK [(t, d)] <;> rfl
theorem kRetx : kRet (.exn c xs e) = .exn c xs e := rfl
theorem kRet2o : kRet2 (some k) d e = .rt k d e := rfl
theorem ex_retN : exS Γ .retN bs e = .rt 9 .non e := by simp only [exS]
def kIf1 (r : R (Tg × D × Env)) (Γ : Sm) (s1 s2 : CSs) (bs : List Nat) : RS := (tst r).toS fun x => if x.1 then exSs Γ s1 bs x.2 else exSs Γ s2 bs x.2
def kIf2 (o : Option Bool) (Γ : Sm) (s1 s2 : CSs) (bs : List Nat) (e : Env) : RS := match o with
  | some true => exSs Γ s1 bs e
  | some false => exSs Γ s2 bs e
  | none => .bad
theorem ex_ite : exS Γ (.ite a s1 s2) bs e = kIf1 (evE Γ a bs e) Γ s1 s2 bs := by simp only [exS, kIf1]
theorem kIf1o : kIf1 (.ok (t, d, e)) Γ s1 s2 bs = kIf2 (truV d) Γ s1 s2 bs e := by
  cases h : truV d with
  | none => simp [kIf1, kIf2, tst, R.bind, R.toS, okM, h]
  | some r => cases r <;> simp [kIf1, kIf2, tst, R.bind, R.toS, okM, h]
theorem kIf1x : kIf1 (.exn c xs e) Γ s1 s2 bs = .exn c xs e := rfl
theorem kIf2t : kIf2 (some true) Γ s1 s2 bs e = exSs Γ s1 bs e := rfl
theorem kIf2f : kIf2 (some false) Γ s1 s2 bs e = exSs Γ s2 bs e := rfl
def forB (Γ : Sm) (g : CT) (ss : CSs) (bs : List Nat) (x : Tg × D) (e : Env) : RS := optS (bindT g e bs x.1 x.2) fun e2 => exSs Γ ss bs e2
def forS (Γ : Sm) (g : CT) (ss : CSs) (bs : List Nat) (t : Tg) (xs : List D) (e : Env) : RS := forLoop (forB Γ g ss bs) t xs e
def kFor (r : R (Its × Env)) (Γ : Sm) (g : CT) (ss : CSs) (bs : List Nat) : RS := r.toS fun s => forS Γ g ss (s.1.os ++ bs) s.1.t s.1.xs s.2
def kB (o : Option Env) (Γ : Sm) (ss : CSs) (bs : List Nat) : RS := match o with
  | some e => exSs Γ ss bs e
  | none => .bad
def kTurn (r : RS) (Γ : Sm) (g : CT) (ss : CSs) (bs : List Nat) (t : Tg) (xs : List D) : RS := match r with
  | .nx e1 => forS Γ g ss bs t xs e1
  | .ct e1 => forS Γ g ss bs t xs e1
  | .bk e1 => .nx e1
  | q => q
variable {it : CI} {its : Its}
theorem ex_for : exS Γ (.for g it ss) bs e = kFor (evI Γ it bs e) Γ g ss bs := by simp only [exS, kFor] <;> rfl
theorem kForo : kFor (.ok (its, e)) Γ g ss bs = forS Γ g ss (its.os ++ bs) its.t its.xs e := rfl
theorem kForx : kFor (.exn c xs e) Γ g ss bs = .exn c xs e := rfl
theorem forB_eq : forB Γ g ss bs w e = kB (bindT g e bs w.1 w.2) Γ ss bs := by unfold forB kB optS; cases bindT g e bs w.1 w.2 <;> rfl
theorem kBo : kB (some e) Γ ss bs = exSs Γ ss bs e := rfl
theorem forS_nil : forS Γ g ss bs t [] e = .nx e := rfl
theorem forS_cons : forS Γ g ss bs t (d :: xs) e = kTurn (forB Γ g ss bs (nrm t d, d) e) Γ g ss bs t xs := by
  unfold forS; simp only [forLoop, kTurn]; rfl
theorem kTurnn : kTurn (.nx e) Γ g ss bs t xs = forS Γ g ss bs t xs e := rfl
theorem kTurnc : kTurn (.ct e) Γ g ss bs t xs = forS Γ g ss bs t xs e := rfl
theorem kTurnb : kTurn (.bk e) Γ g ss bs t xs = .nx e := rfl
theorem kTurnr : kTurn (.rt k d e) Γ g ss bs t xs = .rt k d e := rfl
theorem kTurnx : kTurn (.exn c xs e) Γ g ss bs t ds = .exn c xs e := rfl
def whlS (Γ : Sm) (a : CE) (ss : CSs) (bs : List Nat) (e : Env) : RS := Γ.whl (fun e1 => tst (evE Γ a bs e1)) (fun e1 => exSs Γ ss bs e1) e
theorem ex_whl : exS Γ (.whl a ss) bs e = whlS Γ a ss bs e := by simp only [exS, whlS]
theorem ex_brk : exS Γ .brk bs e = .bk e := by simp only [exS]
theorem ex_cnt : exS Γ .cnt bs e = .ct e := by simp only [exS]
theorem ex_pas : exS Γ .pas bs e = .nx e := by simp only [exS]
def whlNS (Γ : Sm) (a : CE) (ss : CSs) (bs : List Nat) (n : Nat) (e : Env) : RS := whileN (fun e1 => tst (evE Γ a bs e1)) (fun e1 => exSs Γ ss bs e1) n e
def kW1 (r : R (Tg × D × Env)) (Γ : Sm) (a : CE) (ss : CSs) (bs : List Nat) (n : Nat) : RS := (tst r).toS fun x => if x.1 then (match exSs Γ ss bs x.2 with
      | .nx e2 => whlNS Γ a ss bs n e2
      | .ct e2 => whlNS Γ a ss bs n e2
      | .bk e2 => .nx e2
      | q => q) else .nx x.2
def kW3 (r : RS) (Γ : Sm) (a : CE) (ss : CSs) (bs : List Nat) (n : Nat) : RS := match r with
      | .nx e2 => whlNS Γ a ss bs n e2
      | .ct e2 => whlNS Γ a ss bs n e2
      | .bk e2 => .nx e2
      | q => q
def kW2 (o : Option Bool) (Γ : Sm) (a : CE) (ss : CSs) (bs : List Nat) (n : Nat) (e : Env) : RS := match o with
  | some true => kW3 (exSs Γ ss bs e) Γ a ss bs n
  | some false => .nx e
  | none => .bad
theorem whlNS_succ : whlNS Γ a ss bs (n + 1) e = kW1 (evE Γ a bs e) Γ a ss bs n := rfl
theorem kW1o : kW1 (.ok (t, d, e)) Γ a ss bs n = kW2 (truV d) Γ a ss bs n e := by
  cases h : truV d with
  | none => simp [kW1, kW2, tst, R.bind, R.toS, okM, h]
  | some r => cases r <;> simp [kW1, kW2, kW3, tst, R.bind, R.toS, okM, h] <;> rfl
theorem kW2t : kW2 (some true) Γ a ss bs n e = kW3 (exSs Γ ss bs e) Γ a ss bs n := rfl
theorem kW2f : kW2 (some false) Γ a ss bs n e = .nx e := rfl
theorem kW3n : kW3 (.nx e) Γ a ss bs n = whlNS Γ a ss bs n e := rfl
theorem kW3c : kW3 (.ct e) Γ a ss bs n = whlNS Γ a ss bs n e := rfl
theorem kW3b : kW3 (.bk e) Γ a ss bs n = .nx e := rfl
theorem kW3r : kW3 (.rt k d e) Γ a ss bs n = .rt k d e := rfl
theorem whl_of {r : RS} (hw : Γ.whl = whlC) (h : whlNS Γ a ss bs n e = r) (hr : r ≠ .bad) : whlS Γ a ss bs e = r := by
  unfold whlS; rw [hw]; exact whlC_eq h hr
def kRai (r : R (List (Tg × D) × Env)) (c : Str) : RS := r.toS fun x => match errArgs x.1 with
    | some xs => if xs.length = (fieldsOf c).length then .exn c xs x.2 else .bad
    | none => .bad
def kRai2 (o : Option (List D)) (c : Str) (e : Env) : RS := match o with
  | some xs => if xs.length = (fieldsOf c).length then .exn c xs e else .bad
  | none => .bad
theorem ex_rai : exS Γ (.rai c es) bs e = kRai (evEs Γ es bs e) c := by simp only [exS, kRai] <;> rfl
theorem kRaio : kRai (.ok (as, e)) c = kRai2 (errArgs as) c e := by
  show (match errArgs as with | some xs => if xs.length = (fieldsOf c).length then RS.exn c xs e else .bad | none => .bad) = _
  cases errArgs as <;> rfl
theorem kRai2o : kRai2 (some xs) c e = if xs.length = (fieldsOf c).length then .exn c xs e else .bad := rfl
def kTry (r : RS) (hs : List (Str × Nat × List XE)) : RS := match r with
  | .exn c xs e1 => handle c xs e1 hs
  | q => q
variable {hs : List (Str × Nat × List XE)}
theorem ex_try : exS Γ (.try ss hs) bs e = kTry (exSs Γ ss bs e) hs := by simp only [exS, kTry] <;> rfl
theorem kTryx : kTry (.exn c xs e) hs = handle c xs e hs := rfl
theorem kTryn : kTry (.nx e) hs = .nx e := rfl
theorem kTryr : kTry (.rt k d e) hs = .rt k d e := rfl
def lcB (Γ : Sm) (el : CE) (g : CT) (c : CE) (vs bs : List Nat) (x : Tg × D) (e1 : Env) : R (Option (Tg × D) × Env) := (okM (bindT g e1 bs x.1 x.2)).bind fun e2 => (test c.isNop (evE Γ c bs e2) e2).bind fun b =>
        if b.1 then (evE Γ el bs b.2).bind fun y => .ok (some (y.1, y.2.1), wipeE y.2.2 vs) else .ok (none, wipeE b.2 vs)
def lcS (Γ : Sm) (el : CE) (g : CT) (c : CE) (vs bs : List Nat) (t : Tg) (xs : List D) (e : Env) : R (List (Tg × D) × Env) := lcLoop (lcB Γ el g c vs bs) t xs e
def kLc1 (r : R (Its × Env)) (Γ : Sm) (el : CE) (g : CT) (c : CE) (vs bs : List Nat) : R (Tg × D × Env) := r.bind fun s => (noX (lcS Γ el g c vs (s.1.os ++ bs) s.1.t s.1.xs (wipeE s.2 vs))).bind fun q =>
      (okM (minK q.1)).bind fun k => guardR (lim q.1.length && disj vs (s.1.os ++ bs)) (.ok (.own (k + 1), .lst (q.1.map (·.2)), q.2))
def kLc2 (r : R (List (Tg × D) × Env)) (vs bs : List Nat) : R (Tg × D × Env) := (noX r).bind fun q => (okM (minK q.1)).bind fun k => guardR (lim q.1.length && disj vs bs) (.ok (.own (k + 1), .lst (q.1.map (·.2)), q.2))
def kLc3 (o : Option Nat) (as : List (Tg × D)) (vs bs : List Nat) (e : Env) : R (Tg × D × Env) := match o with
  | some k => guardR (lim as.length && disj vs bs) (.ok (.own (k + 1), .lst (as.map (·.2)), e))
  | none => .bad
variable {el : CE} {vs : List Nat}
theorem ev_lc : evE Γ (.lc el g it cc vs) bs e = kLc1 (evI Γ it bs e) Γ el g cc vs bs := by simp only [evE, kLc1] <;> rfl
theorem kLc1o : kLc1 (.ok (its, e)) Γ el g cc vs bs = kLc2 (lcS Γ el g cc vs (its.os ++ bs) its.t its.xs (wipeE e vs)) vs (its.os ++ bs) := rfl
theorem kLc2o : kLc2 (.ok (as, e)) vs bs = kLc3 (minK as) as vs bs e := by
  show (okM (minK as)).bind _ = _
  cases minK as <;> rfl
theorem kLc3o : kLc3 (some k) as vs bs e = guardR (lim as.length && disj vs bs) (.ok (.own (k + 1), .lst (as.map (·.2)), e)) := rfl
theorem lcS_nil : lcS Γ el g cc vs bs t [] e = .ok ([], e) := rfl
def kLcT (r : R (Option (Tg × D) × Env)) (Γ : Sm) (el : CE) (g : CT) (c : CE) (vs bs : List Nat) (t : Tg) (xs : List D) : R (List (Tg × D) × Env) := r.bind fun p => (lcS Γ el g c vs bs t xs p.2).bind fun q => match p.1 with
    | some y => .ok (y :: q.1, q.2)
    | none => .ok q
def kLcC (r : R (List (Tg × D) × Env)) (y : Tg × D) : R (List (Tg × D) × Env) := r.bind fun q => .ok (y :: q.1, q.2)
theorem lcS_cons : lcS Γ el g cc vs bs t (d :: xs) e = kLcT (lcB Γ el g cc vs bs (nrm t d, d) e) Γ el g cc vs bs t xs := by
  unfold lcS; simp only [lcLoop, kLcT]; rfl
theorem kLcTs {y : Tg × D} : kLcT (.ok (some y, e)) Γ el g cc vs bs t xs = kLcC (lcS Γ el g cc vs bs t xs e) y := rfl
theorem kLcTn : kLcT (.ok (none, e)) Γ el g cc vs bs t xs = lcS Γ el g cc vs bs t xs e := by
  show (lcS Γ el g cc vs bs t xs e).bind _ = _
  cases lcS Γ el g cc vs bs t xs e <;> rfl
theorem kLcCo {y : Tg × D} : kLcC (.ok (as, e)) y = .ok (y :: as, e) := rfl
def kLb1 (o : Option Env) (Γ : Sm) (el c : CE) (vs bs : List Nat) : R (Option (Tg × D) × Env) := (okM o).bind fun e2 => (test c.isNop (evE Γ c bs e2) e2).bind fun b =>
        if b.1 then (evE Γ el bs b.2).bind fun y => .ok (some (y.1, y.2.1), wipeE y.2.2 vs) else .ok (none, wipeE b.2 vs)
def kLb3 (o : Option Bool) (Γ : Sm) (el : CE) (vs bs : List Nat) (e : Env) : R (Option (Tg × D) × Env) := match o with
  | some true => (evE Γ el bs e).bind fun y => .ok (some (y.1, y.2.1), wipeE y.2.2 vs)
  | some false => .ok (none, wipeE e vs)
  | none => .bad
def kLb2 (r : R (Tg × D × Env)) (Γ : Sm) (el : CE) (vs bs : List Nat) : R (Option (Tg × D) × Env) := r.bind fun y => kLb3 (truV y.2.1) Γ el vs bs y.2.2
def kLbE (r : R (Tg × D × Env)) (vs : List Nat) : R (Option (Tg × D) × Env) := r.bind fun y => .ok (some (y.1, y.2.1), wipeE y.2.2 vs)
theorem lcB_eq : lcB Γ el g cc vs bs w e = kLb1 (bindT g e bs w.1 w.2) Γ el cc vs bs := rfl
theorem kLb1n : kLb1 (some e) Γ el .nop vs bs = kLbE (evE Γ el bs e) vs := rfl
theorem kLb1c (h : cc.isNop = false) : kLb1 (some e) Γ el cc vs bs = kLb2 (evE Γ cc bs e) Γ el vs bs := by
  show (test cc.isNop (evE Γ cc bs e) e).bind _ = _
  rw [h]
  unfold test kLb2 tst
  cases evE Γ cc bs e with
  | ok y =>
    obtain ⟨t, d, e1⟩ := y
    show (R.bind (okM (truV d)) _).bind _ = kLb3 (truV d) Γ el vs bs e1
    cases h : truV d with
    | none => rfl
    | some b => cases b <;> rfl
  | exn c xs e => rfl
  | bad => rfl
theorem kLb2o : kLb2 (.ok (t, d, e)) Γ el vs bs = kLb3 (truV d) Γ el vs bs e := rfl
theorem kLb3t : kLb3 (some true) Γ el vs bs e = kLbE (evE Γ el bs e) vs := rfl
theorem kLb3f : kLb3 (some false) Γ el vs bs e = .ok (none, wipeE e vs) := rfl
theorem kLbEo : kLbE (.ok (t, d, e)) vs = .ok (some (t, d), wipeE e vs) := rfl
end
theorem errArgs_s {t : Tg} {s : Str} (h : s.length ≤ 1000) : errArgs [(t, .str s)] = some [.str s] := by
  have : ([(t, D.str s)].map (·.2)).all isSm = true := by simp [isSm, h]
  unfold errArgs; rw [if_pos this]; rfl
theorem errArgs_i {t : Tg} {i : Int} (h0 : -1000000 < i) (h : i < 1000000) : errArgs [(t, .int i)] = some [.int i] := by
  have : ([(t, D.int i)].map (·.2)).all isSm = true := by simp [isSm]; omega
  unfold errArgs; rw [if_pos this]; rfl
def kRun (r : RS) (ino : Bool) : R0 := match r with
    | .rt k d e => outOf e ino k d
    | .nx e => outOf e ino 9 .non
    | .exn c xs _ => if ino then .bad else .exn c xs
    | _ => .bad
section
variable {Γ : Sm} {f : Fd} {as : List (Nat × D)} {k : Nat} {d : D} {e : Env} {c : Str} {xs : List D} {io : Bool} {p : Pg} {n : Nat}
theorem run_eq (h : as.length = f.ps) : runF Γ f as = kRun (exSs Γ f.body [] (as.map some ++ List.replicate (f.ns - f.ps) none)) f.ino := by
  unfold runF kRun
  (rw [if_pos h]) <;> rfl
theorem kRunr : kRun (.rt k d e) io = outOf e io k d := rfl
theorem kRunn : kRun (.nx e) io = outOf e io 9 .non := rfl
theorem kRunx : kRun (.exn c xs e) false = .exn c xs := rfl
def kOut (o : Option (Nat × D)) (k : Nat) (d : D) : R0 := match o with
  | some o => .ok k d (some o)
  | none => .bad
theorem out_f : outOf e false k d = .ok k d none := rfl
theorem out_t : outOf e true k d = kOut (e.get 0) k d := by unfold outOf kOut; rfl
theorem kOuto {o : Nat × D} : kOut (some o) k d = .ok k d (some o) := rfl
structure Has (p : Pg) (f : Fd) : Prop where
  find : p.find f.name = some f
  ext : p.ext f.name = none
theorem Has.call (h : Has p f) (n : Nat) (as : List (Nat × D)) (hl : as.length = f.ps) : p.callN (n + 1) f.name as = kRun (exSs (p.sm n) f.body [] (as.map some ++ List.replicate (f.ns - f.ps) none)) f.ino := by
  rw [← run_eq hl]
  simp only [Pg.callN, h.ext, h.find] <;> rfl
theorem Has.ino (h : Has p f) : p.ino f.name = f.ino := by
  simp only [Pg.ino, h.ext, h.find]
theorem sm_call {g : Str} : (p.sm n).call g as = p.callN n g as := rfl
theorem sm_ino {g : Str} : (p.sm n).ino g = p.ino g := rfl
end
theorem nble {a b : Nat} : Nat.ble a b = decide (a ≤ b) := by
  cases h : Nat.ble a b with
  | true => simp [Nat.le_of_ble_eq_true h]
  | false =>
    have : ¬ a ≤ b := fun z => by rw [Nat.ble_eq_true_of_le z] at h; cases h
    simp [this]
theorem lim_t {n : Nat} (h : n ≤ 16777216) : lim n = true := Nat.ble_eq_true_of_le h
theorem ixN_p {n : Nat} {i : Int} (h0 : 0 ≤ i) (h : i < n) : ixN n i = some i.toNat := by
  unfold ixN; rw [if_pos h0, if_pos h]
theorem mulOk_l {i j : Int} (h0 : -(2 ^ 64) < i) (h : i < 2 ^ 64) : mulOk i j = true := by
  unfold mulOk; simp only [Bool.or_eq_true, decide_eq_true_eq]; exact .inl (.inl ⟨h0, h⟩)
theorem mulOk_r {i j : Int} (h0 : -(2 ^ 64) < j) (h : j < 2 ^ 64) : mulOk i j = true := by
  unfold mulOk; simp only [Bool.or_eq_true, decide_eq_true_eq]; exact .inl (.inr ⟨h0, h⟩)
theorem divOk_t {i j : Int} (h0 : 0 < j) (h : j < 1073741824) : divOk i j = true := by
  unfold divOk; simp [h0, h]
theorem rngOk_t {a b : Int} (h1 : -(2 ^ 62) ≤ a) (h2 : a < 2 ^ 62) (h3 : -(2 ^ 62) ≤ b) (h4 : b < 2 ^ 62) : rngOk a b = true := by
  unfold rngOk; simp only [decide_eq_true_eq]; exact ⟨h1, h2, h3, h4⟩
theorem add_I {i j : Int} : binI .Add i j = some (i + j) := rfl
theorem sub_I {i j : Int} : binI .Sub i j = some (i - j) := rfl
theorem mul_I {i j : Int} (h : mulOk i j = true) : binI .Mult i j = some (i * j) := if_pos h
theorem mul_Il {i j : Int} (h0 : -18446744073709551616 < i) (h : i < 18446744073709551616) : binI .Mult i j = some (i * j) := mul_I (mulOk_l h0 h)
theorem mul_Ir {i j : Int} (h0 : -18446744073709551616 < j) (h : j < 18446744073709551616) : binI .Mult i j = some (i * j) := mul_I (mulOk_r h0 h)
theorem div_I {i j : Int} (h0 : 0 < j) (h : j < 1073741824) : binI .FloorDiv i j = some (i / j) := if_pos (divOk_t h0 h)
theorem mod_I {i j : Int} (h0 : 0 < j) : binI .Mod i j = some (i % j) := if_pos h0
theorem atI_p {xs : List D} {i : Int} {d : D} (h0 : 0 ≤ i) (h : xs[i.toNat]? = some d) : atI xs i = some d := by
  have := (List.getElem?_eq_some_iff.mp h).1
  unfold atI; rw [ixN_p h0 (by omega)]; exact h
theorem flats_int (ns : List Int) : D.flats (ns.map .int) = true := by induction ns with | nil => rfl | cons n ns ih => simp [D.flats, D.flat, ih]
theorem atI_nn {α : Type} {xs : List α} {i : Int} (h : 0 ≤ i) : atI xs i = xs[i.toNat]? := by
  unfold atI ixN
  rw [if_pos h]
  by_cases h : i < xs.length
  · rw [if_pos (by omega)]; rfl
  · rw [if_neg (by omega), List.getElem?_eq_none (by omega)]; rfl
theorem flats_mem {xs : List D} {x : D} (h : D.flats xs = true) (hx : x ∈ xs) : x.flat = true := by
  induction xs with
  | nil => cases hx
  | cons y ys ih =>
    rw [D.flats, Bool.and_eq_true] at h
    rcases List.mem_cons.mp hx with rfl | hx
    · exact h.1
    · exact ih h.2 hx
theorem flats_of {xs : List D} (h : ∀ x ∈ xs, x.flat = true) : D.flats xs = true := by
  induction xs with
  | nil => rfl
  | cons y ys ih =>
    rw [D.flats, h y List.mem_cons_self, ih fun x hx => h x (List.mem_cons_of_mem _ hx)]; rfl
theorem ty_int_bool : (("int" : Str) == ("bool" : Str)) = false := by decide +kernel
theorem ty_int_str : (("int" : Str) == ("str" : Str)) = false := by decide +kernel
theorem ty_int_list : (("int" : Str) == ("list" : Str)) = false := by decide +kernel
theorem ty_int_tuple : (("int" : Str) == ("tuple" : Str)) = false := by decide +kernel
theorem ty_int_dict : (("int" : Str) == ("dict" : Str)) = false := by decide +kernel
theorem ty_int_NoneType : (("int" : Str) == ("NoneType" : Str)) = false := by decide +kernel
theorem ty_bool_int : (("bool" : Str) == ("int" : Str)) = false := by decide +kernel
theorem ty_bool_str : (("bool" : Str) == ("str" : Str)) = false := by decide +kernel
theorem ty_bool_list : (("bool" : Str) == ("list" : Str)) = false := by decide +kernel
theorem ty_bool_tuple : (("bool" : Str) == ("tuple" : Str)) = false := by decide +kernel
theorem ty_bool_dict : (("bool" : Str) == ("dict" : Str)) = false := by decide +kernel
theorem ty_bool_NoneType : (("bool" : Str) == ("NoneType" : Str)) = false := by decide +kernel
theorem ty_str_int : (("str" : Str) == ("int" : Str)) = false := by decide +kernel
theorem ty_str_bool : (("str" : Str) == ("bool" : Str)) = false := by decide +kernel
theorem ty_str_list : (("str" : Str) == ("list" : Str)) = false := by decide +kernel
theorem ty_str_tuple : (("str" : Str) == ("tuple" : Str)) = false := by decide +kernel
theorem ty_str_dict : (("str" : Str) == ("dict" : Str)) = false := by decide +kernel
theorem ty_str_NoneType : (("str" : Str) == ("NoneType" : Str)) = false := by decide +kernel
theorem ty_list_int : (("list" : Str) == ("int" : Str)) = false := by decide +kernel
theorem ty_list_bool : (("list" : Str) == ("bool" : Str)) = false := by decide +kernel
theorem ty_list_str : (("list" : Str) == ("str" : Str)) = false := by decide +kernel
theorem ty_list_tuple : (("list" : Str) == ("tuple" : Str)) = false := by decide +kernel
theorem ty_list_dict : (("list" : Str) == ("dict" : Str)) = false := by decide +kernel
theorem ty_list_NoneType : (("list" : Str) == ("NoneType" : Str)) = false := by decide +kernel
theorem ty_tuple_int : (("tuple" : Str) == ("int" : Str)) = false := by decide +kernel
theorem ty_tuple_bool : (("tuple" : Str) == ("bool" : Str)) = false := by decide +kernel
theorem ty_tuple_str : (("tuple" : Str) == ("str" : Str)) = false := by decide +kernel
theorem ty_tuple_list : (("tuple" : Str) == ("list" : Str)) = false := by decide +kernel
theorem ty_tuple_dict : (("tuple" : Str) == ("dict" : Str)) = false := by decide +kernel
theorem ty_tuple_NoneType : (("tuple" : Str) == ("NoneType" : Str)) = false := by decide +kernel
theorem ty_dict_int : (("dict" : Str) == ("int" : Str)) = false := by decide +kernel
theorem ty_dict_bool : (("dict" : Str) == ("bool" : Str)) = false := by decide +kernel
theorem ty_dict_str : (("dict" : Str) == ("str" : Str)) = false := by decide +kernel
theorem ty_dict_list : (("dict" : Str) == ("list" : Str)) = false := by decide +kernel
theorem ty_dict_tuple : (("dict" : Str) == ("tuple" : Str)) = false := by decide +kernel
theorem ty_dict_NoneType : (("dict" : Str) == ("NoneType" : Str)) = false := by decide +kernel
theorem ty_NoneType_int : (("NoneType" : Str) == ("int" : Str)) = false := by decide +kernel
theorem ty_NoneType_bool : (("NoneType" : Str) == ("bool" : Str)) = false := by decide +kernel
theorem ty_NoneType_str : (("NoneType" : Str) == ("str" : Str)) = false := by decide +kernel
theorem ty_NoneType_list : (("NoneType" : Str) == ("list" : Str)) = false := by decide +kernel
theorem ty_NoneType_tuple : (("NoneType" : Str) == ("tuple" : Str)) = false := by decide +kernel
theorem ty_NoneType_dict : (("NoneType" : Str) == ("dict" : Str)) = false := by decide +kernel
theorem isi_c {d : D} {t : Str} {ts : List Str} : isiV d (t :: ts) = ((tyName d == t || (t == ("int" : Str) && tyName d == ("bool" : Str))) || isiV d ts) := rfl
theorem isi_n {d : D} : isiV d [] = false := rfl
theorem ty1 : tyName .non = "NoneType" := rfl
theorem ty2 {b : Bool} : tyName (.bl b) = "bool" := rfl
theorem ty3 {i : Int} : tyName (.int i) = "int" := rfl
theorem ty4 {s : Str} : tyName (.str s) = "str" := rfl
theorem ty5 {xs : List D} : tyName (.tup xs) = "tuple" := rfl
theorem ty6 {xs : List D} : tyName (.lst xs) = "list" := rfl
theorem atI_m1 {α : Type} {xs : List α} : atI xs (-1) = xs[xs.length - 1]? := by
  unfold atI ixN
  rw [if_neg (by decide)]
  by_cases h : -(xs.length : Int) ≤ -1
  · rw [if_pos h]
    show xs[((-1 : Int) + xs.length).toNat]? = _
    congr 1; omega
  · rw [if_neg h]
    have : xs.length = 0 := by omega
    rw [List.getElem?_eq_none (by omega)]; rfl
section
variable {t u : Tg} {xs : List D} {s z : Str} {n m : Int} {b : Bool} {d : D} {ns : List Int} {ys : List Str}
theorem bi_len_l : biV "len" [(t, .lst xs)] = some (.own 9, .int xs.length) := rfl
theorem bi_len_t : biV "len" [(t, .tup xs)] = some (.own 9, .int xs.length) := rfl
theorem bi_len_s : biV "len" [(t, .str s)] = if lim s.length then some (.own 9, .int s.length) else none := rfl
theorem bi_int_i : biV "int" [(t, .int n)] = some (.own 9, .int n) := rfl
theorem bi_int_b : biV "int" [(t, .bl b)] = some (.own 9, .int (if b then 1 else 0)) := rfl
theorem bi_str_i : biV "str" [(t, .int n)] = if n.natAbs.log2 < 1920 then some (.own 9, .str (toString n)) else none := rfl
theorem bi_list_a : biV "list" [(t, .arg ns)] = some (.own 10, .lst (ns.map .int)) := rfl
theorem bi_list_l : biV "list" [(t, .lst xs)] = (keepK t.item xs).map fun k => (.own (k + 1), .lst xs) := rfl
theorem bi_list_t : biV "list" [(t, .tup xs)] = (keepK t xs).map fun k => (.own (k + 1), .lst xs) := rfl
theorem bi_tuple_l : biV "tuple" [(t, .lst xs)] = (keepK t.item xs).map fun k => (nrm (.own k) (.tup xs), .tup xs) := rfl
theorem bi_tuple_t : biV "tuple" [(t, .tup xs)] = some (t, .tup xs) := rfl
theorem bi_min : biV "min" [(t, .int n), (u, .int m)] = some (.own 9, .int (if m < n then m else n)) := rfl
theorem bi_max : biV "max" [(t, .int n), (u, .int m)] = some (.own 9, .int (if m > n then m else n)) := rfl
theorem bi_sorted (h : intsD xs = some ns) (hl : xs.length < 64) : biV "sorted" [(t, .lst xs)] = some (.own 10, .lst ((ns.mergeSort (fun a b => decide (a ≤ b))).map .int)) := by
  show (match intsD xs with | some ns => if xs.length < 64 then some (Tg.own 10, D.lst ((ns.mergeSort (fun a b => decide (a ≤ b))).map .int)) else none | none => none) = _
  rw [h]; simp only [if_pos hl]
theorem intsD_map : intsD (ns.map .int) = some ns := by induction ns with | nil => rfl | cons n ns ih => simp [intsD, ih]
theorem met_index_l (h : intsD xs = some ns) (hc : n ∈ ns) : metV "index" (t, .lst xs) [(u, .int n)] = some (.own 9, .int (ns.idxOf n)) := by
  show (match intsD xs with | some ns => if ns.contains n then some (Tg.own 9, D.int (ns.idxOf n)) else none | none => none) = _
  rw [h]; simp only [if_pos (List.contains_iff_mem.mpr hc)]
theorem met_index_t (h : intsD xs = some ns) (hc : n ∈ ns) : metV "index" (t, .tup xs) [(u, .int n)] = some (.own 9, .int (ns.idxOf n)) := by
  show (match intsD xs with | some ns => if ns.contains n then some (Tg.own 9, D.int (ns.idxOf n)) else none | none => none) = _
  rw [h]; simp only [if_pos (List.contains_iff_mem.mpr hc)]
theorem rcv_index_l : metRcv "index" (.lst xs) = true := rfl
theorem rcv_index_t : metRcv "index" (.tup xs) = true := rfl
theorem rcv_join : metRcv "join" (.str s) = true := rfl
theorem met_join (h : strsD xs = some ys) : metV "join" (t, .str s) [(u, .lst xs)] = if lim (s.length * ys.length + (ys.map (fun y : Str => y.length)).sum) then some (.own 9, .str (Txt.join s ys)) else none := by
  show (match strsD xs with | some ys => if lim (s.length * ys.length + (ys.map (fun y : Str => y.length)).sum) then some (Tg.own 9, D.str (Txt.join s ys)) else none | none => none) = _
  rw [h]
theorem mut_append : mutV "append" xs [(t, d)] = if lim (xs.length + 1) then some (false, .non, xs ++ [d], [(t, d)]) else none := rfl
theorem mut_pop0 : mutV "pop" xs [] = (xs[xs.length - 1]?).map fun (y : D) => (true, y, xs.dropLast, []) := rfl
theorem mut_pop1 : mutV "pop" xs [(t, .int n)] = if -(2 ^ 63) ≤ n ∧ n < 2 ^ 63 then match seqIndex? n xs.length with
        | some k => (xs[k]?).map fun y => (true, y, xs.eraseIdx k, [])
        | none => none
      else none := rfl
theorem mut_insert : mutV "insert" xs [(t, .int n), (u, d)] = if 0 ≤ n ∧ n < 2 ^ 63 ∧ lim (xs.length + 1) then some (false, .non, xs.take n.toNat ++ d :: xs.drop n.toNat, [(u, d)]) else none := rfl
theorem mut_remove : mutV "remove" xs [(t, .int n)] = match intsD xs with
      | some ns => if ns.contains n then some (false, .non, xs.eraseIdx (ns.idxOf n), []) else none
      | none => none := rfl
end
section
variable {e : Env} {bs os : List Nat} {k i : Nat} {d : D} {b : Bool}
theorem land_0 : landE bs [] k d e b = .ok (nrm (.own k) d, d, e) := by cases b <;> rfl
theorem disj_nil : disj [] bs = true := rfl
theorem disj_cons : disj (i :: os) bs = (!bs.contains i && disj os bs) := by simp [disj]
theorem land_ff : landE bs os k d e false = guardR (disj os bs) (.ok (nrm (.own k) d, d, freeze e os)) := by simp [landE, guardR]
theorem freeze_nil : freeze e [] = e := rfl
theorem freeze_cons : freeze e (i :: os) = freeze (match e.get i with
    | some (_, d) => e.set i (some (0, d))
    | none => e) os := rfl
theorem pow_10_18 : binI .Pow 10 18 = some 1000000000000000000 := by decide
theorem pow_10_30 : binI .Pow 10 30 = some 1000000000000000000000000000000 := by decide
theorem getE_map {α β : Type} {f : α → β} {l : List α} {n : Nat} : (l.map f)[n]? = (l[n]?).map f := List.getElem?_map
end
theorem eqV_int {i j : Int} : eqV (.int i) (.int j) = some (decide (i = j)) := by
  have : PyData.eqv (.int i) (.int j) = decide (i = j) := by rfl
  show (if SeqAt.shaped (.int i) && SeqAt.shaped (.int j) then some (PyData.eqv (.int i) (.int j)) else none) = _
  rw [this]; rfl
theorem mut_pop_s {xs : List D} {x : D} : mutV "pop" (xs ++ [x]) [] = some (true, x, xs, []) := by
  rw [mut_pop0, List.length_append, List.getElem?_append_right (by simp)]
  simp
theorem eqV_bl {i j : Bool} : eqV (.bl i) (.bl j) = some (decide (i = j)) := by
  have : PyData.eqv (.bool i) (.bool j) = decide (i = j) := by cases i <;> cases j <;> rfl
  show (if SeqAt.shaped (.bool i) && SeqAt.shaped (.bool j) then some (PyData.eqv (.bool i) (.bool j)) else none) = _
  rw [this]; rfl
theorem eqV_str {i j : Str} (hi : PyData.strOk i = true) (hj : PyData.strOk j = true) : eqV (.str i) (.str j) = some (decide (i = j)) := by
  have h1 : SeqAt.shaped (.str i) = true := by
    unfold SeqAt.shaped
    rw [show PyData.canLay0 (.str i) = true from by unfold PyData.canLay0; exact hi]; rfl
  have h2 : SeqAt.shaped (.str j) = true := by
    unfold SeqAt.shaped
    rw [show PyData.canLay0 (.str j) = true from by unfold PyData.canLay0; exact hj]; rfl
  show (if SeqAt.shaped (.str i) && SeqAt.shaped (.str j) then some (PyData.eqv (.str i) (.str j)) else none) = _
  rw [h1, h2]
  show some (PyData.eqv (.str i) (.str j)) = _
  congr 1
def rngL (a b : Int) : List Int := (List.range (b - a).toNat).map fun (i : Nat) => a + i
theorem rngI_eq (a b : Int) : rngI a b = (rngL a b).map .int := rngI_map a b
theorem rngL_len (a b : Int) : (rngL a b).length = (b - a).toNat := by simp [rngL]
theorem rngL_get {a b : Int} {i : Nat} (h : i < (b - a).toNat) : (rngL a b)[i]? = some (a + i) := by
  simp [rngL, h]
theorem rngL_mem {a b x : Int} : x ∈ rngL a b ↔ a ≤ x ∧ x < b := by
  simp only [rngL, List.mem_map, List.mem_range]
  constructor
  · rintro ⟨i, hi, rfl⟩; omega
  · intro h; exact ⟨(x - a).toNat, by omega, by omega⟩
theorem rngL_nodup (a b : Int) : (rngL a b).Nodup := by
  unfold rngL
  rw [List.Nodup, List.pairwise_map]
  exact (List.nodup_range (n := (b - a).toNat)).imp fun h e => h (by omega)
theorem map_erase {α β : Type} (f : α → β) : ∀ (l : List α) (k : Nat), (l.map f).eraseIdx k = (l.eraseIdx k).map f
  | [], _ => rfl
  | _ :: _, 0 => rfl
  | a :: l, k + 1 => by simp [map_erase f l k]
section
variable {ns ms : List Int} {k : Nat} {n m : Int} {xs : List D} {t : Tg} {α : Type}
theorem nf_drop : (ns.map D.int).drop k = (ns.drop k).map .int := List.map_drop.symm
theorem nf_take : (ns.map D.int).take k = (ns.take k).map .int := List.map_take.symm
theorem nf_app : ns.map D.int ++ ms.map .int = (ns ++ ms).map .int := List.map_append.symm
theorem nf_rev : (ns.map D.int).reverse = ns.reverse.map .int := List.map_reverse.symm
theorem nf_erase : (ns.map D.int).eraseIdx k = (ns.eraseIdx k).map .int := map_erase D.int ns k
theorem nf_set : (ns.map D.int).set k (.int n) = (ns.set k n).map .int := by rw [List.map_set]
theorem nf_last : (ns.map D.int).dropLast = ns.dropLast.map .int := by rw [List.map_dropLast]
theorem nf_snoc : ns.map D.int ++ [.int n] = (ns ++ [n]).map .int := by simp
theorem nf_ins : ns.map D.int ++ .int n :: ms.map .int = (ns ++ n :: ms).map .int := by simp
theorem nf_empty : (ns.map D.int).isEmpty = ns.isEmpty := by cases ns <;> rfl
theorem map_len : (ns.map D.int).length = ns.length := List.length_map _
theorem sIx_p {d : Nat} (h : 0 ≤ n) : HT.sIx k d (some n) = min n.toNat k := by
  show (if n < 0 then _ else _) = _
  rw [if_neg (by omega)]
theorem cut_nn : cutD xs none none = xs := by simp [cutD, HT.sIx]
theorem cut_from (h : 0 ≤ n) : cutD xs (some n) none = xs.drop n.toNat := by
  unfold cutD
  rw [sIx_p h]
  show (xs.drop (min n.toNat xs.length)).take (xs.length - min n.toNat xs.length) = _
  rcases Nat.le_total n.toNat xs.length with q | q
  · rw [Nat.min_eq_left q, List.take_of_length_le (by rw [List.length_drop]; omega)]
  · rw [Nat.min_eq_right q, List.drop_length, List.drop_eq_nil_of_le q]; simp
theorem cut_to (h : 0 ≤ n) : cutD xs none (some n) = xs.take n.toNat := by
  unfold cutD
  rw [sIx_p h]
  show (xs.drop 0).take (min n.toNat xs.length - 0) = _
  simp
theorem cut_ft (h : 0 ≤ n) (h2 : 0 ≤ m) : cutD xs (some n) (some m) = (xs.drop n.toNat).take (m.toNat - n.toNat) := by
  unfold cutD
  rw [sIx_p h, sIx_p h2]
  rcases Nat.le_total n.toNat xs.length with q | q
  · rw [Nat.min_eq_left q]
    rcases Nat.le_total m.toNat xs.length with q2 | q2
    · rw [Nat.min_eq_left q2]
    · rw [Nat.min_eq_right q2, List.take_of_length_le (i := xs.length - n.toNat) (by rw [List.length_drop]; omega), List.take_of_length_le (by rw [List.length_drop]; omega)]
  · rw [Nat.min_eq_right q, List.drop_length, List.drop_eq_nil_of_le q]; simp
theorem cut_to1 : cutD xs none (some (-1)) = xs.dropLast := by
  show (xs.drop 0).take ((((-1 : Int) + (xs.length : Int)).toNat) - 0) = _
  rw [List.dropLast_eq_take]; simp; omega
theorem slc_l {lo hi : Option Int} : slcV (t, .lst xs) lo hi = (keepK t.item (cutD xs lo hi)).map fun k => (.own (k + 1), .lst (cutD xs lo hi)) := rfl
theorem slc_t {lo hi : Option Int} : slcV (t, .tup xs) lo hi = if HT.sIx xs.length 0 lo = 0 ∧ HT.sIx xs.length xs.length hi = xs.length then some (t, .tup xs) else (keepK t (cutD xs lo hi)).map fun k => (nrm (.own k) (.tup (cutD xs lo hi)), .tup (cutD xs lo hi)) := rfl
theorem cut_all {lo hi : Option Int} (h : HT.sIx xs.length 0 lo = 0 ∧ HT.sIx xs.length xs.length hi = xs.length) : cutD xs lo hi = xs := by
  unfold cutD; rw [h.1, h.2]; simp
theorem flats_cut {lo hi : Option Int} (h : D.flats xs = true) : D.flats (cutD xs lo hi) = true :=
  flats_of fun x hx => flats_mem h (List.mem_of_mem_drop (List.mem_of_mem_take hx))
theorem slc_tI {lo hi : Option Int} {ns : List Int} : slcV (.own 9, .tup (ns.map .int)) lo hi = some (.own 9, .tup (cutD (ns.map .int) lo hi)) := by
  rw [slc_t]
  split
  · rename_i h; rw [cut_all h]
  · have := flats_cut (lo := lo) (hi := hi) (flats_int ns)
    simp [keepK, nrm, D.flat, this]
theorem mut_pop_n (h0 : 0 ≤ n) (h1 : n < xs.length) (h2 : n < 9223372036854775808) : mutV "pop" xs [(t, .int n)] = (xs[n.toNat]?).map fun (y : D) => (true, y, xs.eraseIdx n.toNat, []) := by
  have h3 : seqIndex? n xs.length = some n.toNat := by
    unfold seqIndex?
    simp only [if_neg (by omega : ¬ n < 0)]
    simp [h0, h1]
  show (if -(2 ^ 63) ≤ n ∧ n < 2 ^ 63 then (match seqIndex? n xs.length with | some k => (xs[k]?).map fun y => (true, y, xs.eraseIdx k, []) | none => none) else none) = _
  rw [if_pos ⟨by omega, h2⟩, h3]
theorem mut_ins_n {u : Tg} {d : D} (h0 : 0 ≤ n) (h2 : n < 9223372036854775808) (h3 : xs.length < 16777216) : mutV "insert" xs [(t, .int n), (u, d)] = some (false, .non, xs.take n.toNat ++ d :: xs.drop n.toNat, [(u, d)]) := by
  rw [mut_insert, if_pos ⟨h0, h2, lim_t (by omega)⟩]
end
theorem ilt_t {a b : Int} (h : a < b) : (a < b) = True := eq_true h
theorem ilt_f {a b : Int} (h : b ≤ a) : (a < b) = False := eq_false (by omega)
theorem ile_t {a b : Int} (h : a ≤ b) : (a ≤ b) = True := eq_true h
theorem ile_f {a b : Int} (h : b < a) : (a ≤ b) = False := eq_false (by omega)
theorem ieq_t {a b : Int} (h : a = b) : (a = b) = True := eq_true h
theorem ieq_f {a b : Int} (h : a ≠ b) : (a = b) = False := eq_false h
theorem nlt_t {a b : Nat} (h : a < b) : (a < b) = True := eq_true h
theorem nlt_f {a b : Nat} (h : b ≤ a) : (a < b) = False := eq_false (by omega)
theorem nle_t {a b : Nat} (h : a ≤ b) : (a ≤ b) = True := eq_true h
theorem nle_f {a b : Nat} (h : b < a) : (a ≤ b) = False := eq_false (by omega)
theorem neq_t {a b : Nat} (h : a = b) : (a = b) = True := eq_true h
theorem neq_f {a b : Nat} (h : a ≠ b) : (a = b) = False := eq_false h
section
variable {α β : Type} {a : α} {l m : List α} {i : Nat} {f : α → β} {b : Bool}
theorem c1 : (a :: l).length = l.length + 1 := rfl
theorem c2 : ([] : List α).length = 0 := rfl
theorem c3 : (l.map f).length = l.length := List.length_map f
theorem c4 : (a :: l)[0]? = some a := rfl
theorem c5 : (a :: l)[i + 1]? = l[i]? := rfl
theorem c6 : ([] : List α)[i]? = none := rfl
theorem c7 : (a :: l).set 0 x = x :: l := rfl
theorem c8 {x : α} : (a :: l).set (i + 1) x = a :: l.set i x := rfl
theorem c9 : List.replicate 0 a = [] := rfl
theorem c10 : List.replicate (i + 1) a = a :: List.replicate i a := rfl
theorem c11 : (a :: l).map f = f a :: l.map f := rfl
theorem c12 : ([] : List α).map f = [] := rfl
theorem c13 : [] ++ l = l := rfl
theorem c14 : a :: l ++ m = a :: (l ++ m) := rfl
theorem c15 : (some a).getD x = a := rfl
theorem c16 : (none : Option α).getD x = x := rfl
theorem c17 : (some a).map f = some (f a) := rfl
theorem c18 : (none : Option α).map f = none := rfl
theorem c19 {g : α → Option β} : (some a).bind g = g a := rfl
theorem c20 : (some a).isSome = true := rfl
theorem c21 : (a :: l).isEmpty = false := rfl
theorem c22 : ([] : List α).isEmpty = true := rfl
theorem c23 : (true && b) = b := Bool.true_and b
theorem c24 : (b && true) = b := Bool.and_true b
theorem c25 : (false && b) = false := rfl
theorem c26 : (b && false) = false := Bool.and_false b
theorem c27 : (true || b) = true := rfl
theorem c28 : (b || true) = true := Bool.or_true b
theorem c29 : (false || b) = b := rfl
theorem c30 : (b || false) = b := Bool.or_false b
theorem c31 : (!true) = false := rfl
theorem c32 : (!false) = true := rfl
theorem c33 : decide True = true := rfl
theorem c34 : decide False = false := rfl
theorem c35 {x y : α} : (if True then x else y) = x := if_pos trivial
theorem c36 {x y : α} : (if False then x else y) = y := if_neg id
theorem c37 : (false = true) = False := by simp
theorem c38 : (true = false) = False := by simp
theorem c39 {n : Nat} : (n == n) = true := by simp
theorem c40 {s : Str} : (s == s) = true := by simp
theorem c41 : ([] : List Nat).contains i = false := rfl
theorem c42 {j : Nat} {l : List Nat} : (j :: l).contains i = (i == j || l.contains i) := List.contains_cons
theorem c43 {n : Nat} : (n ≤ n) = True := by simp
theorem c44 {n : Nat} : (0 ≤ n) = True := by simp
theorem c45 {p : Prop} [Decidable p] : (decide p = true) = p := by simp
theorem c46 : (True ∧ True) = True := by simp
theorem c47 {n : Nat} : ((n : Int)).toNat = n := by simp
theorem c48 : (0 : Int).toNat = 0 := rfl
theorem len_drop : (l.drop i).length = l.length - i := List.length_drop
theorem len_take : (l.take i).length = min i l.length := List.length_take
theorem len_app : (l ++ m).length = l.length + m.length := List.length_append
theorem len_rev : l.reverse.length = l.length := List.length_reverse
theorem len_set {x : α} : (l.set i x).length = l.length := List.length_set
theorem ite_self1 {c : Prop} [Decidable c] {x : α} : (if c then x else x) = x := ite_self x
theorem any_nil1 {f : α → Bool} : ([] : List α).any f = false := rfl
theorem any_cons1 {f : α → Bool} : (a :: l).any f = (f a || l.any f) := rfl
theorem c49 {n : Nat} : min n n = n := by simp
end
end VI.P
local macro_rules
  | `(tactic| simp! only [$xs,*] $[$loc]?) => `(tactic| simp -implicitDefEqProofs (maxSteps := 20000) (disch := omega) only [VI.P.okM_s, VI.P.guard_t, VI.P.ev_var, VI.P.kVar1, VI.P.ev_mv, VI.P.kMv1, VI.P.ev_fz, VI.P.kFz1, VI.P.ev_int, VI.P.ev_str, VI.P.ev_bl, VI.P.ev_non, VI.P.kOpt1, VI.P.ev_bin, VI.P.kBin1o, VI.P.kBin1x, VI.P.kBin2o, VI.P.kBin2x, VI.P.ev_neg, VI.P.kNego, VI.P.kBool1, VI.P.ev_cmp, VI.P.kCmp1o, VI.P.kCmp1x, VI.P.kCmp2o, VI.P.kCmp2x, VI.P.ev_chn, VI.P.kChn1o, VI.P.kChn2o, VI.P.kChn3t, VI.P.kChn3f, VI.P.ev_and, VI.P.kAndt, VI.P.kAndf, VI.P.ev_or, VI.P.kOrf, VI.P.kOrt, VI.P.ev_not, VI.P.kNoto, VI.P.ev_ite, VI.P.kIte1o, VI.P.kIte2t, VI.P.kIte2f, VI.P.ev_tup, VI.P.kTupo, VI.P.kTupx, VI.P.kTup2o, VI.P.ev_lst, VI.P.kLsto, VI.P.kLstx, VI.P.kLst2o, VI.P.ev_sub, VI.P.kSub1o, VI.P.kSub2o, VI.P.kSub1x, VI.P.kSub2x, VI.P.evPt0, VI.P.evPt_int, VI.P.evPt_var, VI.P.evPt_mv, VI.P.evPt_bin, VI.P.evPt_neg, VI.P.evPt_sub, VI.P.evPt_bi, VI.P.evPt_fn, VI.P.kPart1, VI.P.ev_slc, VI.P.kSlc1o, VI.P.kSlc2o, VI.P.kSlc3o, VI.P.ev_rev, VI.P.kRevo, VI.P.kRev2o, VI.P.ev_bi, VI.P.kBio, VI.P.kBix, VI.P.ev_fn, VI.P.kFn0f, VI.P.kFn0t, VI.P.kFno, VI.P.kFnx, VI.P.kCallf, VI.P.kCallt, VI.P.kArgIo, VI.P.kReso, VI.P.kResx, VI.P.kResIo, VI.P.land_t, VI.P.ev_met, VI.P.kMet1o, VI.P.kMet2o, VI.P.ev_mut, VI.P.kMut1o, VI.P.kMut2o, VI.P.ev_isi, VI.P.kIsio, VI.P.ev_sp, VI.P.kSp0, VI.P.kSp1, VI.P.kSp2, VI.P.kSpRo, VI.P.evs_nil, VI.P.evs_cons, VI.P.kArg1o, VI.P.kArg1x, VI.P.kArg2o, VI.P.kArg2x, VI.P.kFnIo, VI.P.evi_seq, VI.P.kSeqo, VI.P.kSeqx, VI.P.kSeq2o, VI.P.evi_rng, VI.P.kRngo, VI.P.evi_rng2, VI.P.kRng2o, VI.P.kRng3o, VI.P.evp_var, VI.P.kPvo, VI.P.evp_sub, VI.P.kPs1o, VI.P.kPs2o, VI.P.exs_nil, VI.P.exs_cons, VI.P.kSeqSn, VI.P.kSeqSr, VI.P.kSeqSb, VI.P.kSeqSc, VI.P.kSeqSx, VI.P.kSeqS_nil, VI.P.kOo, VI.P.ex_set, VI.P.kSeto, VI.P.kSetx, VI.P.kO2o, VI.P.ex_set2, VI.P.kSet2o, VI.P.ex_unp, VI.P.kUnpo, VI.P.gS_t, VI.P.ex_six, VI.P.kSix1o, VI.P.kSix2o, VI.P.kSix3o, VI.P.ex_exp, VI.P.kExpo, VI.P.kExpx, VI.P.ex_ret, VI.P.kReto, VI.P.kRetx, VI.P.kRet2o, VI.P.ex_retN, VI.P.ex_ite, VI.P.kIf1o, VI.P.kIf1x, VI.P.kIf2t, VI.P.kIf2f, VI.P.ex_for, VI.P.kForo, VI.P.kForx, VI.P.kBo, VI.P.kTurnn, VI.P.kTurnc, VI.P.kTurnb, VI.P.kTurnr, VI.P.kTurnx, VI.P.ex_whl, VI.P.ex_brk, VI.P.ex_cnt, VI.P.ex_pas, VI.P.kW1o, VI.P.kW2t, VI.P.kW2f, VI.P.kW3n, VI.P.kW3c, VI.P.kW3b, VI.P.kW3r, VI.P.ex_rai, VI.P.kRaio, VI.P.kRai2o, VI.P.ex_try, VI.P.kTryx, VI.P.kTryn, VI.P.kTryr, VI.P.ev_lc, VI.P.kLc1o, VI.P.kLc2o, VI.P.kLc3o, VI.P.kLcTs, VI.P.kLcTn, VI.P.kLcCo, VI.P.kLb1n, VI.P.kLb1c, VI.P.kLb2o, VI.P.kLb3t, VI.P.kLb3f, VI.P.kLbEo, VI.P.kRunr, VI.P.kRunn, VI.P.kRunx, VI.P.out_f, VI.P.out_t, VI.P.kOuto, VI.P.sm_call, VI.P.sm_ino, VI.P.nble, VI.P.lim_t, VI.P.ixN_p, VI.P.rngOk_t, VI.P.add_I, VI.P.sub_I, VI.P.mul_Il, VI.P.mul_Ir, VI.P.div_I, VI.P.mod_I, VI.P.flats_int, VI.P.atI_nn, VI.P.ty_int_bool, VI.P.ty_int_str, VI.P.ty_int_list, VI.P.ty_int_tuple, VI.P.ty_int_dict, VI.P.ty_int_NoneType, VI.P.ty_bool_int, VI.P.ty_bool_str, VI.P.ty_bool_list, VI.P.ty_bool_tuple, VI.P.ty_bool_dict, VI.P.ty_bool_NoneType, VI.P.ty_str_int, VI.P.ty_str_bool, VI.P.ty_str_list, VI.P.ty_str_tuple, VI.P.ty_str_dict, VI.P.ty_str_NoneType, VI.P.ty_list_int, VI.P.ty_list_bool, VI.P.ty_list_str, VI.P.ty_list_tuple, VI.P.ty_list_dict, VI.P.ty_list_NoneType, VI.P.ty_tuple_int, VI.P.ty_tuple_bool, VI.P.ty_tuple_str, VI.P.ty_tuple_list, VI.P.ty_tuple_dict, VI.P.ty_tuple_NoneType, VI.P.ty_dict_int, VI.P.ty_dict_bool, VI.P.ty_dict_str, VI.P.ty_dict_list, VI.P.ty_dict_tuple, VI.P.ty_dict_NoneType, VI.P.ty_NoneType_int, VI.P.ty_NoneType_bool, VI.P.ty_NoneType_str, VI.P.ty_NoneType_list, VI.P.ty_NoneType_tuple, VI.P.ty_NoneType_dict, VI.P.isi_c, VI.P.isi_n, VI.P.ty1, VI.P.ty2, VI.P.ty3, VI.P.ty4, VI.P.ty5, VI.P.ty6, VI.P.atI_m1, VI.P.bi_len_l, VI.P.bi_len_t, VI.P.bi_len_s, VI.P.bi_int_i, VI.P.bi_int_b, VI.P.bi_str_i, VI.P.bi_list_a, VI.P.bi_list_l, VI.P.bi_list_t, VI.P.bi_tuple_l, VI.P.bi_tuple_t, VI.P.bi_min, VI.P.bi_max, VI.P.intsD_map, VI.P.rcv_index_l, VI.P.rcv_index_t, VI.P.rcv_join, VI.P.mut_append, VI.P.mut_remove, VI.P.land_0, VI.P.disj_nil, VI.P.disj_cons, VI.P.land_ff, VI.P.freeze_nil, VI.P.freeze_cons, VI.P.pow_10_18, VI.P.pow_10_30, VI.P.getE_map, VI.P.eqV_int, VI.P.mut_pop_s, VI.P.rngI_eq, VI.P.rngL_len, VI.P.nf_drop, VI.P.nf_take, VI.P.nf_app, VI.P.nf_rev, VI.P.nf_erase, VI.P.nf_set, VI.P.nf_last, VI.P.nf_snoc, VI.P.nf_ins, VI.P.nf_empty, VI.P.cut_nn, VI.P.cut_from, VI.P.cut_to, VI.P.cut_ft, VI.P.cut_to1, VI.P.slc_l, VI.P.slc_tI, VI.P.mut_pop_n, VI.P.mut_ins_n, VI.P.ilt_t, VI.P.ilt_f, VI.P.ile_t, VI.P.ile_f, VI.P.ieq_t, VI.P.ieq_f, VI.P.nlt_t, VI.P.nlt_f, VI.P.nle_t, VI.P.nle_f, VI.P.neq_t, VI.P.neq_f, VI.P.c1, VI.P.c2, VI.P.c3, VI.P.c4, VI.P.c5, VI.P.c6, VI.P.c7, VI.P.c8, VI.P.c9, VI.P.c10, VI.P.c11, VI.P.c12, VI.P.c13, VI.P.c14, VI.P.c15, VI.P.c16, VI.P.c17, VI.P.c18, VI.P.c19, VI.P.c20, VI.P.c21, VI.P.c22, VI.P.c23, VI.P.c24, VI.P.c25, VI.P.c26, VI.P.c27, VI.P.c28, VI.P.c29, VI.P.c30, VI.P.c31, VI.P.c32, VI.P.c33, VI.P.c34, VI.P.c37, VI.P.c38, VI.P.c39, VI.P.c40, VI.P.c41, VI.P.c42, VI.P.c43, VI.P.c44, VI.P.c45, VI.P.c46, VI.P.c47, VI.P.c48, VI.P.len_drop, VI.P.len_take, VI.P.len_app, VI.P.len_rev, VI.P.len_set, VI.P.ite_self1, VI.P.any_nil1, VI.P.any_cons1, VI.P.c49, VI.Env.bindE, VI.bindT, VI.Env.get, VI.varTg, VI.nrm, VI.D.flat, VI.D.flats, VI.Tg.slots, VI.Tg.item, VI.Tg.ret, VI.D.items, VI.froz, VI.seqI, VI.minK, VI.keepK, VI.okP, VI.atP, VI.putP, VI.stepP, VI.sixE, VI.mutE, VI.binV, VI.cmpV, VI.truV, VI.subV, VI.others, Nat.min_eq_left, Nat.min_eq_right, VI.looked, VI.D.within, VI.D.withins, VI.P.forB_eq, VI.P.lcB_eq, ↓reduceIte, Nat.reduceAdd, Nat.reduceSub, Nat.reduceMul, Nat.reduceLeDiff, Nat.reduceLT, Nat.reduceEqDiff, Nat.reduceBEq, Int.reduceToNat, Int.reduceLT, Int.reduceLE, Int.reduceAdd, Int.reduceSub, Int.reduceNeg, Int.reduceEq, Int.reduceNe, Int.reduceBEq, String.reduceEq, ↓reduceDIte, reduceCtorEq, $xs,*] $[$loc]?)
set_option autoImplicit true
set_option Elab.async false
set_option linter.all false
set_option maxRecDepth 100000
set_option maxHeartbeats 4000000
namespace VI.P
open PySem PySem.Spec PyProof.Rows L2
structure Sto where
  cells : List Int
  at_ : Nat
  left : Int
  turn : Int
  seed : Int
def Sto.d (s : Sto) : D := .lst [.lst (s.cells.map .int), .int s.at_, .int s.left, .int s.turn, .int s.seed]
def fd_law_store : Fd := ⟨"_law_store", 1, 4, false, (.cons (.set 1 (.bin .Pow (.int 10) (.int 60))) (.cons (.set 1 (.bin .Mult (.bin .Mult (.fz 1 1) (.fz 1 1)) (.fz 1 1))) (.cons (.set 1 (.bin .Mult (.bin .Mult (.bin .Mult (.fz 1 1) (.fz 1 1)) (.fz 1 1)) (.fz 1 1))) (.cons (.set 2 (.lst .nil)) (.cons (.for (.name 3) (.seq (.slc (.bi "list" (.cons (.fz 0 1) .nil)) .nop (.int 63))) (.cons (.ite (.cmp .GtE (.var 3) (.bin .Pow (.int 10) (.int 18))) (.cons (.exp (.mut "append" (.var 2) (.cons (.bin .Mod (.bi "int" (.cons (.var 3) .nil)) (.var 1)) .nil))) .nil) (.cons (.exp (.mut "append" (.var 2) (.cons (.bin .Mod (.bi "int" (.cons (.var 3) .nil)) (.int 2147483647)) .nil))) .nil)) .nil)) (.cons (.ret (.lst (.cons (.fz 2 0) (.cons (.int 0) (.cons (.int 0) (.cons (.int 0) (.cons (.bin .Add (.int 1) (.bi "len" (.cons (.var 2) .nil))) .nil))))))) .nil))))))⟩
def fd_law_take : Fd := ⟨"_law_take", 2, 7, true, (.cons (.ite (.cmp .Lt (.var 1) (.int 2)) (.cons (.ret (.int 0)) .nil) .nil) (.cons (.six (.var 0) (.int 3) (.bin .Add (.sub (.fz 0 2) (.int 3)) (.int 1))) (.cons (.for (.name 2) (.rng (.int 64)) (.cons (.ite (.cmp .Gt (.sub (.var 0) (.int 2)) (.int 0)) (.cons (.set 3 (.bin .Mod (.bi "int" (.cons (.sub (.var 0) (.int 2)) .nil)) (.var 1))) (.cons (.six (.var 0) (.int 2) (.bin .FloorDiv (.sub (.var 0) (.int 2)) (.var 1))) (.cons (.ret (.mv 3)) .nil))) .nil) (.cons (.ite (.cmp .GtE (.sub (.var 0) (.int 1)) (.bi "len" (.cons (.sub (.var 0) (.int 0)) .nil))) (.cons .brk .nil) .nil) (.cons (.set 4 (.sub (.sub (.fz 0 2) (.int 0)) (.sub (.var 0) (.int 1)))) (.cons (.six (.var 0) (.int 1) (.bin .Add (.sub (.fz 0 2) (.int 1)) (.int 1))) (.cons (.six (.var 0) (.int 4) (.bin .Mod (.bi "int" (.cons (.bin .Add (.bin .Add (.bin .Mult (.sub (.fz 0 2) (.int 4)) (.int 48271)) (.fz 4 1)) (.int 1)) .nil)) (.int 2147483647))) (.cons (.ite (.cmp .Lt (.var 4) (.bin .Pow (.int 10) (.int 18))) (.cons .brk .nil) .nil) (.cons (.six (.var 0) (.int 2) (.mv 4)) .nil)))))))) (.cons (.set 5 (.bin .Mod (.bi "int" (.cons (.bin .Add (.bin .Add (.bin .Mult (.sub (.fz 0 2) (.int 4)) (.int 69621)) (.bin .Mult (.sub (.fz 0 2) (.int 3)) (.int 16807))) (.int 8191)) .nil)) (.int 2147483647))) (.cons (.six (.var 0) (.int 4) (.fz 5 0)) (.cons (.set 6 (.bin .Mod (.bi "int" (.cons (.bin .Add (.bin .Add (.bin .Mult (.fz 5 1) (.fz 5 1)) (.bin .Mult (.sub (.fz 0 2) (.int 3)) (.int 40692))) (.int 271)) .nil)) (.int 2147483399))) (.cons (.ret (.bin .Mod (.bi "int" (.cons (.bin .Add (.bin .Mult (.fz 6 1) (.int 2147483647)) (.fz 5 1)) .nil)) (.var 1))) .nil)))))))⟩
def fd_law_count : Fd := ⟨"_law_count", 3, 4, true, (.cons (.ite (.cmp .LtE (.var 2) (.var 1)) (.cons (.ret (.mv 1)) .nil) .nil) (.cons (.set 3 (.fn "_law_take" (.cons (.var 0) (.cons (.int 6) .nil)))) (.cons (.ite (.cmp .Eq (.var 3) (.int 0)) (.cons (.ret (.mv 1)) .nil) .nil) (.cons (.ite (.cmp .Eq (.var 3) (.int 1)) (.cons (.ret (.mv 2)) .nil) .nil) (.cons (.ret (.bin .Add (.fz 1 1) (.fn "_law_take" (.cons (.var 0) (.cons (.bin .Add (.bin .Sub (.var 2) (.var 1)) (.int 1)) .nil))))) .nil)))))⟩
def fd_law_pick : Fd := ⟨"_law_pick", 2, 2, true, (.cons (.ret (.sub (.fz 1 1) (.fn "_law_take" (.cons (.var 0) (.cons (.bi "len" (.cons (.var 1) .nil)) .nil))))) .nil)⟩
def fd_law_shuffle : Fd := ⟨"_law_shuffle", 2, 5, true, (.cons (.set 2 (.bi "list" (.cons (.fz 1 1) .nil))) (.cons (.set 3 (.lst .nil)) (.cons (.for (.name 4) (.rng (.bi "len" (.cons (.var 1) .nil))) (.cons (.exp (.mut "append" (.var 3) (.cons (.mut "pop" (.var 2) (.cons (.fn "_law_take" (.cons (.var 0) (.cons (.bi "len" (.cons (.var 2) .nil)) .nil))) .nil)) .nil))) .nil)) (.cons (.ret (.mv 3)) .nil))))⟩
def fd_law_far : Fd := ⟨"_law_far", 1, 4, true, (.cons (.ite (.cmp .Eq (.fn "_law_take" (.cons (.var 0) (.cons (.int 3) .nil))) (.int 0)) (.cons (.set 1 (.lst (.cons (.int 0) (.cons (.int 1) (.cons (.neg (.int 1)) (.cons (.int 2) (.cons (.int 12) (.cons (.int 13) (.cons (.int 24) (.cons (.int 25) (.cons (.int 99) (.cons (.int 100) (.cons (.bin .Pow (.int 10) (.int 18)) (.cons (.bin .Sub (.bin .Pow (.int 10) (.int 30)) (.int 1)) (.cons (.bin .Sub (.int 1) (.bin .Pow (.int 10) (.int 30))) .nil))))))))))))))) (.cons (.ret (.fn "_law_pick" (.cons (.var 0) (.cons (.var 1) .nil)))) .nil)) .nil) (.cons (.set 2 (.int 0)) (.cons (.for (.name 3) (.rng (.fn "_law_count" (.cons (.var 0) (.cons (.int 1) (.cons (.int 30) .nil))))) (.cons (.set 2 (.bin .Add (.bin .Mult (.fz 2 1) (.int 10)) (.fn "_law_take" (.cons (.var 0) (.cons (.int 10) .nil))))) .nil)) (.cons (.ite (.cmp .Eq (.fn "_law_take" (.cons (.var 0) (.cons (.int 2) .nil))) (.int 0)) (.cons (.ret (.bin .Sub (.int 0) (.var 2))) .nil) .nil) (.cons (.ret (.mv 2)) .nil)))))⟩
def fd_law_off : Fd := ⟨"_law_off", 3, 4, true, (.cons (.set 3 (.lst (.cons (.bin .Sub (.var 1) (.int 1)) (.cons (.bin .Add (.fz 2 1) (.int 1)) (.cons (.bin .Sub (.var 1) (.int 1)) (.cons (.bin .Add (.fz 2 1) (.int 1)) (.cons (.bin .Sub (.bin .Pow (.int 10) (.int 30)) (.int 1)) (.cons (.bin .Sub (.int 1) (.bin .Pow (.int 10) (.int 30))) (.cons .non (.cons (.bl true) (.cons (.bl false) .nil))))))))))) (.cons (.set 3 (.bin .Add (.fz 3 1) (.lst (.cons (.str "") (.cons (.bi "str" (.cons (.var 1) .nil)) (.cons (.str "a") (.cons (.lst .nil) (.cons (.lst (.cons (.fz 1 0) .nil)) (.cons (.tup (.cons (.fz 1 0) .nil)) (.cons (.tup .nil) (.cons (.bin .Sub (.bin .Sub (.var 1) (.int 2)) (.fn "_law_take" (.cons (.var 0) (.cons (.int 1000000) .nil)))) .nil))))))))))) (.cons (.set 3 (.bin .Add (.fz 3 1) (.lst (.cons (.bin .Add (.bin .Add (.fz 2 1) (.int 2)) (.fn "_law_take" (.cons (.var 0) (.cons (.int 1000000) .nil)))) .nil)))) (.cons (.ret (.lst (.cons (.fn "_law_pick" (.cons (.var 0) (.cons (.var 3) .nil))) .nil))) .nil))))⟩
def fd_law_row : Fd := ⟨"_law_row", 2, 2, true, (.cons (.ite (.cmp .Eq (.fn "_law_take" (.cons (.var 0) (.cons (.int 2) .nil))) (.int 0)) (.cons (.ret (.bi "list" (.cons (.fz 1 1) .nil))) .nil) .nil) (.cons (.ret (.bi "tuple" (.cons (.fz 1 1) .nil))) .nil))⟩
def fd_law_plain : Fd := ⟨"_law_plain", 1, 2, true, (.cons (.set 1 (.fn "_law_take" (.cons (.var 0) (.cons (.int 9) .nil)))) (.cons (.ite (.cmp .Lt (.var 1) (.int 3)) (.cons (.ret (.bin .Sub (.fn "_law_take" (.cons (.var 0) (.cons (.int 14) .nil))) (.int 1))) .nil) .nil) (.cons (.ite (.cmp .Eq (.var 1) (.int 3)) (.cons (.ret (.fn "_law_far" (.cons (.var 0) .nil))) .nil) .nil) (.cons (.ite (.cmp .Eq (.var 1) (.int 4)) (.cons (.ret (.cmp .Eq (.fn "_law_take" (.cons (.var 0) (.cons (.int 2) .nil))) (.int 0))) .nil) .nil) (.cons (.ite (.cmp .Eq (.var 1) (.int 5)) (.cons (.ret .non) .nil) .nil) (.cons (.ite (.cmp .Eq (.var 1) (.int 6)) (.cons (.ret (.lst .nil)) .nil) .nil) (.cons (.ite (.cmp .Eq (.var 1) (.int 7)) (.cons (.ret (.tup .nil)) .nil) .nil) (.cons (.ret (.fn "_law_text" (.cons (.var 0) .nil))) .nil))))))))⟩
def fd_law_value : Fd := ⟨"_law_value", 2, 7, true, (.cons (.set 2 (.fn "_law_plain" (.cons (.var 0) .nil))) (.cons (.set 3 (.fn "_law_pick" (.cons (.var 0) (.cons (.lst (.cons (.int 0) (.cons (.int 0) (.cons (.int 1) (.cons (.int 1) (.cons (.int 1) (.cons (.int 2) (.cons (.int 3) (.cons (.int 7) .nil))))))))) .nil)))) (.cons (.for (.name 4) (.rng (.bi "min" (.cons (.var 3) (.cons (.bin .Sub (.var 1) (.int 1)) .nil)))) (.cons (.set 5 (.lc (.fn "_law_plain" (.cons (.var 0) .nil)) (.name 6) (.rng (.fn "_law_take" (.cons (.var 0) (.cons (.int 4) .nil)))) .nop [6])) (.cons (.exp (.mut "insert" (.var 5) (.cons (.fn "_law_take" (.cons (.var 0) (.cons (.bin .Add (.bi "len" (.cons (.var 5) .nil)) (.int 1)) .nil))) (.cons (.mv 2) .nil)))) (.cons (.set 2 (.fn "_law_row" (.cons (.var 0) (.cons (.var 5) .nil)))) .nil)))) (.cons (.ret (.mv 2)) .nil))))⟩
def fd_law_signs : Fd := ⟨"_law_signs", 0, 2, false, (.cons (.set 1 (.str " !\"#$&'()*+,-./0123456789:;<=>?@ABCDEFGHIJKLMNOPQRSTUVWXYZ[\\]^_`")) (.cons (.ret (.bin .Add (.fz 1 1) (.str "abcdefghijklmnopqrstuvwxyz{|}~\n"))) .nil))⟩
def fd_law_text : Fd := ⟨"_law_text", 1, 6, true, (.cons (.set 1 (.fn "_law_signs" .nil)) (.cons (.set 2 (.fn "_law_take" (.cons (.var 0) (.cons (.int 8) .nil)))) (.cons (.ite (.cmp .Eq (.var 2) (.int 0)) (.cons (.ret (.str "")) .nil) .nil) (.cons (.ite (.cmp .Eq (.var 2) (.int 1)) (.cons (.set 3 (.lst (.cons (.str "0") (.cons (.str "1") (.cons (.str "-1") (.cons (.str "-") (.cons (.str "a") (.cons (.str "few") (.cons (.str "cut") (.cons (.str "take") (.cons (.str "ring") (.cons (.str "none") (.cons (.str "take 0 1") (.cons (.str "ring 0 1") (.cons (.str "\n") (.cons (.str " ") .nil)))))))))))))))) (.cons (.ret (.fn "_law_pick" (.cons (.var 0) (.cons (.bin .Add (.fz 3 1) (.lst (.cons (.str "things 2\n0 1") (.cons (.str "things 1") (.cons (.str "settle") (.cons (.str "web 1:") (.cons (.str "True") (.cons (.str "()") .nil)))))))) .nil)))) .nil)) .nil) (.cons (.set 4 (.fn "_law_count" (.cons (.var 0) (.cons (.int 1) (.cons (.int 12) .nil))))) (.cons (.ite (.cmp .Eq (.var 2) (.int 2)) (.cons (.set 4 (.bin .Add (.int 40) (.fn "_law_take" (.cons (.var 0) (.cons (.int 361) .nil))))) .nil) .nil) (.cons (.ite (.cmp .Eq (.var 2) (.int 3)) (.cons (.ret (.bin .Mult (.fn "_law_pick" (.cons (.var 0) (.cons (.var 1) .nil))) (.fz 4 1))) .nil) .nil) (.cons (.ret (.met "join" (.str "") (.cons (.lc (.sub (.fz 1 1) (.fn "_law_take" (.cons (.var 0) (.cons (.int 95) .nil)))) (.name 5) (.rng (.var 4)) .nop [5]) .nil))) .nil))))))))⟩
def fd_law_order : Fd := ⟨"_law_order", 2, 5, true, (.cons (.set 2 (.sp 0 (.cons (.var 1) .nil))) (.cons (.set 3 (.fn "_law_take" (.cons (.var 0) (.cons (.int 8) .nil)))) (.cons (.ite (.cmp .Eq (.var 3) (.int 0)) (.cons (.ret (.bi "tuple" (.cons (.fz 2 1) .nil))) .nil) .nil) (.cons (.ite (.cmp .Eq (.var 3) (.int 1)) (.cons (.ret (.sp 2 (.cons (.bi "list" (.cons (.fz 2 1) .nil)) .nil))) .nil) .nil) (.cons (.ite (.cmp .Eq (.var 3) (.int 2)) (.cons (.set 4 (.fn "_law_take" (.cons (.var 0) (.cons (.var 1) .nil)))) (.cons (.ret (.bi "tuple" (.cons (.bin .Add (.slc (.fz 2 1) (.var 4) .nop) (.slc (.fz 2 1) .nop (.var 4))) .nil))) .nil)) .nil) (.cons (.ret (.bi "tuple" (.cons (.fn "_law_shuffle" (.cons (.var 0) (.cons (.var 2) .nil))) .nil))) .nil))))))⟩
def fd_law_bent_order : Fd := ⟨"_law_bent_order", 2, 5, true, (.cons (.set 2 (.bi "list" (.cons (.fz 1 1) .nil))) (.cons (.set 3 (.fn "_law_count" (.cons (.var 0) (.cons (.int 0) (.cons (.bin .Sub (.bi "len" (.cons (.var 2) .nil)) (.int 1)) .nil))))) (.cons (.set 4 (.fn "_law_take" (.cons (.var 0) (.cons (.int 5) .nil)))) (.cons (.ite (.cmp .Eq (.var 4) (.int 0)) (.cons (.ret (.lst (.cons (.fn "_law_pick" (.cons (.var 0) (.cons (.lst (.cons .non (.cons (.bl true) (.cons (.int 0) (.cons (.neg (.int 1)) (.cons (.str "") (.cons (.str "01") (.cons (.str "10") .nil)))))))) .nil))) .nil))) .nil) .nil) (.cons (.ite (.cmp .Eq (.var 4) (.int 1)) (.cons (.exp (.mut "pop" (.var 2) (.cons (.mv 3) .nil))) .nil) (.cons (.ite (.cmp .Eq (.var 4) (.int 2)) (.cons (.exp (.mut "insert" (.var 2) (.cons (.fn "_law_take" (.cons (.var 0) (.cons (.bin .Add (.bi "len" (.cons (.var 2) .nil)) (.int 1)) .nil))) (.cons (.sub (.var 2) (.var 3)) .nil)))) .nil) (.cons (.ite (.and (.cmp .Eq (.var 4) (.int 3)) (.cmp .Gt (.bi "len" (.cons (.var 2) .nil)) (.int 1))) (.cons (.six (.var 2) (.var 3) (.sub (.fz 2 1) (.bin .Sub (.var 3) (.int 1)))) .nil) (.cons (.six (.var 2) (.var 3) (.sub (.fn "_law_off" (.cons (.var 0) (.cons (.int 0) (.cons (.bin .Sub (.bi "len" (.cons (.var 2) .nil)) (.int 1)) .nil)))) (.int 0))) .nil)) .nil)) .nil)) (.cons (.ret (.lst (.cons (.fn "_law_row" (.cons (.var 0) (.cons (.var 2) .nil))) .nil))) .nil))))))⟩
theorem Sto.nf (s : Sto) : s.d.flat = false := rfl
theorem Sto.nw (s : Sto) : D.within 1 s.d = false := rfl
end VI.P
local macro_rules
  | `(tactic| simp! only [$xs,*] $[$loc]?) => `(tactic| simp -implicitDefEqProofs (maxSteps := 20000) (disch := omega) only [VI.P.okM_s, VI.P.guard_t, VI.P.ev_var, VI.P.kVar1, VI.P.ev_mv, VI.P.kMv1, VI.P.ev_fz, VI.P.kFz1, VI.P.ev_int, VI.P.ev_str, VI.P.ev_bl, VI.P.ev_non, VI.P.kOpt1, VI.P.ev_bin, VI.P.kBin1o, VI.P.kBin1x, VI.P.kBin2o, VI.P.kBin2x, VI.P.ev_neg, VI.P.kNego, VI.P.kBool1, VI.P.ev_cmp, VI.P.kCmp1o, VI.P.kCmp1x, VI.P.kCmp2o, VI.P.kCmp2x, VI.P.ev_chn, VI.P.kChn1o, VI.P.kChn2o, VI.P.kChn3t, VI.P.kChn3f, VI.P.ev_and, VI.P.kAndt, VI.P.kAndf, VI.P.ev_or, VI.P.kOrf, VI.P.kOrt, VI.P.ev_not, VI.P.kNoto, VI.P.ev_ite, VI.P.kIte1o, VI.P.kIte2t, VI.P.kIte2f, VI.P.ev_tup, VI.P.kTupo, VI.P.kTupx, VI.P.kTup2o, VI.P.ev_lst, VI.P.kLsto, VI.P.kLstx, VI.P.kLst2o, VI.P.ev_sub, VI.P.kSub1o, VI.P.kSub2o, VI.P.kSub1x, VI.P.kSub2x, VI.P.evPt0, VI.P.evPt_int, VI.P.evPt_var, VI.P.evPt_mv, VI.P.evPt_bin, VI.P.evPt_neg, VI.P.evPt_sub, VI.P.evPt_bi, VI.P.evPt_fn, VI.P.kPart1, VI.P.ev_slc, VI.P.kSlc1o, VI.P.kSlc2o, VI.P.kSlc3o, VI.P.ev_rev, VI.P.kRevo, VI.P.kRev2o, VI.P.ev_bi, VI.P.kBio, VI.P.kBix, VI.P.ev_fn, VI.P.kFn0f, VI.P.kFn0t, VI.P.kFno, VI.P.kFnx, VI.P.kCallf, VI.P.kCallt, VI.P.kArgIo, VI.P.kReso, VI.P.kResx, VI.P.kResIo, VI.P.land_t, VI.P.ev_met, VI.P.kMet1o, VI.P.kMet2o, VI.P.ev_mut, VI.P.kMut1o, VI.P.kMut2o, VI.P.ev_isi, VI.P.kIsio, VI.P.ev_sp, VI.P.kSp0, VI.P.kSp1, VI.P.kSp2, VI.P.kSpRo, VI.P.evs_nil, VI.P.evs_cons, VI.P.kArg1o, VI.P.kArg1x, VI.P.kArg2o, VI.P.kArg2x, VI.P.kFnIo, VI.P.evi_seq, VI.P.kSeqo, VI.P.kSeqx, VI.P.kSeq2o, VI.P.evi_rng, VI.P.kRngo, VI.P.evi_rng2, VI.P.kRng2o, VI.P.kRng3o, VI.P.evp_var, VI.P.kPvo, VI.P.evp_sub, VI.P.kPs1o, VI.P.kPs2o, VI.P.exs_nil, VI.P.exs_cons, VI.P.kSeqSn, VI.P.kSeqSr, VI.P.kSeqSb, VI.P.kSeqSc, VI.P.kSeqSx, VI.P.kSeqS_nil, VI.P.kOo, VI.P.ex_set, VI.P.kSeto, VI.P.kSetx, VI.P.kO2o, VI.P.ex_set2, VI.P.kSet2o, VI.P.ex_unp, VI.P.kUnpo, VI.P.gS_t, VI.P.ex_six, VI.P.kSix1o, VI.P.kSix2o, VI.P.kSix3o, VI.P.ex_exp, VI.P.kExpo, VI.P.kExpx, VI.P.ex_ret, VI.P.kReto, VI.P.kRetx, VI.P.kRet2o, VI.P.ex_retN, VI.P.ex_ite, VI.P.kIf1o, VI.P.kIf1x, VI.P.kIf2t, VI.P.kIf2f, VI.P.ex_for, VI.P.kForo, VI.P.kForx, VI.P.kBo, VI.P.kTurnn, VI.P.kTurnc, VI.P.kTurnb, VI.P.kTurnr, VI.P.kTurnx, VI.P.ex_whl, VI.P.ex_brk, VI.P.ex_cnt, VI.P.ex_pas, VI.P.kW1o, VI.P.kW2t, VI.P.kW2f, VI.P.kW3n, VI.P.kW3c, VI.P.kW3b, VI.P.kW3r, VI.P.ex_rai, VI.P.kRaio, VI.P.kRai2o, VI.P.ex_try, VI.P.kTryx, VI.P.kTryn, VI.P.kTryr, VI.P.ev_lc, VI.P.kLc1o, VI.P.kLc2o, VI.P.kLc3o, VI.P.kLcTs, VI.P.kLcTn, VI.P.kLcCo, VI.P.kLb1n, VI.P.kLb1c, VI.P.kLb2o, VI.P.kLb3t, VI.P.kLb3f, VI.P.kLbEo, VI.P.kRunr, VI.P.kRunn, VI.P.kRunx, VI.P.out_f, VI.P.out_t, VI.P.kOuto, VI.P.sm_call, VI.P.sm_ino, VI.P.nble, VI.P.lim_t, VI.P.ixN_p, VI.P.rngOk_t, VI.P.add_I, VI.P.sub_I, VI.P.mul_Il, VI.P.mul_Ir, VI.P.div_I, VI.P.mod_I, VI.P.flats_int, VI.P.atI_nn, VI.P.ty_int_bool, VI.P.ty_int_str, VI.P.ty_int_list, VI.P.ty_int_tuple, VI.P.ty_int_dict, VI.P.ty_int_NoneType, VI.P.ty_bool_int, VI.P.ty_bool_str, VI.P.ty_bool_list, VI.P.ty_bool_tuple, VI.P.ty_bool_dict, VI.P.ty_bool_NoneType, VI.P.ty_str_int, VI.P.ty_str_bool, VI.P.ty_str_list, VI.P.ty_str_tuple, VI.P.ty_str_dict, VI.P.ty_str_NoneType, VI.P.ty_list_int, VI.P.ty_list_bool, VI.P.ty_list_str, VI.P.ty_list_tuple, VI.P.ty_list_dict, VI.P.ty_list_NoneType, VI.P.ty_tuple_int, VI.P.ty_tuple_bool, VI.P.ty_tuple_str, VI.P.ty_tuple_list, VI.P.ty_tuple_dict, VI.P.ty_tuple_NoneType, VI.P.ty_dict_int, VI.P.ty_dict_bool, VI.P.ty_dict_str, VI.P.ty_dict_list, VI.P.ty_dict_tuple, VI.P.ty_dict_NoneType, VI.P.ty_NoneType_int, VI.P.ty_NoneType_bool, VI.P.ty_NoneType_str, VI.P.ty_NoneType_list, VI.P.ty_NoneType_tuple, VI.P.ty_NoneType_dict, VI.P.isi_c, VI.P.isi_n, VI.P.ty1, VI.P.ty2, VI.P.ty3, VI.P.ty4, VI.P.ty5, VI.P.ty6, VI.P.atI_m1, VI.P.bi_len_l, VI.P.bi_len_t, VI.P.bi_len_s, VI.P.bi_int_i, VI.P.bi_int_b, VI.P.bi_str_i, VI.P.bi_list_a, VI.P.bi_list_l, VI.P.bi_list_t, VI.P.bi_tuple_l, VI.P.bi_tuple_t, VI.P.bi_min, VI.P.bi_max, VI.P.intsD_map, VI.P.rcv_index_l, VI.P.rcv_index_t, VI.P.rcv_join, VI.P.mut_append, VI.P.mut_remove, VI.P.land_0, VI.P.disj_nil, VI.P.disj_cons, VI.P.land_ff, VI.P.freeze_nil, VI.P.freeze_cons, VI.P.pow_10_18, VI.P.pow_10_30, VI.P.getE_map, VI.P.eqV_int, VI.P.mut_pop_s, VI.P.rngI_eq, VI.P.rngL_len, VI.P.nf_drop, VI.P.nf_take, VI.P.nf_app, VI.P.nf_rev, VI.P.nf_erase, VI.P.nf_set, VI.P.nf_last, VI.P.nf_snoc, VI.P.nf_ins, VI.P.nf_empty, VI.P.cut_nn, VI.P.cut_from, VI.P.cut_to, VI.P.cut_ft, VI.P.cut_to1, VI.P.slc_l, VI.P.slc_tI, VI.P.mut_pop_n, VI.P.mut_ins_n, VI.P.ilt_t, VI.P.ilt_f, VI.P.ile_t, VI.P.ile_f, VI.P.ieq_t, VI.P.ieq_f, VI.P.nlt_t, VI.P.nlt_f, VI.P.nle_t, VI.P.nle_f, VI.P.neq_t, VI.P.neq_f, VI.P.c1, VI.P.c2, VI.P.c3, VI.P.c4, VI.P.c5, VI.P.c6, VI.P.c7, VI.P.c8, VI.P.c9, VI.P.c10, VI.P.c11, VI.P.c12, VI.P.c13, VI.P.c14, VI.P.c15, VI.P.c16, VI.P.c17, VI.P.c18, VI.P.c19, VI.P.c20, VI.P.c21, VI.P.c22, VI.P.c23, VI.P.c24, VI.P.c25, VI.P.c26, VI.P.c27, VI.P.c28, VI.P.c29, VI.P.c30, VI.P.c31, VI.P.c32, VI.P.c33, VI.P.c34, VI.P.c37, VI.P.c38, VI.P.c39, VI.P.c40, VI.P.c41, VI.P.c42, VI.P.c43, VI.P.c44, VI.P.c45, VI.P.c46, VI.P.c47, VI.P.c48, VI.P.len_drop, VI.P.len_take, VI.P.len_app, VI.P.len_rev, VI.P.len_set, VI.P.ite_self1, VI.P.any_nil1, VI.P.any_cons1, VI.P.c49, VI.P.Sto.nf, VI.P.Sto.nw, VI.Env.bindE, VI.bindT, VI.Env.get, VI.varTg, VI.nrm, VI.D.flat, VI.D.flats, VI.Tg.slots, VI.Tg.item, VI.Tg.ret, VI.D.items, VI.froz, VI.seqI, VI.minK, VI.keepK, VI.okP, VI.atP, VI.putP, VI.stepP, VI.sixE, VI.mutE, VI.binV, VI.cmpV, VI.truV, VI.subV, VI.others, Nat.min_eq_left, Nat.min_eq_right, VI.looked, VI.D.within, VI.D.withins, VI.P.forB_eq, VI.P.lcB_eq, ↓reduceIte, Nat.reduceAdd, Nat.reduceSub, Nat.reduceMul, Nat.reduceLeDiff, Nat.reduceLT, Nat.reduceEqDiff, Nat.reduceBEq, Int.reduceToNat, Int.reduceLT, Int.reduceLE, Int.reduceAdd, Int.reduceSub, Int.reduceNeg, Int.reduceEq, Int.reduceNe, Int.reduceBEq, String.reduceEq, ↓reduceDIte, reduceCtorEq, $xs,*] $[$loc]?)
set_option autoImplicit true
set_option Elab.async false
set_option linter.all false
set_option maxRecDepth 100000
set_option maxHeartbeats 4000000
namespace VI.P
open PySem PySem.Spec PyProof.Rows L2
def Sto.low (s : Sto) : Int := (s.seed * 69621 + s.turn * 16807 + 8191) % 2147483647
def Sto.fin (s : Sto) (m : Int) : Int × Sto := (((s.low * s.low + s.turn * 40692 + 271) % 2147483399 * 2147483647 + s.low) % m, { s with seed := s.low })
def Sto.take (s : Sto) (m : Int) : Int × Sto :=
  if m < 2 then (0, s)
  else if 0 < s.left then (s.left % m, { s with turn := s.turn + 1, left := s.left / m })
  else match s.cells[s.at_]? with
    | none => Sto.fin { s with turn := s.turn + 1 } m
    | some c => if c < 1000000000000000000 then Sto.fin { s with turn := s.turn + 1, at_ := s.at_ + 1, seed := (s.seed * 48271 + c + 1) % 2147483647 } m
      else (c % m, { s with turn := s.turn + 1, at_ := s.at_ + 1, seed := (s.seed * 48271 + c + 1) % 2147483647, left := c / m })
theorem take_rng (s : Sto) (m : Int) : 0 ≤ (s.take m).1 ∧ (2 ≤ m → (s.take m).1 < m) ∧ (m < 2 → (s.take m).1 = 0) := by
  unfold Sto.take
  by_cases h : m < 2
  · rw [if_pos h]; exact ⟨Int.le_refl _, fun h2 => by omega, fun _ => rfl⟩
  · have m0 : m ≠ 0 := by omega
    have mp : 0 < m := by omega
    rw [if_neg h]
    split
    · exact ⟨Int.emod_nonneg _ m0, fun _ => Int.emod_lt_of_pos _ mp, fun z => absurd z h⟩
    · split
      · exact ⟨Int.emod_nonneg _ m0, fun _ => Int.emod_lt_of_pos _ mp, fun z => absurd z h⟩
      · split
        · exact ⟨Int.emod_nonneg _ m0, fun _ => Int.emod_lt_of_pos _ mp, fun z => absurd z h⟩
        · exact ⟨Int.emod_nonneg _ m0, fun _ => Int.emod_lt_of_pos _ mp, fun z => absurd z h⟩
theorem take_lt (s : Sto) {m : Int} (h : 0 < m) : (s.take m).1 < m := by
  have := take_rng s m
  by_cases h2 : m < 2
  · have := this.2.2 h2; omega
  · exact this.2.1 (by omega)
theorem take_0 (s : Sto) (m : Int) : 0 ≤ (s.take m).1 := (take_rng s m).1
theorem rng64 : rngI 0 64 = .int 0 :: .int 1 :: ((List.range 62).map fun (i : Nat) => D.int ((i:Int)+2)) := by rfl
theorem rng64b : (rngL 0 64).map D.int = .int 0 :: .int 1 :: ((List.range 62).map fun (i : Nat) => D.int ((i:Int)+2)) := by rw [← rng64, rngI_eq]
section
variable {p : Pg} {n : Nat}
theorem take_call (h : Has p fd_law_take) {s : Sto} {m : Int} (hm : m < 1000000000) : p.callN (n + 1) "_law_take" [(1, s.d), (0, .int m)] = .ok 9 (.int (s.take m).1) (some (1, (s.take m).2.d)) := by
  refine (h.call n [(1, s.d), (0, .int m)] rfl).trans ?_
  unfold Sto.take
  by_cases h2 : m < 2
  · (simp! only [fd_law_take, Sto.d, h2])
  · by_cases hl : 0 < s.left
    · (simp! only [fd_law_take, Sto.d, h2, hl, rng64, rng64b, forS_cons])
    · cases hc : s.cells[s.at_]? with
      | none =>
        have hc2 : (s.cells.length : Int) ≤ s.at_ := by have := List.getElem?_eq_none_iff.mp hc; omega
        (simp! only [fd_law_take, Sto.d, Sto.fin, Sto.low, h2, hl, rng64, rng64b, forS_cons, hc2])
      | some c =>
        have hc2 : ¬ (s.cells.length : Int) ≤ s.at_ := by have := (List.getElem?_eq_some_iff.mp hc).1; omega
        by_cases h18 : c < 1000000000000000000
        · (simp! only [fd_law_take, Sto.d, Sto.fin, Sto.low, h2, hl, rng64, rng64b, forS_cons, hc2, hc, h18, Int.natCast_add, Int.cast_ofNat_Int])
        · have h19 : 0 < c := by omega
          (simp! only [fd_law_take, Sto.d, Sto.fin, Sto.low, h2, hl, rng64, rng64b, forS_cons, hc2, hc, h18, h19, Int.natCast_add, Int.cast_ofNat_Int])
def Sto.count (s : Sto) (a b : Int) : Int × Sto :=
  if b ≤ a then (a, s) else if (s.take 6).1 = 0 then (a, (s.take 6).2) else if (s.take 6).1 = 1 then (b, (s.take 6).2)
  else (a + ((s.take 6).2.take (b - a + 1)).1, ((s.take 6).2.take (b - a + 1)).2)
theorem count_rng (s : Sto) {a b : Int} (h : a ≤ b) : a ≤ (s.count a b).1 ∧ (s.count a b).1 ≤ b := by
  unfold Sto.count
  split
  · dsimp only; omega
  · split
    · dsimp only; omega
    · split
      · dsimp only; omega
      · have := take_0 (s.take 6).2 (b - a + 1)
        have := take_lt (s.take 6).2 (m := b - a + 1) (by omega)
        dsimp only; omega
theorem count_call (h : Has p fd_law_count) (ht : Has p fd_law_take) {s : Sto} {a b : Int} (hm : b - a + 1 < 1000000000) : p.callN (n + 2) "_law_count" [(1, s.d), (0, .int a), (0, .int b)] = .ok 9 (.int (s.count a b).1) (some (1, (s.count a b).2.d)) := by
  refine (h.call (n + 1) _ rfl).trans ?_
  have it : p.ino "_law_take" = true := ht.ino
  unfold Sto.count
  by_cases h1 : b ≤ a
  · (simp! only [fd_law_count, h1])
  · by_cases h2 : (s.take 6).1 = 0
    · (simp! only [fd_law_count, h1, it, take_call ht, h2, eqV_int])
    · by_cases h3 : (s.take 6).1 = 1
      · (simp! only [fd_law_count, h1, it, take_call ht, h2, h3, eqV_int])
      · (simp! only [fd_law_count, h1, it, take_call ht, h2, h3, eqV_int])
end
end VI.P
set_option autoImplicit true
set_option Elab.async false
set_option linter.all false
set_option maxRecDepth 100000
set_option maxHeartbeats 4000000
namespace VI.P
open PySem PySem.Spec PyProof.Rows L2
def kOf (d : D) : Nat := if d.flat then 9 else 0
theorem kOf_t {d : D} (h : d.flat = true) : kOf d = 9 := if_pos h
theorem kOf_f {d : D} (h : d.flat = false) : kOf d = 0 := if_neg (by rw [h]; decide)
def Sto.pick (s : Sto) (xs : List D) : D × Sto := (xs.getD (s.take xs.length).1.toNat .non, (s.take xs.length).2)
theorem pick_2 (s : Sto) (xs : List D) : (s.take xs.length).2 = (s.pick xs).2 := rfl
theorem pick_at (s : Sto) {xs : List D} (h : 0 < xs.length) : xs[(s.take xs.length).1.toNat]? = some (s.pick xs).1 := by
  have h1 := take_0 s xs.length
  have h2 := take_lt s (m := xs.length) (by omega)
  unfold Sto.pick
  rw [List.getD_eq_getElem?_getD, List.getElem?_eq_getElem (by omega)]; rfl
theorem pick_mem (s : Sto) {xs : List D} (h : 0 < xs.length) : (s.pick xs).1 ∈ xs := List.mem_of_getElem? (pick_at s h)
section
variable {p : Pg} {n : Nat}
theorem pick_l (h : Has p fd_law_pick) (ht : Has p fd_law_take) {s : Sto} {xs : List D} (hx : 0 < xs.length) (hl : xs.length < 1000000000) : p.callN (n + 2) "_law_pick" [(1, s.d), (0, .lst xs)] = .ok (kOf (s.pick xs).1) (s.pick xs).1 (some (1, (s.pick xs).2.d)) := by
  refine (h.call (n + 1) _ rfl).trans ?_
  have it : p.ino "_law_take" = true := ht.ino
  have h0 := take_0 s xs.length
  have ha := pick_at s hx
  cases hf : (s.pick xs).1.flat
  · (simp! only [fd_law_pick, it, pick_2, take_call ht, ha, hf, kOf_f hf])
  · (simp! only [fd_law_pick, it, pick_2, take_call ht, ha, hf, kOf_t hf])
theorem pick_t (h : Has p fd_law_pick) (ht : Has p fd_law_take) {s : Sto} {xs : List D} (hx : 0 < xs.length) (hl : xs.length < 1000000000) : p.callN (n + 2) "_law_pick" [(1, s.d), (0, .tup xs)] = .ok (kOf (s.pick xs).1) (s.pick xs).1 (some (1, (s.pick xs).2.d)) := by
  refine (h.call (n + 1) _ rfl).trans ?_
  have it : p.ino "_law_take" = true := ht.ino
  have h0 := take_0 s xs.length
  have ha := pick_at s hx
  cases hfs : D.flats xs <;> cases hf : (s.pick xs).1.flat
  · (simp! only [fd_law_pick, it, pick_2, take_call ht, ha, hf, hfs, kOf_f hf])
  · (simp! only [fd_law_pick, it, pick_2, take_call ht, ha, hf, hfs, kOf_t hf])
  · rw [flats_mem hfs (pick_mem s hx)] at hf; cases hf
  · (simp! only [fd_law_pick, it, pick_2, take_call ht, ha, hf, hfs, kOf_t hf])
def chr1 (c : Nat) : Str := ⟨#[c]⟩
def Sto.sign (s : Sto) (x : Str) : Str × Sto := (⟨#[x.cps.toList.getD (s.take x.length).1.toNat 0]⟩, (s.take x.length).2)
theorem pick_s (h : Has p fd_law_pick) (ht : Has p fd_law_take) {s : Sto} {x : Str} (hx : 0 < x.length) (hl : x.length ≤ 16777216) : p.callN (n + 2) "_law_pick" [(1, s.d), (0, .str x)] = .ok 9 (.str (s.sign x).1) (some (1, (s.sign x).2.d)) := by
  refine (h.call (n + 1) _ rfl).trans ?_
  have it : p.ino "_law_take" = true := ht.ino
  have h1 := take_0 s x.length
  have h2 := take_lt s (m := x.length) (by omega)
  have ha : x.cps.toList[(s.take x.length).1.toNat]? = some (x.cps.toList.getD (s.take x.length).1.toNat 0) := by
    rw [List.getD_eq_getElem?_getD, List.getElem?_eq_getElem (by show _ < x.cps.toList.length; rw [Array.length_toList]; show _ < x.length; omega)]; rfl
  (simp! only [fd_law_pick, it, pick_2, take_call ht, ha])
  rfl
def Sto.row (s : Sto) (xs : List D) : D × Sto := (if (s.take 2).1 = 0 then .lst xs else .tup xs, (s.take 2).2)
theorem row_l (h : Has p fd_law_row) (ht : Has p fd_law_take) {s : Sto} {xs : List D} (hf : D.flats xs = true) : p.callN (n + 2) "_law_row" [(1, s.d), (0, .lst xs)] = .ok 9 (s.row xs).1 (some (1, (s.row xs).2.d)) := by
  refine (h.call (n + 1) _ rfl).trans ?_
  have it : p.ino "_law_take" = true := ht.ino
  unfold Sto.row
  by_cases h2 : (s.take 2).1 = 0
  · (simp! only [fd_law_row, it, take_call ht, h2, hf])
  · (simp! only [fd_law_row, it, take_call ht, h2, hf])
theorem row_t (h : Has p fd_law_row) (ht : Has p fd_law_take) {s : Sto} {xs : List D} (hf : D.flats xs = true) : p.callN (n + 2) "_law_row" [(1, s.d), (0, .tup xs)] = .ok 9 (s.row xs).1 (some (1, (s.row xs).2.d)) := by
  refine (h.call (n + 1) _ rfl).trans ?_
  have it : p.ino "_law_take" = true := ht.ino
  unfold Sto.row
  by_cases h2 : (s.take 2).1 = 0
  · (simp! only [fd_law_row, it, take_call ht, h2, hf])
  · (simp! only [fd_law_row, it, take_call ht, h2, hf])
end
def Sto.shufG {α : Type} : Nat → Sto → List α → List α × Sto
  | 0, s, _ => ([], s)
  | n + 1, s, xs => match xs[(s.take xs.length).1.toNat]? with
    | none => ([], s)
    | some x => (x :: (shufG n (s.take xs.length).2 (xs.eraseIdx (s.take xs.length).1.toNat)).1, (shufG n (s.take xs.length).2 (xs.eraseIdx (s.take xs.length).1.toNat)).2)
def Sto.shuf {α : Type} (s : Sto) (xs : List α) : List α × Sto := s.shufG xs.length xs
theorem shufG_map {α β : Type} (f : α → β) : ∀ (n : Nat) (s : Sto) (xs : List α), s.shufG n (xs.map f) = ((s.shufG n xs).1.map f, (s.shufG n xs).2)
  | 0, _, _ => rfl
  | n + 1, s, xs => by
    simp only [Sto.shufG, List.length_map, List.getElem?_map]
    cases h : xs[(s.take xs.length).1.toNat]? with
    | none => simp
    | some x => simp [map_erase, shufG_map f n]
theorem shuf_map {α β : Type} (f : α → β) (s : Sto) (xs : List α) : s.shuf (xs.map f) = ((s.shuf xs).1.map f, (s.shuf xs).2) := by
  unfold Sto.shuf; rw [List.length_map, shufG_map]
theorem erase_perm {α : Type} : ∀ (l : List α) (i : Nat) (h : i < l.length), (l[i] :: l.eraseIdx i).Perm l
  | a :: l, 0, _ => .refl _
  | a :: l, i + 1, h => by
    have := erase_perm l i (by simpa using h)
    simp only [List.getElem_cons_succ, List.eraseIdx_cons_succ]
    exact (List.Perm.swap _ _ _).trans (this.cons a)
theorem shufG_perm {α : Type} : ∀ (n : Nat) (s : Sto) (xs : List α), xs.length = n → ((s.shufG n xs).1).Perm xs
  | 0, s, xs, h => by
    cases xs with
    | nil => exact .nil
    | cons => cases h
  | n + 1, s, xs, h => by
    have h1 := take_0 s xs.length
    have h2 := take_lt s (m := xs.length) (by omega)
    have hk : (s.take xs.length).1.toNat < xs.length := by omega
    simp only [Sto.shufG, List.getElem?_eq_getElem hk]
    have ih := shufG_perm n (s.take xs.length).2 (xs.eraseIdx (s.take xs.length).1.toNat) (by rw [List.length_eraseIdx_of_lt hk]; omega)
    exact (ih.cons _).trans (erase_perm xs _ hk)
theorem shuf_perm {α : Type} (s : Sto) (xs : List α) : ((s.shuf xs).1).Perm xs := shufG_perm _ _ _ rfl
theorem flats_perm {xs ys : List D} (h : xs.Perm ys) (hf : D.flats ys = true) : D.flats xs = true := flats_of fun x hx => flats_mem hf (h.mem_iff.mp hx)
theorem flats_app {xs ys : List D} : D.flats (xs ++ ys) = (D.flats xs && D.flats ys) := by induction xs with | nil => rfl | cons x xs ih => simp [D.flats, ih, Bool.and_assoc]
def shufB : CSs := .cons (.exp (.mut "append" (.var 3) (.cons (.mut "pop" (.var 2) (.cons (.fn "_law_take" (.cons (.var 0) (.cons (.bi "len" (.cons (.var 2) .nil)) .nil))) .nil)) .nil))) .nil
section
variable {p : Pg} {n : Nat}
theorem shuf_loop (ht : Has p fd_law_take) {row : Option (Nat × D)} : ∀ (js : List Int) (s : Sto) (rest out : List D) (o : Option (Nat × D)), rest.length = js.length → D.flats rest = true → out.length + js.length ≤ 16777216 →
    ∃ o', forS (p.sm (n + 1)) (.name 4) shufB [] (.own 9) (js.map .int) [some (1, s.d), row, some (10, .lst rest), some (10, .lst out), o] = .nx [some (1, (s.shufG js.length rest).2.d), row, some (10, .lst []), some (10, .lst (out ++ (s.shufG js.length rest).1)), o']
  | [], s, rest, out, o, h, _, _ => by
    obtain rfl := List.length_eq_zero_iff.mp h
    exact ⟨o, by simp [forS_nil, Sto.shufG]⟩
  | j :: js, s, rest, out, o, h, hf, hl => by
    have it : p.ino "_law_take" = true := ht.ino
    rw [List.length_cons] at h hl
    have h1 := take_0 s rest.length
    have h2 := take_lt s (m := rest.length) (by omega)
    have hk : (s.take rest.length).1.toNat < rest.length := by omega
    have hx : rest[(s.take rest.length).1.toNat]? = some rest[(s.take rest.length).1.toNat] := List.getElem?_eq_getElem hk
    have hxf := flats_mem hf (List.getElem_mem hk)
    obtain ⟨o', ih⟩ := shuf_loop ht js (s.take rest.length).2 (rest.eraseIdx (s.take rest.length).1.toNat) (out ++ [rest[(s.take rest.length).1.toNat]]) (some (9, .int j)) (by rw [List.length_eraseIdx_of_lt hk]; omega) (flats_of fun x hx => flats_mem hf (List.mem_of_mem_eraseIdx hx)) (by simp; omega)
    refine ⟨o', ?_⟩
    simp only [List.length_cons, Sto.shufG, hx]
    rw [List.append_assoc] at ih
    refine Eq.trans ?_ ih
    rw [List.map_cons, forS_cons]
    (simp! only [shufB, it, take_call ht, hx, hxf])
end
end VI.P
set_option autoImplicit true
set_option Elab.async false
set_option linter.all false
set_option maxRecDepth 100000
set_option maxHeartbeats 4000000
namespace VI.P
open PySem PySem.Spec PyProof.Rows L2
section
variable {p : Pg} {n : Nat}
theorem shuf_call (h : Has p fd_law_shuffle) (ht : Has p fd_law_take) {s : Sto} {xs : List D} (hf : D.flats xs = true) (hl : xs.length ≤ 16777216) : p.callN (n + 2) "_law_shuffle" [(1, s.d), (0, .lst xs)] = .ok 9 (.lst (s.shuf xs).1) (some (1, (s.shuf xs).2.d)) := by
  refine (h.call (n + 1) _ rfl).trans ?_
  obtain ⟨o', hs⟩ := shuf_loop (n := n) ht (row := some (0, .lst xs)) (rngL 0 xs.length) s xs [] none (by rw [rngL_len]; omega) hf (by rw [rngL_len]; simp only [List.length_nil]; omega)
  simp only [rngL_len, Int.sub_zero, Int.toNat_natCast, List.nil_append] at hs
  unfold shufB at hs
  have hfp := flats_perm (shufG_perm xs.length s xs rfl) hf
  (simp! only [fd_law_shuffle, hf, hs, Sto.shuf, hfp])
def Sto.order (s : Sto) (w : Int) : List Int × Sto :=
  if (s.take 8).1 = 0 then (rngL 0 w, (s.take 8).2)
  else if (s.take 8).1 = 1 then ((rngL 0 w).reverse, (s.take 8).2)
  else if (s.take 8).1 = 2 then ((rngL 0 w).drop ((s.take 8).2.take w).1.toNat ++ (rngL 0 w).take ((s.take 8).2.take w).1.toNat, ((s.take 8).2.take w).2)
  else (s.take 8).2.shuf (rngL 0 w)
theorem order_perm (s : Sto) (w : Int) : (s.order w).1.Perm (rngL 0 w) := by
  unfold Sto.order
  split
  · exact .refl _
  · split
    · exact List.reverse_perm _
    · split
      · exact List.perm_append_comm.trans (by rw [List.take_append_drop])
      · exact shuf_perm _ _
theorem order_call (h : Has p fd_law_order) (ht : Has p fd_law_take) (hs : Has p fd_law_shuffle) {s : Sto} {w : Int} (h0 : 0 ≤ w) (hw : w ≤ 1000000) : p.callN (n + 3) "_law_order" [(1, s.d), (0, .int w)] = .ok 9 (.tup ((s.order w).1.map .int)) (some (1, (s.order w).2.d)) := by
  refine (h.call (n + 2) _ rfl).trans ?_
  have it : p.ino "_law_take" = true := ht.ino
  have is : p.ino "_law_shuffle" = true := hs.ino
  unfold Sto.order
  by_cases h1 : (s.take 8).1 = 0
  · (simp! only [fd_law_order, it, take_call ht, h1])
  · by_cases h2 : (s.take 8).1 = 1
    · (simp! only [fd_law_order, it, take_call ht, h1, h2])
    · by_cases h3 : (s.take 8).1 = 2
      · have q1 := take_0 (s.take 8).2 w
        (simp! only [fd_law_order, it, take_call ht, h1, h2, h3])
      · have hsc := shuf_call (n := n) hs ht (s := (s.take 8).2) (xs := (rngL 0 w).map .int) (flats_int _) (by rw [List.length_map, rngL_len]; omega)
        rw [shuf_map] at hsc
        (simp! only [fd_law_order, it, is, take_call ht, h1, h2, h3, hsc])
def Sto.digits : List Int → Sto → Int → Int × Sto
  | [], s, x => (x, s)
  | _ :: js, s, x => Sto.digits js (s.take 10).2 (x * 10 + (s.take 10).1)
theorem digits_loop (ht : Has p fd_law_take) {b : CSs} (hb : b = .cons (.set 2 (.bin .Add (.bin .Mult (.fz 2 1) (.int 10)) (.fn "_law_take" (.cons (.var 0) (.cons (.int 10) .nil))))) .nil) : ∀ (js : List Int) (s : Sto) (x : Int) (e1 : Option (Nat × D)) (o : Option (Nat × D)),
    ∃ o', forS (p.sm (n + 1)) (.name 3) b [] (.own 9) (js.map .int) [some (1, s.d), e1, some (9, .int x), o] = .nx [some (1, (s.digits js x).2.d), e1, some (9, .int (s.digits js x).1), o']
  | [], s, x, e1, o => ⟨o, by simp [forS_nil, Sto.digits]⟩
  | j :: js, s, x, e1, o => by
    have it : p.ino "_law_take" = true := ht.ino
    obtain ⟨o', ih⟩ := digits_loop ht hb js (s.take 10).2 (x * 10 + (s.take 10).1) e1 (some (9, .int j))
    refine ⟨o', ?_⟩
    rw [List.map_cons, forS_cons]
    unfold Sto.digits
    rw [← ih]
    subst hb
    (simp! only [it, take_call ht])
def farMenu : List Int := [0, 1, -1, 2, 12, 13, 24, 25, 99, 100, 1000000000000000000, 999999999999999999999999999999, -999999999999999999999999999999]
theorem far_call (h : Has p fd_law_far) (ht : Has p fd_law_take) (hc : Has p fd_law_count) (hp : Has p fd_law_pick) (s : Sto) : ∃ (x : Int) (s' : Sto), p.callN (n + 3) "_law_far" [(1, s.d)] = .ok 9 (.int x) (some (1, s'.d)) := by
  have it : p.ino "_law_take" = true := ht.ino
  have ic : p.ino "_law_count" = true := hc.ino
  have ip : p.ino "_law_pick" = true := hp.ino
  by_cases h1 : (s.take 3).1 = 0
  · obtain ⟨x, _, hx⟩ := List.mem_map.mp (pick_mem (s.take 3).2 (xs := farMenu.map .int) (by decide))
    have hpk := pick_l (n := n) hp ht (s := (s.take 3).2) (xs := farMenu.map .int) (by decide) (by decide)
    rw [← hx] at hpk
    refine ⟨x, ((s.take 3).2.pick (farMenu.map .int)).2, (h.call (n + 2) _ rfl).trans ?_⟩
    simp only [farMenu, List.map_cons, List.map_nil] at hpk ⊢
    (simp! only [fd_law_far, it, ip, take_call ht, h1, hpk, kOf])
  · have q := count_rng (s.take 3).2 (a := 1) (b := 30) (by decide)
    obtain ⟨o', hd⟩ := digits_loop (n := n + 1) ht (b := _) rfl (rngL 0 ((s.take 3).2.count 1 30).1) ((s.take 3).2.count 1 30).2 0 none none
    generalize hu : ((s.take 3).2.count 1 30).2.digits (rngL 0 ((s.take 3).2.count 1 30).1) 0 = u at hd
    by_cases h2 : (u.2.take 2).1 = 0
    · refine ⟨0 - u.1, (u.2.take 2).2, (h.call (n + 2) _ rfl).trans ?_⟩
      (simp! only [fd_law_far, it, ic, take_call ht, count_call hc ht, h1, hd, h2])
    · refine ⟨u.1, (u.2.take 2).2, (h.call (n + 2) _ rfl).trans ?_⟩
      (simp! only [fd_law_far, it, ic, take_call ht, count_call hc ht, h1, hd, h2])
end
end VI.P
set_option autoImplicit true
set_option Elab.async false
set_option linter.all false
set_option maxRecDepth 100000
set_option maxHeartbeats 4000000
namespace VI.P
open PySem PySem.Spec PyProof.Rows L2
mutual
def D.okv : Nat → D → Bool
  | _, .non => true
  | _, .bl _ => true
  | _, .int _ => true
  | _, .str s => decide (s.length ≤ 100000) && PyData.strOk s
  | h + 1, .tup xs => D.okvs h xs
  | h + 1, .lst xs => D.okvs h xs
  | _, _ => false
def D.okvs : Nat → List D → Bool
  | _, [] => true
  | h, x :: xs => D.okv h x && D.okvs h xs
end
theorem okvs_all {h : Nat} : ∀ {xs : List D}, D.okvs h xs = true ↔ ∀ x ∈ xs, D.okv h x = true
  | [] => by simp [D.okvs]
  | x :: xs => by simp [D.okvs, okvs_all (xs := xs)]
theorem okv_mono : ∀ {h k : Nat} {d : D}, D.okv h d = true → h ≤ k → D.okv k d = true
  | _, _, .non, _, _ => by simp [D.okv]
  | _, _, .bl _, _, _ => by simp [D.okv]
  | _, _, .int _, _, _ => by simp [D.okv]
  | _, _, .str _, h, _ => by simpa [D.okv] using h
  | 0, _, .tup _, h, _ => by simp [D.okv] at h
  | 0, _, .lst _, h, _ => by simp [D.okv] at h
  | h + 1, 0, .tup _, _, z => by omega
  | h + 1, 0, .lst _, _, z => by omega
  | h + 1, k + 1, .tup xs, q, z => by
    simp only [D.okv] at q ⊢
    exact okvs_all.mpr fun x hx => okv_mono (okvs_all.mp q x hx) (by omega)
  | h + 1, k + 1, .lst xs, q, z => by
    simp only [D.okv] at q ⊢
    exact okvs_all.mpr fun x hx => okv_mono (okvs_all.mp q x hx) (by omega)
  | _, _, .dct _, h, _ => by simp [D.okv] at h
  | _, _, .ins _ _, h, _ => by simp [D.okv] at h
  | _, _, .arg _, h, _ => by simp [D.okv] at h
theorem okv_plain : ∀ {h : Nat} {d : D}, D.okv h d = true → d.plain = true
  | _, .non, _ => rfl
  | _, .bl _, _ => rfl
  | _, .int _, _ => rfl
  | _, .str _, _ => rfl
  | 0, .tup _, h => by simp [D.okv] at h
  | 0, .lst _, h => by simp [D.okv] at h
  | h + 1, .tup xs, q => by
    simp only [D.okv] at q
    exact D.plains_all.mpr fun x hx => okv_plain (okvs_all.mp q x hx)
  | h + 1, .lst xs, q => by
    simp only [D.okv] at q
    exact D.plains_all.mpr fun x hx => okv_plain (okvs_all.mp q x hx)
  | _, .dct _, h => by simp [D.okv] at h
  | _, .ins _ _, h => by simp [D.okv] at h
  | _, .arg _, h => by simp [D.okv] at h
def okS (x : Str) : Prop := x.length ≤ 100000 ∧ PyData.strOk x = true
theorem okS_v {x : Str} {h : Nat} (q : okS x) : D.okv h (.str x) = true := by simp [D.okv, q.1, q.2]
theorem strOk_iff {x : Str} : PyData.strOk x = true ↔ ∀ c ∈ x.cps, c < 0x110000 := by
  unfold PyData.strOk
  simp only [Array.all_eq_true, decide_eq_true_eq]
  constructor
  · intro h c hc
    obtain ⟨i, hi, rfl⟩ := Array.mem_iff_getElem.mp hc
    exact h i hi
  · intro h i hi
    exact h _ (Array.getElem_mem hi)
theorem strOk_nil : PyData.strOk Str.empty = true := by rw [strOk_iff]; intro c hc; simp [Str.empty] at hc
theorem strOk_app {x y : Str} (hx : PyData.strOk x = true) (hy : PyData.strOk y = true) : PyData.strOk (x ++ y) = true := by
  rw [strOk_iff] at *
  intro c hc
  have : c ∈ x.cps ++ y.cps := hc
  rcases Array.mem_append.mp this with h | h
  · exact hx c h
  · exact hy c h
theorem strOk_join {s : Str} (hs : PyData.strOk s = true) : ∀ {ys : List Str}, (∀ y ∈ ys, PyData.strOk y = true) → PyData.strOk (Str.join s ys) = true
  | [], _ => strOk_nil
  | [y], h => h y List.mem_cons_self
  | y :: z :: r, h => strOk_app (strOk_app (h y List.mem_cons_self) hs) (strOk_join hs (ys := z :: r) fun w hw => h w (List.mem_cons_of_mem _ hw))
theorem len_join {s : Str} : ∀ {ys : List Str}, (Str.join s ys).length ≤ s.length * ys.length + (ys.map fun y => y.length).sum
  | [] => by show (#[] : Array Nat).size ≤ _; simp
  | [y] => by show y.length ≤ _; simp
  | y :: z :: r => by
    have := len_join (s := s) (ys := z :: r)
    show (y ++ s ++ Str.join s (z :: r)).length ≤ _
    rw [Str.length_append, Str.length_append]
    simp only [List.length_cons, List.map_cons, List.sum_cons, Nat.mul_add, Nat.mul_one] at *
    omega
theorem txt_join (s : Str) (ys : List Str) : Txt.join s ys = Str.join s ys := StrLaws.glued_eq_join s ys
theorem fold_app : ∀ (n : Nat) (a b : Array Nat), ((List.replicate n a).foldl (· ++ ·) b).size = b.size + n * a.size ∧ ∀ c, c ∈ (List.replicate n a).foldl (· ++ ·) b → c ∈ b ∨ c ∈ a
  | 0, a, b => ⟨by simp, fun c h => .inl (by simpa using h)⟩
  | n + 1, a, b => by
    have := fold_app n a (b ++ a)
    rw [List.replicate_succ, List.foldl_cons]
    refine ⟨by rw [this.1, Array.size_append, Nat.add_mul]; omega, fun c h => ?_⟩
    rcases this.2 c h with h | h
    · exact Array.mem_append.mp h
    · exact .inr h
theorem mulS_len (x : Str) (n : Int) : (mulS x n).length ≤ x.length * n.toNat ∧ (PyData.strOk x = true → PyData.strOk (mulS x n) = true) := by
  unfold mulS
  split
  · exact ⟨by show (#[] : Array Nat).size ≤ _; simp, fun _ => strOk_nil⟩
  · split
    · rename_i h; subst h; exact ⟨by show x.length ≤ _; simp, id⟩
    · split
      · rename_i h; exact ⟨by rw [h]; simp, id⟩
      · have := fold_app n.toNat x.cps #[]
        refine ⟨?_, fun h => ?_⟩
        · show ((List.replicate n.toNat x.cps).foldl (· ++ ·) #[]).size ≤ _
          rw [this.1]
          show 0 + n.toNat * x.cps.size ≤ x.cps.size * n.toNat
          rw [Nat.mul_comm]; omega
        · rw [strOk_iff] at h ⊢
          intro c hc
          rcases this.2 c hc with q | q
          · simp at q
          · exact h c q
def signsS : Str := (" !\"#$&'()*+,-./0123456789:;<=>?@ABCDEFGHIJKLMNOPQRSTUVWXYZ[\\]^_`" : Str) ++ ("abcdefghijklmnopqrstuvwxyz{|}~\n" : Str)
theorem signs_len : signsS.length = 95 := by decide +kernel
theorem signs_ok : PyData.strOk signsS = true := by decide +kernel
theorem sign_ok (s : Sto) : PyData.strOk (s.sign signsS).1 = true := by
  have h1 := take_0 s signsS.length
  have h2 := take_lt s (m := signsS.length) (by rw [signs_len]; decide)
  rw [strOk_iff]
  intro c hc
  have : c = signsS.cps.toList.getD (s.take signsS.length).1.toNat 0 := by simpa [Sto.sign] using hc
  have hl : (s.take signsS.length).1.toNat < signsS.cps.toList.length := by rw [Array.length_toList]; show _ < signsS.length; omega
  rw [this, List.getD_eq_getElem?_getD, List.getElem?_eq_getElem hl]
  exact strOk_iff.mp signs_ok _ (by rw [← Array.mem_toList_iff]; exact List.getElem_mem hl)
section
variable {p : Pg} {n : Nat}
theorem signs_call (h : Has p fd_law_signs) : p.callN (n + 1) "_law_signs" [] = .ok 9 (.str signsS) none := by
  refine (h.call n _ rfl).trans ?_
  have e : lim ((" !\"#$&'()*+,-./0123456789:;<=>?@ABCDEFGHIJKLMNOPQRSTUVWXYZ[\\]^_`" : Str).length + ("abcdefghijklmnopqrstuvwxyz{|}~\n" : Str).length) = true := by decide +kernel
  (simp! only [fd_law_signs, e, signsS])
def Sto.signs : List Int → Sto → List Str × Sto
  | [], s => ([], s)
  | _ :: js, s => ((s.sign signsS).1 :: (Sto.signs js (s.sign signsS).2).1, (Sto.signs js (s.sign signsS).2).2)
theorem signs_all : ∀ (js : List Int) (s : Sto), (s.signs js).1.length = js.length ∧ ∀ x ∈ (s.signs js).1, PyData.strOk x = true ∧ x.length = 1
  | [], s => ⟨rfl, by simp [Sto.signs]⟩
  | j :: js, s => by
    have := signs_all js (s.sign signsS).2
    refine ⟨by simp [Sto.signs, this.1], fun x hx => ?_⟩
    rcases List.mem_cons.mp hx with rfl | hx
    · exact ⟨sign_ok s, rfl⟩
    · exact this.2 x hx
theorem sign_call (hp : Has p fd_law_pick) (ht : Has p fd_law_take) {s : Sto} : p.callN (n + 2) "_law_pick" [(1, s.d), (0, .str signsS)] = .ok 9 (.str (s.sign signsS).1) (some (1, (s.sign signsS).2.d)) := pick_s hp ht (by rw [signs_len]; decide) (by rw [signs_len]; decide)
theorem sign_at (s : Sto) : signsS.cps.toList[(s.take 95).1.toNat]? = some (signsS.cps.toList.getD (s.take 95).1.toNat 0) := by
  have h1 := take_0 s 95
  have h2 := take_lt s (m := 95) (by decide)
  rw [List.getD_eq_getElem?_getD, List.getElem?_eq_getElem (by rw [Array.length_toList]; show _ < signsS.length; rw [signs_len]; omega)]; rfl
def ownS (ys : List Str) : List (Tg × D) := ys.map fun y => (Tg.own 9, .str y)
theorem ownS_minK (ys : List Str) : minK (ownS ys) = some 9 := by induction ys with | nil => rfl | cons y ys ih => simp only [ownS] at ih; simp [ownS, minK, ih, D.flat]
theorem ownS_map (ys : List Str) : (ownS ys).map (·.2) = ys.map .str := by simp [ownS]
theorem signs_loop (ht : Has p fd_law_take) {e2 e3 e4 : Option (Nat × D)} : ∀ (js : List Int) (s : Sto),
    lcS (p.sm (n + 1)) (.sub (.fz 1 1) (.fn "_law_take" (.cons (.var 0) (.cons (.int 95) .nil)))) (.name 5) .nop [5] [] (.own 9) (js.map .int) [some (1, s.d), some (9, .str signsS), e2, e3, e4, none] = .ok (ownS (s.signs js).1, [some (1, (s.signs js).2.d), some (9, .str signsS), e2, e3, e4, none])
  | [], s => by rw [List.map_nil, lcS_nil]; rfl
  | j :: js, s => by
    have it : p.ino "_law_take" = true := ht.ino
    have ih := signs_loop ht (e2 := e2) (e3 := e3) (e4 := e4) js (s.sign signsS).2
    have q1 := take_0 s 95
    have e95 : ((s.sign signsS).2) = (s.take 95).2 := by unfold Sto.sign; rw [signs_len]; rfl
    have e96 : (s.sign signsS).1 = ⟨#[signsS.cps.toList.getD (s.take 95).1.toNat 0]⟩ := by unfold Sto.sign; rw [signs_len]; rfl
    rw [List.map_cons, lcS_cons]
    rw [e95] at ih
    have hsl : lim signsS.length = true := by rw [signs_len]; rfl
    have ha := sign_at s
    (simp! only [it, take_call ht, hsl, ha, ih, wipeE, e96, Sto.signs, e95, ownS])
theorem strsD_map (ys : List Str) : strsD (ys.map .str) = some ys := by induction ys with | nil => rfl | cons y ys ih => simp [strsD, ih]
def wordsA : List Str := ["0", "1", "-1", "-", "a", "few", "cut", "take", "ring", "none", "take 0 1", "ring 0 1", "\n", " "]
def wordsB : List Str := ["things 2\n0 1",
  "things 1", "settle", "web 1:", "True", "()"]
theorem words_ok : ∀ x ∈ wordsA ++ wordsB, okS x := by
  have : ((wordsA ++ wordsB).all fun x => decide (x.length ≤ 100000) && PyData.strOk x) = true := by decide +kernel
  intro x hx
  have := List.all_eq_true.mp this x hx
  simp only [Bool.and_eq_true, decide_eq_true_eq] at this
  exact this
theorem text_call (h : Has p fd_law_text) (ht : Has p fd_law_take) (hc : Has p fd_law_count) (hp : Has p fd_law_pick) (hs : Has p fd_law_signs) (s : Sto) : ∃ (x : Str) (s' : Sto), p.callN (n + 3) "_law_text" [(1, s.d)] = .ok 9 (.str x) (some (1, s'.d)) ∧ okS x := by
  have it : p.ino "_law_take" = true := ht.ino
  have ic : p.ino "_law_count" = true := hc.ino
  have ip : p.ino "_law_pick" = true := hp.ino
  have is : p.ino "_law_signs" = false := hs.ino
  have hsc := signs_call (n := n + 1) hs
  by_cases h0 : (s.take 8).1 = 0
  · refine ⟨"", (s.take 8).2, (h.call (n + 2) _ rfl).trans ?_, by decide +kernel, strOk_nil⟩
    (simp! only [fd_law_text, is, hsc, it, take_call ht, h0])
  · by_cases h1 : (s.take 8).1 = 1
    · have hpk := pick_l (n := n) hp ht (s := (s.take 8).2) (xs := (wordsA ++ wordsB).map .str) (by decide) (by decide)
      obtain ⟨x, hx, e⟩ := List.mem_map.mp (pick_mem (s.take 8).2 (xs := (wordsA ++ wordsB).map .str) (by decide))
      rw [← e] at hpk
      refine ⟨x, ((s.take 8).2.pick ((wordsA ++ wordsB).map .str)).2, (h.call (n + 2) _ rfl).trans ?_, words_ok x hx⟩
      simp only [wordsA, wordsB, List.map_cons, List.map_nil, List.cons_append, List.nil_append] at hpk ⊢
      (simp! only [fd_law_text, is, hsc, it, ip, take_call ht, h0, h1, hpk, kOf])
    · have q := count_rng (s.take 8).2 (a := 1) (b := 12) (by decide)
      generalize hu : (s.take 8).2.count 1 12 = u at q
      have hcc := count_call (n := n) hc ht (s := (s.take 8).2) (a := 1) (b := 12) (by decide)
      rw [hu] at hcc
      have hsl : lim signsS.length = true := by rw [signs_len]; rfl
      have hj : ∀ (sz : Int) (v : Sto), 1 ≤ sz → sz ≤ 400 → metV "join" (.own 9, .str "") [(.own 10, .lst ((v.signs (rngL 0 sz)).1.map .str))] = some (.own 9, .str (Txt.join "" (v.signs (rngL 0 sz)).1)) ∧ okS (Txt.join "" (v.signs (rngL 0 sz)).1) ∧ (ownS (v.signs (rngL 0 sz)).1).length ≤ 400 := fun sz v h1 h2 => by
        obtain ⟨a1, a2⟩ := signs_all (rngL 0 sz) v
        have hsum : ∀ (ys : List Str), (∀ x ∈ ys, x.length = 1) → (ys.map fun y => y.length).sum = ys.length := fun ys => by
          induction ys with
          | nil => intro _; rfl
          | cons y ys ih =>
            intro h
            rw [List.map_cons, List.sum_cons, h y List.mem_cons_self, ih fun x hx => h x (List.mem_cons_of_mem _ hx), List.length_cons]; omega
        have hs1 := hsum _ fun x hx => (a2 x hx).2
        have hlen : (Txt.join "" (v.signs (rngL 0 sz)).1).length ≤ 400 := by
          rw [txt_join]
          refine Nat.le_trans len_join ?_
          rw [hs1, a1, rngL_len]
          have : ("" : Str).length = 0 := by decide
          rw [this]; omega
        refine ⟨?_, ⟨by omega, by rw [txt_join]; exact strOk_join strOk_nil fun y hy => (a2 y hy).1⟩, by simp only [ownS, List.length_map]; rw [a1, rngL_len]; omega⟩
        rw [met_join (strsD_map _), hs1, a1, rngL_len]
        have : ("" : Str).length = 0 := by decide
        rw [this, if_pos (lim_t (by omega))]
      by_cases h2 : (s.take 8).1 = 2
      · have q1 := take_0 u.2 361
        have q2 := take_lt u.2 (m := 361) (by decide)
        obtain ⟨j1, j2, j3⟩ := hj (40 + (u.2.take 361).1) (u.2.take 361).2 (by omega) (by omega)
        refine ⟨_, ((u.2.take 361).2.signs (rngL 0 (40 + (u.2.take 361).1))).2, (h.call (n + 2) _ rfl).trans ?_, j2⟩
        (simp! only [fd_law_text, is, hsc, it, ip, ic, hcc, take_call ht, h0, h1, h2, wipeE, signs_loop ht, ownS_minK, ownS_map, j1])
      · by_cases h3 : (s.take 8).1 = 3
        · obtain ⟨m1, m2⟩ := mulS_len (u.2.sign signsS).1 u.1
          have hl1 : (u.2.sign signsS).1.length = 1 := rfl
          rw [hl1] at m1
          refine ⟨mulS (u.2.sign signsS).1 u.1, (u.2.sign signsS).2, (h.call (n + 2) _ rfl).trans ?_, by omega, m2 (sign_ok _)⟩
          have c1 : (0 ≤ u.1 ∧ u.1 ≤ 16777216 ∧ lim ((u.2.sign signsS).1.length * u.1.toNat) = true ∧ lim (mulS (u.2.sign signsS).1 u.1).length = true) := ⟨by omega, by omega, lim_t (by rw [hl1]; omega), lim_t (by omega)⟩
          (simp! only [fd_law_text, is, hsc, it, ip, ic, hcc, take_call ht, h0, h1, h2, h3, sign_call hp ht, c1])
        · obtain ⟨j1, j2, j3⟩ := hj u.1 u.2 (by omega) (by omega)
          refine ⟨_, (u.2.signs (rngL 0 u.1)).2, (h.call (n + 2) _ rfl).trans ?_, j2⟩
          (simp! only [fd_law_text, is, hsc, it, ip, ic, hcc, take_call ht, h0, h1, h2, h3, wipeE, signs_loop ht, ownS_minK, ownS_map, j1])
end
end VI.P
set_option autoImplicit true
set_option Elab.async false
set_option linter.all false
set_option maxRecDepth 100000
set_option maxHeartbeats 4000000
namespace VI.P
open PySem PySem.Spec PyProof.Rows L2
section
variable {p : Pg} {n : Nat}
theorem plain_call (h : Has p fd_law_plain) (ht : Has p fd_law_take) (hc : Has p fd_law_count) (hp : Has p fd_law_pick) (hs : Has p fd_law_signs) (hf : Has p fd_law_far) (hx : Has p fd_law_text) (s : Sto) :
    ∃ (d : D) (s' : Sto), p.callN (n + 4) "_law_plain" [(1, s.d)] = .ok 9 d (some (1, s'.d)) ∧ D.okv 1 d = true ∧ d.cnt = 1 := by
  have it : p.ino "_law_take" = true := ht.ino
  have if' : p.ino "_law_far" = true := hf.ino
  have ix : p.ino "_law_text" = true := hx.ino
  have q0 := take_0 s 9
  have q1 := take_lt s (m := 9) (by decide)
  by_cases h3 : (s.take 9).1 < 3
  · refine ⟨.int (((s.take 9).2.take 14).1 - 1), ((s.take 9).2.take 14).2, (h.call (n + 3) _ rfl).trans ?_, by simp [D.okv], rfl⟩
    (simp! only [fd_law_plain, it, take_call ht, h3])
  · by_cases h4 : (s.take 9).1 = 3
    · obtain ⟨x, s', hfx⟩ := far_call (n := n) hf ht hc hp (s.take 9).2
      refine ⟨.int x, s', (h.call (n + 3) _ rfl).trans ?_, by simp [D.okv], rfl⟩
      (simp! only [fd_law_plain, it, if', take_call ht, h3, h4, hfx])
    · by_cases h5 : (s.take 9).1 = 4
      · refine ⟨.bl (decide (((s.take 9).2.take 2).1 = 0)), ((s.take 9).2.take 2).2, (h.call (n + 3) _ rfl).trans ?_, by simp [D.okv], rfl⟩
        (simp! only [fd_law_plain, it, take_call ht, h3, h4, h5])
      · by_cases h6 : (s.take 9).1 = 5
        · refine ⟨.non, (s.take 9).2, (h.call (n + 3) _ rfl).trans ?_, by simp [D.okv], rfl⟩
          (simp! only [fd_law_plain, it, take_call ht, h3, h4, h5, h6])
        · by_cases h7 : (s.take 9).1 = 6
          · refine ⟨.lst [], (s.take 9).2, (h.call (n + 3) _ rfl).trans ?_, by simp [D.okv, D.okvs], rfl⟩
            (simp! only [fd_law_plain, it, take_call ht, h3, h4, h5, h6, h7])
          · by_cases h8 : (s.take 9).1 = 7
            · refine ⟨.tup [], (s.take 9).2, (h.call (n + 3) _ rfl).trans ?_, by simp [D.okv, D.okvs], rfl⟩
              (simp! only [fd_law_plain, it, take_call ht, h3, h4, h5, h6, h7, h8])
            · obtain ⟨x, s', hxx, ok⟩ := text_call (n := n) hx ht hc hp hs (s.take 9).2
              refine ⟨.str x, s', (h.call (n + 3) _ rfl).trans ?_, okS_v ok, rfl⟩
              (simp! only [fd_law_plain, it, ix, take_call ht, h3, h4, h5, h6, h7, h8, hxx])
def kRow (s : Sto) (xs : List D) : Nat := if D.flats xs then 9 else if (s.take 2).1 = 0 then 1 else 0
theorem rowg_l (h : Has p fd_law_row) (ht : Has p fd_law_take) {s : Sto} {xs : List D} : p.callN (n + 2) "_law_row" [(1, s.d), (0, .lst xs)] = .ok (kRow s xs) (s.row xs).1 (some (1, (s.row xs).2.d)) := by
  cases hf : D.flats xs with
  | true => rw [row_l h ht hf, kRow, hf]; rfl
  | false =>
    refine (h.call (n + 1) _ rfl).trans ?_
    have it : p.ino "_law_take" = true := ht.ino
    unfold Sto.row kRow
    by_cases h2 : (s.take 2).1 = 0
    · (simp! only [fd_law_row, it, take_call ht, h2, hf])
    · (simp! only [fd_law_row, it, take_call ht, h2, hf])
theorem rowg_t (h : Has p fd_law_row) (ht : Has p fd_law_take) {s : Sto} {xs : List D} : p.callN (n + 2) "_law_row" [(1, s.d), (0, .tup xs)] = .ok (kRow s xs) (s.row xs).1 (some (1, (s.row xs).2.d)) := by
  cases hf : D.flats xs with
  | true => rw [row_t h ht hf, kRow, hf]; rfl
  | false =>
    refine (h.call (n + 1) _ rfl).trans ?_
    have it : p.ino "_law_take" = true := ht.ino
    unfold Sto.row kRow
    by_cases h2 : (s.take 2).1 = 0
    · (simp! only [fd_law_row, it, take_call ht, h2, hf])
    · (simp! only [fd_law_row, it, take_call ht, h2, hf])
def Off (low high : Int) (x : D) : Prop := D.okv 2 x = true ∧ x.cnt ≤ 2 ∧ ∀ i, x = .int i → i < low ∨ high < i
def offMenu (low high r1 r2 : Int) : List D := [.int (low - 1), .int (high + 1), .int (low - 1), .int (high + 1), .int 999999999999999999999999999999, .int (-999999999999999999999999999999), .non, .bl true, .bl false,
  .str "", .str (toString low), .str "a", .lst [], .lst [.int low], .tup [.int low], .tup [], .int (low - 2 - r1), .int (high + 2 + r2)]
theorem off_call (h : Has p fd_law_off) (ht : Has p fd_law_take) (hp : Has p fd_law_pick) (s : Sto) {low high : Int} (h1 : -1000000 < low) (h2 : high < 1000000) (h3 : low ≤ high) (hs : okS (toString low)) (hg : low.natAbs.log2 < 1920) :
    ∃ (x : D) (s' : Sto), p.callN (n + 3) "_law_off" [(1, s.d), (0, .int low), (0, .int high)] = .ok (if x.flat then 9 else 1) (.lst [x]) (some (1, s'.d)) ∧ Off low high x := by
  have it : p.ino "_law_take" = true := ht.ino
  have ip : p.ino "_law_pick" = true := hp.ino
  have a0 := take_0 s 1000000
  have b0 := take_0 (s.take 1000000).2 1000000
  generalize hu : s.take 1000000 = u at a0 b0
  generalize hv : u.2.take 1000000 = v at b0
  have hpk := pick_l (n := n) hp ht (s := v.2) (xs := offMenu low high u.1 v.1) (by simp [offMenu]) (by simp [offMenu])
  have hm := pick_mem v.2 (xs := offMenu low high u.1 v.1) (by simp [offMenu])
  have hoff : Off low high (v.2.pick (offMenu low high u.1 v.1)).1 := by
    generalize (v.2.pick (offMenu low high u.1 v.1)).1 = x at hm
    simp only [offMenu, List.mem_cons, List.not_mem_nil, or_false] at hm
    rcases hm with rfl | rfl | rfl | rfl | rfl | rfl | rfl | rfl | rfl | rfl | rfl | rfl | rfl | rfl | rfl | rfl | rfl | rfl <;>
      (refine ⟨?_, by simp [D.cnt, D.cnts], fun i e => by cases e <;> omega⟩
       first | exact okS_v hs | exact okS_v ⟨by decide +kernel, by decide +kernel⟩ | simp [D.okv, D.okvs])
  generalize v.2.pick (offMenu low high u.1 v.1) = w at hpk hoff
  refine ⟨w.1, w.2, (h.call (n + 2) _ rfl).trans ?_, hoff⟩
  have htc := take_call (n := n + 1) ht (s := s) (m := 1000000) (by decide)
  have htd := take_call (n := n + 1) ht (s := u.2) (m := 1000000) (by decide)
  rw [hu] at htc
  rw [hv] at htd
  simp only [offMenu] at hpk
  cases hf : w.1.flat
  · (simp! only [fd_law_off, it, ip, htc, htd, hg, hpk, kOf_f hf, hf])
  · (simp! only [fd_law_off, it, ip, htc, htd, hg, hpk, kOf_t hf, hf])
end
end VI.P
set_option autoImplicit true
set_option Elab.async false
set_option linter.all false
set_option maxRecDepth 100000
set_option maxHeartbeats 4000000
namespace VI.P
open PySem PySem.Spec PyProof.Rows L2
def own9 (ds : List D) : List (Tg × D) := ds.map fun d => (Tg.own 9, d)
theorem own9_minK (ds : List D) : minK (own9 ds) = some 9 := by
  induction ds with
  | nil => rfl
  | cons d ds ih => simp only [own9] at ih; simp [own9, minK, ih]
theorem own9_map (ds : List D) : (own9 ds).map (·.2) = ds := by induction ds with | nil => rfl | cons d ds ih => simp only [own9] at ih; simp only [own9, List.map_cons, ih]
theorem own9_len (ds : List D) : (own9 ds).length = ds.length := by simp [own9]
theorem cnts_app : ∀ {xs ys : List D}, D.cnts (xs ++ ys) = D.cnts xs + D.cnts ys
  | [], ys => by simp [D.cnts]
  | x :: xs, ys => by simp [D.cnts, cnts_app (xs := xs)]; omega
theorem cnts_take_drop (xs : List D) (i : Nat) : D.cnts (xs.take i) + D.cnts (xs.drop i) = D.cnts xs := by
  rw [← cnts_app, List.take_append_drop]
section
variable {p : Pg} {n : Nat}
structure PlainH (p : Pg) : Prop where
  take : Has p fd_law_take
  count : Has p fd_law_count
  pick : Has p fd_law_pick
  signs : Has p fd_law_signs
  far : Has p fd_law_far
  text : Has p fd_law_text
  plain : Has p fd_law_plain
theorem plains_loop (H : PlainH p) {e1 e2 e3 e4 e5 : Option (Nat × D)} : ∀ (js : List Int) (s : Sto), ∃ (ds : List D) (s' : Sto),
    lcS (p.sm (n + 4)) (.fn "_law_plain" (.cons (.var 0) .nil)) (.name 6) .nop [6] [] (.own 9) (js.map .int) [some (1, s.d), e1, e2, e3, e4, e5, none] = .ok (own9 ds, [some (1, s'.d), e1, e2, e3, e4, e5, none]) ∧ ds.length = js.length ∧ (∀ d ∈ ds, D.okv 1 d = true) ∧ D.cnts ds = js.length
  | [], s => ⟨[], s, by rw [List.map_nil, lcS_nil]; rfl, rfl, by simp, rfl⟩
  | j :: js, s => by
    have ip : p.ino "_law_plain" = true := H.plain.ino
    obtain ⟨d, s1, hd, ok, hc⟩ := plain_call (n := n) H.plain H.take H.count H.pick H.signs H.far H.text s
    obtain ⟨ds, s2, ih, hl, hok, hcs⟩ := plains_loop H (e1 := e1) (e2 := e2) (e3 := e3) (e4 := e4) (e5 := e5) js s1
    refine ⟨d :: ds, s2, ?_, by simp [hl], ?_, by simp [D.cnts, hc, hcs]; omega⟩
    · rw [List.map_cons, lcS_cons]
      (simp! only [ip, hd, ih, wipeE, own9])
    · intro x hx
      rcases List.mem_cons.mp hx with rfl | hx
      · exact ok
      · exact hok x hx
def valB : CSs := .cons (.set 5 (.lc (.fn "_law_plain" (.cons (.var 0) .nil)) (.name 6) (.rng (.fn "_law_take" (.cons (.var 0) (.cons (.int 4) .nil)))) .nop [6])) (.cons (.exp (.mut "insert" (.var 5) (.cons (.fn "_law_take" (.cons (.var 0) (.cons (.bin .Add (.bi "len" (.cons (.var 5) .nil)) (.int 1)) .nil))) (.cons (.mv 2) .nil)))) (.cons (.set 2 (.fn "_law_row" (.cons (.var 0) (.cons (.var 5) .nil)))) .nil))
theorem row_okv {s : Sto} {xs : List D} {h : Nat} (q : ∀ x ∈ xs, D.okv h x = true) : D.okv (h + 1) (s.row xs).1 = true := by
  unfold Sto.row; dsimp only
  split <;> simp only [D.okv] <;> exact okvs_all.mpr q
theorem row_cnt {s : Sto} {xs : List D} : (s.row xs).1.cnt = D.cnts xs + 1 := by
  unfold Sto.row; dsimp only
  split <;> rfl
theorem value_loop (H : PlainH p) (hr : Has p fd_law_row) {e1 e3 : Option (Nat × D)} : ∀ (js : List Int) (s : Sto) (kv : Nat) (d : D) (o4 o5 : Option (Nat × D)) (h c : Nat), (kv = 0 ∨ kv = 1 ∨ kv = 9) → 1 ≤ h → D.okv h d = true → d.cnt ≤ c →
    ∃ (s' : Sto) (kv' : Nat) (d' : D) (o4' o5' : Option (Nat × D)), forS (p.sm (n + 4)) (.name 4) valB [] (.own 9) (js.map .int) [some (1, s.d), e1, some (kv, d), e3, o4, o5, none] = .nx [some (1, s'.d), e1, some (kv', d'), e3, o4', o5', none] ∧ (kv' = 0 ∨ kv' = 1 ∨ kv' = 9) ∧ D.okv (h + js.length) d' = true ∧ d'.cnt ≤ c + 4 * js.length
  | [], s, kv, d, o4, o5, h, c, hk, _, ok, hc => ⟨s, kv, d, o4, o5, by rw [List.map_nil, forS_nil], hk, ok, by simpa using hc⟩
  | j :: js, s, kv, d, o4, o5, h, c, hk, h1, ok, hc => by
    have ip : p.ino "_law_plain" = true := H.plain.ino
    have it : p.ino "_law_take" = true := H.take.ino
    have ir : p.ino "_law_row" = true := hr.ino
    have q1 := take_0 s 4
    have q2 := take_lt s (m := 4) (by decide)
    obtain ⟨ds, s1, hds, hl, hok, hcs⟩ := plains_loop (n := n) H (e1 := e1) (e2 := some (kv, d)) (e3 := e3) (e4 := some (9, .int j)) (e5 := o5) (rngL 0 (s.take 4).1) (s.take 4).2
    rw [rngL_len] at hl hcs
    have q3 := take_0 s1 (ds.length + 1)
    have q4 := take_lt s1 (m := ds.length + 1) (by omega)
    generalize hu : s1.take (ds.length + 1) = u at q3 q4
    have htc := take_call (n := n + 3) H.take (s := s1) (m := ds.length + 1) (by omega)
    rw [hu] at htc
    have hrc := rowg_l (n := n + 2) hr H.take (s := u.2) (xs := ds.take u.1.toNat ++ d :: ds.drop u.1.toNat)
    have hko : ∀ x ∈ ds.take u.1.toNat ++ d :: ds.drop u.1.toNat, D.okv h x = true := by
      intro x hx
      rcases List.mem_append.mp hx with hx | hx
      · exact okv_mono (hok x (List.mem_of_mem_take hx)) h1
      · rcases List.mem_cons.mp hx with rfl | hx
        · exact ok
        · exact okv_mono (hok x (List.mem_of_mem_drop hx)) h1
    have hrv := row_okv (s := u.2) hko
    have hrn := row_cnt (s := u.2) (xs := ds.take u.1.toNat ++ d :: ds.drop u.1.toNat)
    have hcn : D.cnts (ds.take u.1.toNat ++ d :: ds.drop u.1.toNat) = D.cnts ds + d.cnt := by
      rw [cnts_app, D.cnts, ← cnts_take_drop ds u.1.toNat]; omega
    have hkr : kRow u.2 (ds.take u.1.toNat ++ d :: ds.drop u.1.toNat) = 0 ∨ kRow u.2 (ds.take u.1.toNat ++ d :: ds.drop u.1.toNat) = 1 ∨ kRow u.2 (ds.take u.1.toNat ++ d :: ds.drop u.1.toNat) = 9 := by
      unfold kRow; split
      · exact .inr (.inr rfl)
      · split
        · exact .inr (.inl rfl)
        · exact .inl rfl
    generalize hrow : u.2.row (ds.take u.1.toNat ++ d :: ds.drop u.1.toNat) = rw at hrc hrv hrn
    generalize kRow u.2 (ds.take u.1.toNat ++ d :: ds.drop u.1.toNat) = kr at hrc hkr
    have step : forB (p.sm (n + 4)) (.name 4) valB [] (.own 9, .int j) [some (1, s.d), e1, some (kv, d), e3, o4, o5, none] = .nx [some (1, rw.2.d), e1, some (if rw.1.flat then 9 else kr, rw.1), e3, some (9, .int j), some (0, .lst (ds.take u.1.toNat ++ d :: ds.drop u.1.toNat)), none] := by
      rcases hk with rfl | rfl | rfl <;> cases hf : d.flat <;> cases hfr : rw.1.flat <;> (simp! only [valB, ip, it, ir, take_call H.take, hds, own9_minK, own9_map, own9_len, hu, hf, hfr, hrc, wipeE, len_app])
    obtain ⟨s2, kv', d', o4', o6, ih, i2, i3, i4⟩ := value_loop H hr (e1 := e1) (e3 := e3) js rw.2 (if rw.1.flat then 9 else kr) rw.1 (some (9, .int j)) (some (0, .lst (ds.take u.1.toNat ++ d :: ds.drop u.1.toNat))) (h + 1) (c + 4) (by split; exact .inr (.inr rfl); exact hkr) (by omega) hrv (by omega)
    refine ⟨s2, kv', d', o4', o6, ?_, i2, by rw [List.length_cons, show h + (js.length + 1) = h + 1 + js.length by omega]; exact i3, by rw [List.length_cons]; omega⟩
    rw [List.map_cons, forS_cons]
    have hn : nrm (.own 9) (.int j) = .own 9 := rfl
    rw [hn, step, kTurnn]
    exact ih
end
end VI.P
set_option autoImplicit true
set_option Elab.async false
set_option linter.all false
set_option maxRecDepth 100000
set_option maxHeartbeats 4000000
namespace VI.P
open PySem PySem.Spec PyProof.Rows L2
section
variable {p : Pg} {n : Nat}
def deepMenu : List Int := [0, 0, 1, 1, 1, 2, 3, 7]
theorem value_call (h : Has p fd_law_value) (H : PlainH p) (hr : Has p fd_law_row) (s : Sto) : ∃ (k : Nat) (d : D) (s' : Sto), p.callN (n + 5) "_law_value" [(1, s.d), (0, .int 8)] = .ok k d (some (1, s'.d)) ∧ (k = 0 ∨ k = 1 ∨ k = 9) ∧ D.okv 8 d = true ∧ d.cnt ≤ 29 := by
  have ip : p.ino "_law_plain" = true := H.plain.ino
  have it : p.ino "_law_take" = true := H.take.ino
  have ik : p.ino "_law_pick" = true := H.pick.ino
  obtain ⟨d, s1, hd, ok, hc⟩ := plain_call (n := n) H.plain H.take H.count H.pick H.signs H.far H.text s
  have hpk := pick_l (n := n + 2) H.pick H.take (s := s1) (xs := deepMenu.map .int) (by decide) (by decide)
  obtain ⟨x, hx, e⟩ := List.mem_map.mp (pick_mem s1 (xs := deepMenu.map .int) (by decide))
  rw [← e] at hpk
  generalize (s1.pick (deepMenu.map .int)).2 = s2 at hpk
  have hx7 : 0 ≤ x ∧ x ≤ 7 := by
    simp only [deepMenu, List.mem_cons, List.not_mem_nil, or_false] at hx
    omega
  have hmin : (if 8 - 1 < x then 8 - 1 else x) = x := if_neg (by omega)
  obtain ⟨s3, kv, d', o4, o5, hl, hk, ok', hc'⟩ := value_loop (n := n) H hr (e1 := some (0, .int 8)) (e3 := some (9, .int x)) (rngL 0 x) s2 9 d none none 1 1 (.inr (.inr rfl)) (by decide) ok (by omega)
  rw [rngL_len] at ok' hc'
  simp only [deepMenu, List.map_cons, List.map_nil] at hpk
  unfold valB at hl
  have h7 : ¬ 7 < x := by omega
  refine ⟨if d'.flat then 9 else kv, d', s3, (h.call (n + 4) _ rfl).trans ?_, by split; exact .inr (.inr rfl); exact hk, okv_mono ok' (by omega), by omega⟩
  cases hf : d.flat <;> cases hf' : d'.flat
  · rcases hk with rfl | rfl | rfl <;> (simp! only [fd_law_value, ip, it, ik, hd, hf, hf', hpk, kOf, h7, hl])
  · rcases hk with rfl | rfl | rfl <;> (simp! only [fd_law_value, ip, it, ik, hd, hf, hf', hpk, kOf, h7, hl])
  · rcases hk with rfl | rfl | rfl <;> (simp! only [fd_law_value, ip, it, ik, hd, hf, hf', hpk, kOf, h7, hl])
  · rcases hk with rfl | rfl | rfl <;> (simp! only [fd_law_value, ip, it, ik, hd, hf, hf', hpk, kOf, h7, hl])
def Sto.init (ns : List Int) : Sto := ⟨(ns.take 63).map fun c => if 1000000000000000000 ≤ c then c % 10 ^ 720 else c % 2147483647, 0, 0, 0, 1 + (ns.take 63).length⟩
theorem big1 : binI .Pow 10 60 = some (10 ^ 60) := by decide +kernel
theorem big2 : binI .Mult (10 ^ 60) (10 ^ 60) = some (10 ^ 120) := by decide +kernel
theorem big3 : binI .Mult (10 ^ 120) (10 ^ 60) = some (10 ^ 180) := by decide +kernel
theorem big4 : binI .Mult (10 ^ 180) (10 ^ 180) = some (10 ^ 360) := by decide +kernel
theorem big5 : binI .Mult (10 ^ 360) (10 ^ 180) = some (10 ^ 540) := by decide +kernel
theorem big6 : binI .Mult (10 ^ 540) (10 ^ 180) = some (10 ^ 720) := by decide +kernel
theorem big7 (i : Int) : binI .Mod i (10 ^ 720) = some (i % 10 ^ 720) := mod_I (by decide +kernel)
def stoB : CSs := .cons (.ite (.cmp .GtE (.var 3) (.bin .Pow (.int 10) (.int 18))) (.cons (.exp (.mut "append" (.var 2) (.cons (.bin .Mod (.bi "int" (.cons (.var 3) .nil)) (.var 1)) .nil))) .nil) (.cons (.exp (.mut "append" (.var 2) (.cons (.bin .Mod (.bi "int" (.cons (.var 3) .nil)) (.int 2147483647)) .nil))) .nil)) .nil
theorem store_loop {e0 : Option (Nat × D)} : ∀ (cs : List Int) (out : List Int) (o : Option (Nat × D)), out.length + cs.length ≤ 1000 → ∃ o', forS (p.sm n) (.name 3) stoB [] (.own 0) (cs.map .int) [e0, some (9, .int (10 ^ 720)), some (10, .lst (out.map .int)), o] = .nx [e0, some (9, .int (10 ^ 720)), some (10, .lst ((out ++ cs.map fun c => if 1000000000000000000 ≤ c then c % 10 ^ 720 else c % 2147483647).map .int)), o']
  | [], out, o, _ => ⟨o, by simp [forS_nil]⟩
  | c :: cs, out, o, hl => by
    rw [List.length_cons] at hl
    obtain ⟨o', ih⟩ := store_loop (e0 := e0) cs (out ++ [if 1000000000000000000 ≤ c then c % 10 ^ 720 else c % 2147483647]) (some (9, .int c)) (by simp; omega)
    refine ⟨o', ?_⟩
    rw [List.append_assoc] at ih
    rw [List.map_cons, forS_cons]
    refine Eq.trans ?_ ih
    by_cases h : 1000000000000000000 ≤ c
    · (simp! only [stoB, h, big7])
    · (simp! only [stoB, h])
theorem store_call (h : Has p fd_law_store) (ns : List Int) : p.callN (n + 1) "_law_store" [(0, .arg ns)] = .ok 1 (Sto.init ns).d none := by
  refine (h.call n _ rfl).trans ?_
  obtain ⟨o', hl⟩ := store_loop (p := p) (n := n) (e0 := some (0, .arg ns)) (ns.take 63) [] none (by simp; omega)
  unfold stoB at hl
  simp only [List.map_nil, List.nil_append] at hl
  (simp! only [fd_law_store, big1, big2, big3, big4, big5, big6, hl])
  simp [Sto.init, Sto.d]
end
end VI.P
set_option autoImplicit true
set_option Elab.async false
set_option linter.all false
set_option maxRecDepth 100000
set_option maxHeartbeats 4000000
namespace VI.P
open PySem PySem.Spec PyProof.Rows L2
def fd_law_is_int : Fd := ⟨"_law_is_int", 1, 1, false, (.cons (.ret (.and (.isi (.var 0) ["int"]) (.not (.isi (.var 0) ["bool"])))) .nil)⟩
def fd_law_is_row : Fd := ⟨"_law_is_row", 1, 1, false, (.cons (.ret (.isi (.var 0) ["list", "tuple"])) .nil)⟩
def fd_law_kind : Fd := ⟨"_law_kind", 1, 1, false, (.cons (.ite (.cmp .Is (.var 0) .non) (.cons (.ret (.int 0)) .nil) .nil) (.cons (.ite (.isi (.var 0) ["bool"]) (.cons (.ret (.int 1)) .nil) .nil) (.cons (.ite (.isi (.var 0) ["int"]) (.cons (.ret (.int 2)) .nil) .nil) (.cons (.ite (.isi (.var 0) ["str"]) (.cons (.ret (.int 3)) .nil) .nil) (.cons (.ite (.isi (.var 0) ["list"]) (.cons (.ret (.int 4)) .nil) .nil) (.cons (.ite (.isi (.var 0) ["tuple"]) (.cons (.ret (.int 5)) .nil) .nil) (.cons (.ite (.isi (.var 0) ["dict"]) (.cons (.ret (.int 6)) .nil) .nil) (.cons (.ret (.int 7)) .nil))))))))⟩
def fd_law_same : Fd := ⟨"_law_same", 3, 10, false, (.cons (.set 3 (.lst (.cons (.tup (.cons (.mv 0) (.cons (.mv 1) .nil))) .nil))) (.cons (.whl (.cmp .Gt (.bi "len" (.cons (.var 3) .nil)) (.int 0)) (.cons (.unp (.two (.name 4) (.name 5)) (.mut "pop" (.var 3) .nil)) (.cons (.set 6 (.fn "_law_kind" (.cons (.var 5) .nil))) (.cons (.set 7 (.fn "_law_kind" (.cons (.var 4) .nil))) (.cons (.ite (.and (.var 2) (.cmp .Eq (.var 7) (.int 5))) (.cons (.set 7 (.int 4)) .nil) .nil) (.cons (.ite (.and (.var 2) (.cmp .Eq (.var 6) (.int 5))) (.cons (.set 6 (.int 4)) .nil) .nil) (.cons (.ite (.or (.cmp .NotEq (.var 6) (.var 7)) (.cmp .Eq (.var 6) (.int 7))) (.cons (.ret (.bl false)) .nil) .nil) (.cons (.ite (.and (.cmp .Lt (.var 6) (.int 4)) (.and (.cmp .Gt (.var 6) (.int 0)) (.cmp .NotEq (.var 4) (.var 5)))) (.cons (.ret (.bl false)) .nil) .nil) (.cons (.ite (.and (.cmp .Gt (.var 6) (.int 3)) (.cmp .NotEq (.bi "len" (.cons (.var 4) .nil)) (.bi "len" (.cons (.var 5) .nil)))) (.cons (.ret (.bl false)) .nil) .nil) (.cons (.ite (.cmp .Eq (.var 6) (.int 6)) (.cons .bad .nil) (.cons (.ite (.cmp .Gt (.var 6) (.int 3)) (.cons (.for (.name 9) (.rng (.bi "len" (.cons (.var 5) .nil))) (.cons (.exp (.mut "append" (.var 3) (.cons (.tup (.cons (.sub (.fz 4 1) (.var 9)) (.cons (.sub (.fz 5 1) (.var 9)) .nil))) .nil))) .nil)) .nil) .nil) .nil)) .nil)))))))))) (.cons (.ret (.bl true)) .nil)))⟩
def isI : D → Bool
  | .int _ => true
  | _ => false
def kindD : D → Int
  | .non => 0
  | .bl _ => 1
  | .int _ => 2
  | .str _ => 3
  | .lst _ => 4
  | .tup _ => 5
  | _ => 7
section
variable {p : Pg} {n : Nat}
theorem is_int_call (h : Has p fd_law_is_int) {d : D} (hd : d.plain = true) : p.callN (n + 1) "_law_is_int" [(0, d)] = .ok 9 (.bl (isI d)) none := by
  refine (h.call n _ rfl).trans ?_
  cases d with
  | non => (simp! only [fd_law_is_int, isI]); try rfl
  | bl b => (simp! only [fd_law_is_int, isI]); try rfl
  | int i => (simp! only [fd_law_is_int, isI]); try rfl
  | str x => (simp! only [fd_law_is_int, isI]); try rfl
  | tup xs => cases hf : D.flats xs <;> ((simp! only [fd_law_is_int, isI, hf]); try rfl)
  | lst xs => (simp! only [fd_law_is_int, isI]); try rfl
  | dct xs => cases hd
  | ins c fs => cases hd
  | arg ns => cases hd
theorem is_row_call (h : Has p fd_law_is_row) {d : D} (hd : d.plain = true) : p.callN (n + 1) "_law_is_row" [(0, d)] = .ok 9 (.bl (rowOf d).isSome) none := by
  refine (h.call n _ rfl).trans ?_
  cases d with
  | non => (simp! only [fd_law_is_row, rowOf]); try rfl
  | bl b => (simp! only [fd_law_is_row, rowOf]); try rfl
  | int i => (simp! only [fd_law_is_row, rowOf]); try rfl
  | str x => (simp! only [fd_law_is_row, rowOf]); try rfl
  | tup xs => cases hf : D.flats xs <;> ((simp! only [fd_law_is_row, rowOf, hf]); try rfl)
  | lst xs => (simp! only [fd_law_is_row, rowOf]); try rfl
  | dct xs => cases hd
  | ins c fs => cases hd
  | arg ns => cases hd
theorem kind_call (h : Has p fd_law_kind) {d : D} (hd : d.plain = true) : p.callN (n + 1) "_law_kind" [(0, d)] = .ok 9 (.int (kindD d)) none := by
  refine (h.call n _ rfl).trans ?_
  cases d with
  | non => (simp! only [fd_law_kind, kindD]); try rfl
  | bl b => (simp! only [fd_law_kind, kindD]); try rfl
  | int i => (simp! only [fd_law_kind, kindD]); try rfl
  | str x => (simp! only [fd_law_kind, kindD]); try rfl
  | tup xs => cases hf : D.flats xs <;> ((simp! only [fd_law_kind, kindD, hf]); try rfl)
  | lst xs => (simp! only [fd_law_kind, kindD]); try rfl
  | dct xs => cases hd
  | ins c fs => cases hd
  | arg ns => cases hd
end
mutual
def alike (l : Bool) : D → D → Bool
  | .non, .non => true
  | .bl a, .bl b => a == b
  | .int a, .int b => a == b
  | .str a, .str b => a == b
  | .lst xs, .lst ys => alikes l xs ys
  | .tup xs, .tup ys => alikes l xs ys
  | .lst xs, .tup ys => l && alikes l xs ys
  | .tup xs, .lst ys => l && alikes l xs ys
  | _, _ => false
def alikes (l : Bool) : List D → List D → Bool
  | [], [] => true
  | x :: xs, y :: ys => alike l x y && alikes l xs ys
  | _, _ => false
end
theorem alikes_len {l : Bool} : ∀ {xs ys : List D}, alikes l xs ys = true → xs.length = ys.length
  | [], [], _ => rfl
  | x :: xs, y :: ys, h => by
    simp only [alikes, Bool.and_eq_true] at h
    simp [alikes_len h.2]
  | [], _ :: _, h => by simp [alikes] at h
  | _ :: _, [], h => by simp [alikes] at h
theorem alikes_get {l : Bool} : ∀ {xs ys : List D}, alikes l xs ys = true → ∀ q ∈ xs.zip ys, alike l q.1 q.2 = true
  | [], [], _, q, hq => by simp at hq
  | x :: xs, y :: ys, h, q, hq => by
    simp only [alikes, Bool.and_eq_true] at h
    rw [List.zip_cons_cons] at hq
    rcases List.mem_cons.mp hq with rfl | hq
    · exact h.1
    · exact alikes_get h.2 q hq
  | [], _ :: _, h, _, _ => by simp [alikes] at h
  | _ :: _, [], h, _, _ => by simp [alikes] at h
mutual
theorem alike_refl {l : Bool} : ∀ {d : D}, d.plain = true → alike l d d = true
  | .non, _ => by simp [alike]
  | .bl _, _ => by simp [alike]
  | .int _, _ => by simp [alike]
  | .str _, _ => by simp [alike]
  | .lst xs, h => by simp only [alike]; exact alikes_refl (by simpa [D.plain] using h)
  | .tup xs, h => by simp only [alike]; exact alikes_refl (by simpa [D.plain] using h)
  | .dct _, h => by cases h
  | .ins _ _, h => by cases h
  | .arg _, h => by cases h
theorem alikes_refl {l : Bool} : ∀ {xs : List D}, D.plains xs = true → alikes l xs xs = true
  | [], _ => by simp [alikes]
  | x :: xs, h => by
    simp only [D.plains, Bool.and_eq_true] at h
    simp only [alikes, Bool.and_eq_true]
    exact ⟨alike_refl h.1, alikes_refl h.2⟩
end
theorem alike_listify : ∀ {n : Nat} {d : D}, d.plain = true → alike true d (listify n d) = true
  | 0, d, h => by simp only [listify]; exact alike_refl h
  | n + 1, .non, _ => by simp [listify, alike]
  | n + 1, .bl _, _ => by simp [listify, alike]
  | n + 1, .int _, _ => by simp [listify, alike]
  | n + 1, .str _, _ => by simp [listify, alike]
  | n + 1, .lst xs, h => by
    simp only [listify, alike]
    have : ∀ ys : List D, D.plains ys = true → alikes true ys (ys.map (listify n)) = true := fun ys => by
      induction ys with
      | nil => intro _; simp [alikes]
      | cons y ys ih =>
        intro h
        simp only [D.plains, Bool.and_eq_true] at h
        simp only [List.map_cons, alikes, Bool.and_eq_true]
        exact ⟨alike_listify h.1, ih h.2⟩
    exact this xs (by simpa [D.plain] using h)
  | n + 1, .tup xs, h => by
    simp only [listify, alike, Bool.true_and]
    have : ∀ ys : List D, D.plains ys = true → alikes true ys (ys.map (listify n)) = true := fun ys => by
      induction ys with
      | nil => intro _; simp [alikes]
      | cons y ys ih =>
        intro h
        simp only [D.plains, Bool.and_eq_true] at h
        simp only [List.map_cons, alikes, Bool.and_eq_true]
        exact ⟨alike_listify h.1, ih h.2⟩
    exact this xs (by simpa [D.plain] using h)
  | _ + 1, .dct _, h => by cases h
  | _ + 1, .ins _ _, h => by cases h
  | _ + 1, .arg _, h => by cases h
mutual
def txts : D → Bool
  | .str s => PyData.strOk s
  | .lst xs => txtss xs
  | .tup xs => txtss xs
  | _ => true
def txtss : List D → Bool
  | [] => true
  | x :: xs => txts x && txtss xs
end
theorem txtss_all : ∀ {xs : List D}, txtss xs = true ↔ ∀ x ∈ xs, txts x = true
  | [] => by simp [txtss]
  | x :: xs => by simp [txtss, txtss_all (xs := xs)]
abbrev PL := List (D × D)
def pD (L : PL) : List D := L.map fun q => .tup [q.1, q.2]
structure PLok (l : Bool) (L : PL) : Prop where
  al : ∀ q ∈ L, alike l q.1 q.2 = true
  p1 : ∀ q ∈ L, q.1.plain = true
  p2 : ∀ q ∈ L, q.2.plain = true
  t1 : ∀ q ∈ L, txts q.1 = true
  t2 : ∀ q ∈ L, txts q.2 = true
def wt (L : PL) : Nat := (L.map fun q => q.1.cnt).sum
theorem wt_app {L M : PL} : wt (L ++ M) = wt L + wt M := by simp [wt]
theorem wt_len (L : PL) : L.length ≤ wt L := by
  induction L with
  | nil => simp [wt]
  | cons q L ih => have := q.1.cnt_pos; simp only [wt, List.map_cons, List.sum_cons, List.length_cons] at *; omega
theorem wt_zip : ∀ {xs ys : List D}, xs.length = ys.length → wt (xs.zip ys) = D.cnts xs
  | [], [], _ => rfl
  | x :: xs, y :: ys, h => by
    have := wt_zip (xs := xs) (ys := ys) (by simpa using h)
    simp only [wt, List.zip_cons_cons, List.map_cons, List.sum_cons, D.cnts] at *
    omega
  | [], _ :: _, h => by simp at h
  | _ :: _, [], h => by simp at h
def FL (kL : Nat) (L : PL) : Prop := kL = 1 ∨ (kL = 10 ∧ ∀ q ∈ L, q.1.flat = true ∧ q.2.flat = true)
theorem FL.sub {kL : Nat} {L M : PL} (h : FL kL L) (hs : ∀ q ∈ M, q ∈ L) : FL kL M := h.imp id fun ⟨e, z⟩ => ⟨e, fun q hq => z q (hs q hq)⟩
def pushB : CSs := .cons (.exp (.mut "append" (.var 3) (.cons (.tup (.cons (.sub (.fz 4 1) (.var 9)) (.cons (.sub (.fz 5 1) (.var 9)) .nil))) .nil))) .nil
section
variable {p : Pg} {n : Nat}
def itemsD : D → List D
  | .lst xs => xs
  | .tup xs => xs
  | _ => []
theorem items_row {a : D} {xs : List D} (h : rowOf a = some xs) : a = .lst xs ∨ a = .tup xs := by
  cases a with
  | lst ys => cases h; exact .inl rfl
  | tup ys => cases h; exact .inr rfl
  | _ => cases h
theorem push_loop {a b : D} {xs ys : List D} (ha : rowOf a = some xs) (hb : rowOf b = some ys) (hl : xs.length = ys.length) {e0 e1 e2 e6 e7 e8 : Option (Nat × D)} : ∀ (i : Nat) (kL : Nat) (L : PL) (o : Option (Nat × D)) (M : List (D × D)), FL kL L → M = (xs.zip ys).drop i → i + M.length = xs.length → L.length + M.length ≤ 16777216 → ∃ o' kL', FL kL' (L ++ M) ∧
    forS (p.sm n) (.name 9) pushB [] (.own 9) ((M.zipIdx i).map fun q => .int q.2) [e0, e1, e2, some (kL, .lst (pD L)), some (kOf a, a), some (kOf b, b), e6, e7, e8, o] = .nx [e0, e1, e2, some (kL', .lst (pD (L ++ M))), some (kOf a, a), some (kOf b, b), e6, e7, e8, o']
  | i, kL, L, o, [], hkL, _, _, _ => ⟨o, kL, by simpa using hkL, by simp [forS_nil]⟩
  | i, kL, L, o, q :: M, hkL, hM, hi, hz => by
    rw [List.length_cons] at hi hz
    have hq : (xs.zip ys)[i]? = some q := by
      have := congrArg List.head? hM
      rw [List.head?_drop] at this
      exact this.symm
    rw [List.getElem?_zip_eq_some] at hq
    obtain ⟨hx, hy⟩ := hq
    obtain ⟨o', kL', hkL', ih⟩ := push_loop ha hb hl (e0 := e0) (e1 := e1) (e2 := e2) (e6 := e6) (e7 := e7) (e8 := e8) (i + 1) (if q.1.flat && q.2.flat then kL else 1) (L ++ [q]) (some (9, .int i)) M (by
      by_cases hc : (q.1.flat && q.2.flat) = true
      · rw [if_pos hc]
        rw [Bool.and_eq_true] at hc
        exact hkL.imp id fun ⟨e, z⟩ => ⟨e, fun x hx => (List.mem_append.mp hx).elim (z x) fun y => by rw [List.mem_singleton.mp y]; exact hc⟩
      · rw [if_neg hc]; exact .inl rfl) (by rw [← List.drop_drop, ← hM]; rfl) (by omega) (by simp; omega)
    refine ⟨o', kL', by simpa [List.append_assoc] using hkL', ?_⟩
    rw [List.append_assoc] at ih
    rw [List.zipIdx_cons, List.map_cons, forS_cons]
    refine Eq.trans ?_ ih
    have hpl : (pD L).length = L.length := by simp [pD]
    have hpa : pD (L ++ [q]) = pD L ++ [.tup [q.1, q.2]] := by simp [pD]
    have fx : D.flats xs = true → q.1.flat = true := fun h => flats_mem h (List.mem_of_getElem? hx)
    have fy : D.flats ys = true → q.2.flat = true := fun h => flats_mem h (List.mem_of_getElem? hy)
    rcases hkL with rfl | ⟨rfl, _⟩ <;> rcases items_row ha with rfl | rfl <;> rcases items_row hb with rfl | rfl
    · cases h1 : q.1.flat <;> cases h2 : q.2.flat <;> (simp! only [pushB, kOf, hx, hy, h1, h2, hpl, hpa])
    · cases h3 : D.flats ys <;> cases h1 : q.1.flat <;> cases h2 : q.2.flat <;> first | exact absurd ((fy h3).symm.trans h2) (by decide) | (simp! only [pushB, kOf, hx, hy, h1, h2, h3, hpl, hpa])
    · cases h3 : D.flats xs <;> cases h1 : q.1.flat <;> cases h2 : q.2.flat <;> first | exact absurd ((fx h3).symm.trans h1) (by decide) | (simp! only [pushB, kOf, hx, hy, h1, h2, h3, hpl, hpa])
    · cases h3 : D.flats xs <;> cases h4 : D.flats ys <;> cases h1 : q.1.flat <;> cases h2 : q.2.flat <;> first | exact absurd ((fx h3).symm.trans h1) (by decide) | exact absurd ((fy h4).symm.trans h2) (by decide) | (simp! only [pushB, kOf, hx, hy, h1, h2, h3, h4, hpl, hpa])
    · cases h1 : q.1.flat <;> cases h2 : q.2.flat <;> (simp! only [pushB, kOf, hx, hy, h1, h2, hpl, hpa])
    · cases h3 : D.flats ys <;> cases h1 : q.1.flat <;> cases h2 : q.2.flat <;> first | exact absurd ((fy h3).symm.trans h2) (by decide) | (simp! only [pushB, kOf, hx, hy, h1, h2, h3, hpl, hpa])
    · cases h3 : D.flats xs <;> cases h1 : q.1.flat <;> cases h2 : q.2.flat <;> first | exact absurd ((fx h3).symm.trans h1) (by decide) | (simp! only [pushB, kOf, hx, hy, h1, h2, h3, hpl, hpa])
    · cases h3 : D.flats xs <;> cases h4 : D.flats ys <;> cases h1 : q.1.flat <;> cases h2 : q.2.flat <;> first | exact absurd ((fx h3).symm.trans h1) (by decide) | exact absurd ((fy h4).symm.trans h2) (by decide) | (simp! only [pushB, kOf, hx, hy, h1, h2, h3, h4, hpl, hpa])
theorem zip_rng {α : Type} (M : List α) : ((M.zipIdx 0).map fun q => D.int q.2) = (rngL 0 M.length).map .int := by
  apply List.ext_getElem?
  intro i
  rw [List.getElem?_map, List.getElem?_map, List.getElem?_zipIdx]
  by_cases h : i < M.length
  · rw [List.getElem?_eq_getElem h, rngL_get (by omega)]; simp
  · rw [List.getElem?_eq_none (by omega), List.getElem?_eq_none (by rw [rngL_len]; omega)]; rfl
def kids (a b : D) : PL := (itemsD a).zip (itemsD b)
def sameC : CE := .cmp .Gt (.bi "len" (.cons (.var 3) .nil)) (.int 0)
def sameB : CSs := (.cons (.unp (.two (.name 4) (.name 5)) (.mut "pop" (.var 3) .nil)) (.cons (.set 6 (.fn "_law_kind" (.cons (.var 5) .nil))) (.cons (.set 7 (.fn "_law_kind" (.cons (.var 4) .nil))) (.cons (.ite (.and (.var 2) (.cmp .Eq (.var 7) (.int 5))) (.cons (.set 7 (.int 4)) .nil) .nil) (.cons (.ite (.and (.var 2) (.cmp .Eq (.var 6) (.int 5))) (.cons (.set 6 (.int 4)) .nil) .nil) (.cons (.ite (.or (.cmp .NotEq (.var 6) (.var 7)) (.cmp .Eq (.var 6) (.int 7))) (.cons (.ret (.bl false)) .nil) .nil) (.cons (.ite (.and (.cmp .Lt (.var 6) (.int 4)) (.and (.cmp .Gt (.var 6) (.int 0)) (.cmp .NotEq (.var 4) (.var 5)))) (.cons (.ret (.bl false)) .nil) .nil) (.cons (.ite (.and (.cmp .Gt (.var 6) (.int 3)) (.cmp .NotEq (.bi "len" (.cons (.var 4) .nil)) (.bi "len" (.cons (.var 5) .nil)))) (.cons (.ret (.bl false)) .nil) .nil) (.cons (.ite (.cmp .Eq (.var 6) (.int 6)) (.cons .bad .nil) (.cons (.ite (.cmp .Gt (.var 6) (.int 3)) (.cons (.for (.name 9) (.rng (.bi "len" (.cons (.var 5) .nil))) pushB) .nil) .nil) .nil)) .nil)))))))))
def envS (kL : Nat) (l : Bool) (L : PL) (o4 o5 o6 o7 o8 o9 : Option (Nat × D)) : Env := [none, none, some (0, .bl l), some (kL, .lst (pD L)), o4, o5, o6, o7, o8, o9]
theorem same_row (hk : Has p fd_law_kind) {l : Bool} {a b : D} {xs ys : List D} (ha : rowOf a = some xs) (hb : rowOf b = some ys) (pa : a.plain = true) (pb : b.plain = true) (hl : xs.length = ys.length) (hl2 : l = true ∨ kindD a = kindD b) {L : PL} (hz : L.length + xs.length ≤ 1000000) {fuel kL : Nat} (hkL : FL kL (L ++ [(a, b)])) {o4 o5 o6 o7 o8 o9 : Option (Nat × D)} :
    ∃ kL' o6' o7' o9', FL kL' (L ++ xs.zip ys) ∧ whlNS (p.sm (n + 1)) sameC sameB [] (fuel + 1) (envS kL l (L ++ [(a, b)]) o4 o5 o6 o7 o8 o9) = whlNS (p.sm (n + 1)) sameC sameB [] fuel (envS kL' l (L ++ xs.zip ys) (some (kOf a, a)) (some (kOf b, b)) o6' o7' o8 o9') := by
  have hk1 := kind_call (n := n) hk pa
  have hk2 := kind_call (n := n) hk pb
  have ik : p.ino "_law_kind" = false := hk.ino
  have hpl : (pD L).length = L.length := by simp [pD]
  have hpa : pD (L ++ [(a, b)]) = pD L ++ [.tup [a, b]] := by simp [pD]
  have hzl : (xs.zip ys).length = ys.length := by rw [List.length_zip]; omega
  obtain ⟨o', kL', hkL', hp⟩ := push_loop (p := p) (n := n + 1) ha hb hl (e0 := none) (e1 := none) (e2 := some (0, .bl l)) (e6 := some (9, .int 4)) (e7 := some (9, .int 4)) (e8 := o8) 0 kL L o9 (xs.zip ys) (hkL.sub fun q hq => List.mem_append_left _ hq) rfl (by rw [hzl]; omega) (by rw [hzl]; omega)
  obtain ⟨o'', kL'', hkL'', hp5⟩ := push_loop (p := p) (n := n + 1) ha hb hl (e0 := none) (e1 := none) (e2 := some (0, .bl l)) (e6 := some (9, .int 5)) (e7 := some (9, .int 5)) (e8 := o8) 0 kL L o9 (xs.zip ys) (hkL.sub fun q hq => List.mem_append_left _ hq) rfl (by rw [hzl]; omega) (by rw [hzl]; omega)
  rw [zip_rng, hzl] at hp hp5
  have h0 : (0 : Int) < L.length + 1 := by omega
  rw [whlNS_succ]
  unfold envS sameC
  unfold sameB
  unfold pushB at hp hp5
  have hab : kL = 10 → a.flat = true ∧ b.flat = true := fun e => by
    rcases hkL with rfl | ⟨_, z⟩
    · cases e
    · exact z (a, b) (List.mem_append_right _ List.mem_cons_self)
  have hk10 : kL = 1 ∨ kL = 10 := hkL.imp id fun z => z.1
  have kl : ∀ zs : List D, kOf (.lst zs) = 0 := fun _ => rfl
  have kt : ∀ zs : List D, kOf (.tup zs) = if D.flats zs then 9 else 0 := fun _ => rfl
  rcases items_row ha with rfl | rfl <;> rcases items_row hb with rfl | rfl <;> cases ha <;> cases hb
  · refine ⟨kL', some (9, .int 4), some (9, .int 4), o', hkL', ?_⟩
    simp only [kl] at hp ⊢
    cases l <;> rcases hk10 with rfl | rfl <;> first | (refine absurd (hab rfl).1 ?_; simp [D.flat]; done) | (simp! only [hpl, hpa, ik, hk1, hk2, kindD, pushB, hl, hp])
  · obtain rfl : l = true := hl2.resolve_right (by simp [kindD])
    refine ⟨kL', some (9, .int 4), some (9, .int 4), o', hkL', ?_⟩
    simp only [kl, kt] at hp ⊢
    cases hg : D.flats ys <;> simp only [hg, Bool.false_eq_true, if_false, if_true] at hp ⊢ <;> rcases hk10 with rfl | rfl <;> first | (refine absurd (hab rfl).1 ?_; simp [D.flat]; done) | (refine absurd (hab rfl).2 ?_; simp [D.flat, hg]; done) | (simp! only [hpl, hpa, ik, hk1, hk2, kindD, pushB, hl, hp, hg])
  · obtain rfl : l = true := hl2.resolve_right (by simp [kindD])
    refine ⟨kL', some (9, .int 4), some (9, .int 4), o', hkL', ?_⟩
    simp only [kl, kt] at hp ⊢
    cases hf : D.flats xs <;> simp only [hf, Bool.false_eq_true, if_false, if_true] at hp ⊢ <;> rcases hk10 with rfl | rfl <;> first | (refine absurd (hab rfl).1 ?_; simp [D.flat, hf]; done) | (refine absurd (hab rfl).2 ?_; simp [D.flat]; done) | (simp! only [hpl, hpa, ik, hk1, hk2, kindD, pushB, hl, hp, hf])
  · cases l
    · refine ⟨kL'', some (9, .int 5), some (9, .int 5), o'', hkL'', ?_⟩
      simp only [kl, kt] at hp5 ⊢
      cases hf : D.flats xs <;> cases hg : D.flats ys <;> simp only [hf, hg, Bool.false_eq_true, if_false, if_true] at hp5 ⊢ <;> rcases hk10 with rfl | rfl <;> first | (refine absurd (hab rfl).1 ?_; simp [D.flat, hf]; done) | (refine absurd (hab rfl).2 ?_; simp [D.flat, hg]; done) | (simp! only [hpl, hpa, ik, hk1, hk2, kindD, pushB, hl, hp5, hf, hg])
    · refine ⟨kL', some (9, .int 4), some (9, .int 4), o', hkL', ?_⟩
      simp only [kl, kt] at hp ⊢
      cases hf : D.flats xs <;> cases hg : D.flats ys <;> simp only [hf, hg, Bool.false_eq_true, if_false, if_true] at hp ⊢ <;> rcases hk10 with rfl | rfl <;> first | (refine absurd (hab rfl).1 ?_; simp [D.flat, hf]; done) | (refine absurd (hab rfl).2 ?_; simp [D.flat, hg]; done) | (simp! only [hpl, hpa, ik, hk1, hk2, kindD, pushB, hl, hp, hf, hg])
theorem same_atom (hk : Has p fd_law_kind) {l : Bool} {a b : D} (ha : rowOf a = none) (hb : rowOf b = none) (pa : a.plain = true) (pb : b.plain = true) (al : alike l a b = true) (ta : txts a = true) {L : PL} {fuel kL : Nat} (hkL : FL kL (L ++ [(a, b)])) {o4 o5 o6 o7 o8 o9 : Option (Nat × D)} :
    ∃ o6' o7', whlNS (p.sm (n + 1)) sameC sameB [] (fuel + 1) (envS kL l (L ++ [(a, b)]) o4 o5 o6 o7 o8 o9) = whlNS (p.sm (n + 1)) sameC sameB [] fuel (envS kL l L (some (9, a)) (some (9, b)) o6' o7' o8 o9) := by
  have hk1 := kind_call (n := n) hk pa
  have hk2 := kind_call (n := n) hk pb
  have ik : p.ino "_law_kind" = false := hk.ino
  have hpl : (pD L).length = L.length := by simp [pD]
  have hpa : pD (L ++ [(a, b)]) = pD L ++ [.tup [a, b]] := by simp [pD]
  rw [whlNS_succ]
  unfold envS sameC
  unfold sameB
  cases a <;> cases b <;> simp only [alike, beq_iff_eq, Bool.false_eq_true] at al <;> first | cases ha | cases hb | skip
  · exact ⟨some (9, .int 0), some (9, .int 0), by cases l <;> rcases hkL with rfl | ⟨rfl, _⟩ <;> (simp! only [hpl, hpa, ik, hk1, hk2, kindD, pushB])⟩
  · subst al
    exact ⟨some (9, .int 1), some (9, .int 1), by cases l <;> rcases hkL with rfl | ⟨rfl, _⟩ <;> (simp! only [hpl, hpa, ik, hk1, hk2, kindD, pushB, eqV_bl])⟩
  · subst al
    exact ⟨some (9, .int 2), some (9, .int 2), by cases l <;> rcases hkL with rfl | ⟨rfl, _⟩ <;> (simp! only [hpl, hpa, ik, hk1, hk2, kindD, pushB])⟩
  · subst al
    have := eqV_str ta ta
    exact ⟨some (9, .int 3), some (9, .int 3), by cases l <;> rcases hkL with rfl | ⟨rfl, _⟩ <;> (simp! only [hpl, hpa, ik, hk1, hk2, kindD, pushB, this])⟩
theorem alike_row {l : Bool} {a b : D} {xs : List D} (h : alike l a b = true) (ha : rowOf a = some xs) : ∃ ys, rowOf b = some ys ∧ alikes l xs ys = true ∧ (l = true ∨ kindD a = kindD b) := by
  rcases items_row ha with rfl | rfl <;> cases b with
  | lst ys => simp only [alike, Bool.and_eq_true] at h; cases ha; first | exact ⟨ys, rfl, h, .inr rfl⟩ | exact ⟨ys, rfl, h.2, .inl h.1⟩
  | tup ys => simp only [alike, Bool.and_eq_true] at h; cases ha; first | exact ⟨ys, rfl, h, .inr rfl⟩ | exact ⟨ys, rfl, h.2, .inl h.1⟩
  | _ => simp [alike] at h
theorem alike_atom {l : Bool} {a b : D} (h : alike l a b = true) (ha : rowOf a = none) : rowOf b = none := by
  cases a <;> cases b <;> first | rfl | (simp [alike] at h; done) | (cases ha; done)
theorem txts_row {a : D} {xs : List D} (ha : rowOf a = some xs) (h : txts a = true) : ∀ x ∈ xs, txts x = true := by
  rcases items_row ha with rfl | rfl <;> cases ha <;> exact txtss_all.mp (by simpa [txts] using h)
theorem same_loop (hk : Has p fd_law_kind) {l : Bool} : ∀ (m : Nat) (kL : Nat) (L : PL), FL kL L → wt L ≤ m → PLok l L → wt L ≤ 900000 → ∀ o4 o5 o6 o7 o8 o9, ∃ e', whlNS (p.sm (n + 1)) sameC sameB [] (m + 1) (envS kL l L o4 o5 o6 o7 o8 o9) = .nx e' := by
  intro m
  induction m with
  | zero =>
    intro kL L hkL hw _ _ o4 o5 o6 o7 o8 o9
    have : L.length = 0 := by have := wt_len L; omega
    obtain rfl := List.length_eq_zero_iff.mp this
    refine ⟨envS kL l [] o4 o5 o6 o7 o8 o9, ?_⟩
    rw [whlNS_succ]
    rcases hkL with rfl | ⟨rfl, _⟩ <;> (simp! only [envS, sameC, pD])
  | succ m ih =>
    intro kL L hkL hw ok hb o4 o5 o6 o7 o8 o9
    rcases List.eq_nil_or_concat L with rfl | ⟨L', q, rfl⟩
    · refine ⟨envS kL l [] o4 o5 o6 o7 o8 o9, ?_⟩
      rw [whlNS_succ]
      rcases hkL with rfl | ⟨rfl, _⟩ <;> (simp! only [envS, sameC, pD])
    · obtain ⟨a, b⟩ := q
      rw [List.concat_eq_append] at *
      have hmem : (a, b) ∈ L' ++ [(a, b)] := List.mem_append_right _ List.mem_cons_self
      have hsub : ∀ q ∈ L', q ∈ L' ++ [(a, b)] := fun q hq => List.mem_append_left _ hq
      have hwt : wt (L' ++ [(a, b)]) = wt L' + a.cnt := by rw [wt_app]; simp [wt]
      have hcp := a.cnt_pos
      have hll := wt_len L'
      have okL : PLok l L' := ⟨fun q hq => ok.al q (hsub q hq), fun q hq => ok.p1 q (hsub q hq), fun q hq => ok.p2 q (hsub q hq), fun q hq => ok.t1 q (hsub q hq), fun q hq => ok.t2 q (hsub q hq)⟩
      cases ha : rowOf a with
      | none =>
        obtain ⟨o6', o7', e⟩ := same_atom (n := n) hk (l := l) ha (alike_atom (ok.al _ hmem) ha) (ok.p1 _ hmem) (ok.p2 _ hmem) (ok.al _ hmem) (ok.t1 _ hmem) (L := L') (fuel := m + 1) hkL (o4 := o4) (o5 := o5) (o6 := o6) (o7 := o7) (o8 := o8) (o9 := o9)
        rw [e]
        exact ih kL L' (hkL.sub hsub) (by omega) okL (by omega) _ _ _ _ _ _
      | some xs =>
        obtain ⟨ys, hbr, hal, hl2⟩ := alike_row (ok.al _ hmem) ha
        have hlen := alikes_len hal
        have hc := rowOf_cnt ha
        have hxl := D.cnts_len xs
        obtain ⟨kL', o6', o7', o9', hkL', e⟩ := same_row (n := n) hk (l := l) ha hbr (ok.p1 _ hmem) (ok.p2 _ hmem) hlen hl2 (L := L') (by omega) (fuel := m + 1) hkL (o4 := o4) (o5 := o5) (o6 := o6) (o7 := o7) (o8 := o8) (o9 := o9)
        rw [e]
        have hwz := wt_zip hlen
        have hpx := D.plains_all.mp (rowOf_plain ha (ok.p1 _ hmem))
        have hpy := D.plains_all.mp (rowOf_plain hbr (ok.p2 _ hmem))
        have htx := txts_row ha (ok.t1 _ hmem)
        have hty := txts_row hbr (ok.t2 _ hmem)
        refine ih kL' (L' ++ xs.zip ys) hkL' (by rw [wt_app]; omega) ⟨fun q hq => ?_, fun q hq => ?_, fun q hq => ?_, fun q hq => ?_, fun q hq => ?_⟩ (by rw [wt_app]; omega) _ _ _ _ _ _ <;> rcases List.mem_append.mp hq with hq | hq
        · exact okL.al q hq
        · exact alikes_get hal q hq
        · exact okL.p1 q hq
        · exact hpx _ (List.of_mem_zip hq).1
        · exact okL.p2 q hq
        · exact hpy _ (List.of_mem_zip hq).2
        · exact okL.t1 q hq
        · exact htx _ (List.of_mem_zip hq).1
        · exact okL.t2 q hq
        · exact hty _ (List.of_mem_zip hq).2
theorem same_call (h : Has p fd_law_same) (hk : Has p fd_law_kind) (hw : p.whl = whlC) {l : Bool} {a b : D} (al : alike l a b = true) (pa : a.plain = true) (pb : b.plain = true) (ta : txts a = true) (tb : txts b = true) (hc : a.cnt ≤ 900000) :
    p.callN (n + 2) "_law_same" [(0, a), (0, b), (0, .bl l)] = .ok 9 (.bl true) none := by
  refine (h.call (n + 1) _ rfl).trans ?_
  obtain ⟨e', he⟩ := same_loop (p := p) (n := n) hk (l := l) a.cnt (if a.flat && b.flat then 10 else 1) [(a, b)] (by
    by_cases hc : (a.flat && b.flat) = true
    · rw [if_pos hc]
      rw [Bool.and_eq_true] at hc
      exact .inr ⟨rfl, fun q hq => by rw [List.mem_singleton.mp hq]; exact hc⟩
    · rw [if_neg hc]; exact .inl rfl) (by simp [wt]) ⟨by simpa using al, by simpa using pa, by simpa using pb, by simpa using ta, by simpa using tb⟩ (by simpa [wt] using hc) none none none none none none
  have hwS := whl_of (Γ := p.sm (n + 1)) hw he (by simp)
  simp only [envS, pD, List.map_cons, List.map_nil, sameC, sameB, pushB] at hwS
  cases hf : a.flat <;> cases hg : b.flat <;> simp only [hf, hg, Bool.and_self, Bool.and_false, Bool.false_and, Bool.false_eq_true, if_false, if_true] at hwS <;> (simp! only [fd_law_same, hf, hg, hwS])
end
end VI.P
set_option autoImplicit true
set_option Elab.async false
set_option linter.all false
set_option maxRecDepth 100000
set_option maxHeartbeats 4000000
namespace VI.P
open PySem PySem.Spec PyProof.Rows L2
section
variable {Γ : Sm} {g : CT} {ss : CSs} {bs : List Nat} {t : Tg} {α S J : Type}
theorem loop_find (inj : α → D) (env : J → Env) (f : α → Option D) (K : Nat) : ∀ (xs : List α) (_ : ∀ x ∈ xs, ∀ j, (f x = none → ∃ j', forB Γ g ss bs (nrm t (inj x), inj x) (env j) = .nx (env j')) ∧ ∀ d, f x = some d → ∃ e', forB Γ g ss bs (nrm t (inj x), inj x) (env j) = .rt K d e') (j : J),
    (xs.findSome? f = none → ∃ j', forS Γ g ss bs t (xs.map inj) (env j) = .nx (env j')) ∧ ∀ d, xs.findSome? f = some d → ∃ e', forS Γ g ss bs t (xs.map inj) (env j) = .rt K d e'
  | [], _, j => ⟨fun _ => ⟨j, by rw [List.map_nil, forS_nil]⟩, fun d h => by simp at h⟩
  | x :: xs, step, j => by
    obtain ⟨h1, h2⟩ := step x List.mem_cons_self j
    cases hx : f x with
    | none =>
      obtain ⟨j1, e1⟩ := h1 hx
      have ih := loop_find inj env f K xs (fun y hy => step y (List.mem_cons_of_mem _ hy)) j1
      rw [List.findSome?_cons_of_isNone (by rw [hx]; rfl), List.map_cons, forS_cons, e1, kTurnn]
      exact ih
    | some d =>
      obtain ⟨e', e1⟩ := h2 d hx
      rw [List.findSome?_cons_of_isSome (by rw [hx]; rfl), List.map_cons, forS_cons, e1, kTurnr, hx]
      exact ⟨fun z => by simp at z, fun d' z => ⟨e', by cases z; rfl⟩⟩
theorem loop_fold (inj : α → D) (env : S → J → Env) (f : S → α → S) (P : S → Prop) : ∀ (xs : List α) (_ : ∀ x ∈ xs, ∀ s j, P s → P (f s x) ∧ ∃ j', forB Γ g ss bs (nrm t (inj x), inj x) (env s j) = .nx (env (f s x) j')) (s : S) (j : J), P s →
    P (xs.foldl f s) ∧ ∃ j', forS Γ g ss bs t (xs.map inj) (env s j) = .nx (env (xs.foldl f s) j')
  | [], _, s, j, hs => ⟨hs, j, by rw [List.map_nil, forS_nil]; rfl⟩
  | x :: xs, step, s, j, hs => by
    obtain ⟨h1, j1, e1⟩ := step x List.mem_cons_self s j hs
    obtain ⟨h2, j2, e2⟩ := loop_fold inj env f P xs (fun y hy => step y (List.mem_cons_of_mem _ hy)) (f s x) j1 h1
    refine ⟨h2, j2, ?_⟩
    rw [List.map_cons, forS_cons, e1, kTurnn]
    exact e2
end
section
variable {Γ : Sm} {g : CT} {ss : CSs} {bs : List Nat} {t : Tg} {α J : Type}
theorem loop_inv (inj : α → D) (env : J → Env) (I : J → Prop) : ∀ (xs : List α) (_ : ∀ x ∈ xs, ∀ j, I j → ∃ j', I j' ∧ forB Γ g ss bs (nrm t (inj x), inj x) (env j) = .nx (env j')) (j : J), I j → ∃ j', I j' ∧ forS Γ g ss bs t (xs.map inj) (env j) = .nx (env j')
  | [], _, j, hj => ⟨j, hj, by rw [List.map_nil, forS_nil]⟩
  | x :: xs, step, j, hj => by
    obtain ⟨j1, h1, e1⟩ := step x List.mem_cons_self j hj
    obtain ⟨j2, h2, e2⟩ := loop_inv inj env I xs (fun y hy => step y (List.mem_cons_of_mem _ hy)) j1 h1
    refine ⟨j2, h2, ?_⟩
    rw [List.map_cons, forS_cons, e1, kTurnn]
    exact e2
end
section
variable {Γ : Sm} {el cc : CE} {g : CT} {vs bs : List Nat} {t : Tg} {α : Type}
def ownI (ns : List Int) : List (Tg × D) := ns.map fun n => (Tg.own 9, .int n)
theorem ownI_minK (ns : List Int) : minK (ownI ns) = some 9 := by induction ns with | nil => rfl | cons n ns ih => simp only [ownI] at ih; simp [ownI, minK, ih, D.flat]
theorem ownI_map (ns : List Int) : (ownI ns).map (·.2) = ns.map .int := by simp [ownI]
theorem ownI_len (ns : List Int) : (ownI ns).length = ns.length := by simp [ownI]
theorem lc_ints (inj : α → D) (e : Env) (f : α → Int) : ∀ (xs : List α) (_ : ∀ x ∈ xs, lcB Γ el g cc vs bs (nrm t (inj x), inj x) e = .ok (some (.own 9, .int (f x)), e)), lcS Γ el g cc vs bs t (xs.map inj) e = .ok (ownI (xs.map f), e)
  | [], _ => by rw [List.map_nil, lcS_nil]; rfl
  | x :: xs, step => by
    have ih := lc_ints inj e f xs fun y hy => step y (List.mem_cons_of_mem _ hy)
    rw [List.map_cons, lcS_cons, step x List.mem_cons_self, kLcTs, ih]
    rfl
theorem lc_intsJ {J : Type} (inj : α → D) (env : J → Env) (f : α → Int) : ∀ (xs : List α) (_ : ∀ x ∈ xs, ∀ j, ∃ j', lcB Γ el g cc vs bs (nrm t (inj x), inj x) (env j) = .ok (some (.own 9, .int (f x)), env j')) (j : J), ∃ j', lcS Γ el g cc vs bs t (xs.map inj) (env j) = .ok (ownI (xs.map f), env j')
  | [], _, j => ⟨j, by rw [List.map_nil, lcS_nil]; rfl⟩
  | x :: xs, step, j => by
    obtain ⟨j1, e1⟩ := step x List.mem_cons_self j
    obtain ⟨j2, ih⟩ := lc_intsJ inj env f xs (fun y hy => step y (List.mem_cons_of_mem _ hy)) j1
    refine ⟨j2, ?_⟩
    rw [List.map_cons, lcS_cons, e1, kLcTs, ih]
    rfl
end
def gI (l : List Int) (i : Int) : Int := l.getD i.toNat 0
theorem gI_at {l : List Int} {i : Int} (h0 : 0 ≤ i) (h : i < l.length) : l[i.toNat]? = some (gI l i) := by
  unfold gI
  rw [List.getD_eq_getElem?_getD, List.getElem?_eq_getElem (by omega)]; rfl
end VI.P
set_option autoImplicit true
set_option Elab.async false
set_option linter.all false
set_option maxRecDepth 100000
set_option maxHeartbeats 8000000
namespace VI25
open PySem VI
def fdis_whole : Fd := ⟨"is_whole", 1, 1, false, (.cons (.ret (.and (.isi (.var 0) ["int"]) (.not (.isi (.var 0) ["bool"])))) .nil)⟩
def nmis_whole : List Str := ["value"]
def fdis_thing : Fd := ⟨"is_thing", 2, 2, false, (.cons (.ret (.and (.fn "is_whole" (.cons (.var 1) .nil)) (.chn .LtE .Lt (.int 0) (.var 1) (.var 0)))) .nil)⟩
def nmis_thing : List Str := ["things", "value"]
def fdneed_things : Fd := ⟨"need_things", 1, 1, false, (.cons (.ite (.or (.not (.fn "is_whole" (.cons (.var 0) .nil))) (.not (.chn .LtE .LtE (.int 1) (.var 0) (.int 12)))) (.cons (.rai "BadNumber" (.cons (.str "things") .nil)) .nil) .nil) .nil)⟩
def nmneed_things : List Str := ["things"]
def fdneed_all : Fd := ⟨"need_all", 3, 5, false, (.cons (.ite (.or (.not (.isi (.var 1) ["list", "tuple"])) (.cmp .NotEq (.bi "len" (.cons (.var 1) .nil)) (.var 0))) (.cons (.rai "BadRow" (.cons (.mv 2) .nil)) .nil) .nil) (.cons (.set 3 (.bin .Mult (.lst (.cons (.bl false) .nil)) (.fz 0 1))) (.cons (.for (.name 4) (.seq (.fz 1 1)) (.cons (.ite (.or (.not (.fn "is_thing" (.cons (.var 0) (.cons (.var 4) .nil)))) (.sub (.var 3) (.var 4))) (.cons (.rai "BadRow" (.cons (.mv 2) .nil)) .nil) .nil) (.cons (.six (.var 3) (.var 4) (.bl true)) .nil))) .nil)))⟩
def nmneed_all : List Str := ["things", "row", "what", "seen", "item"]
def fdis_peaked : Fd := ⟨"is_peaked", 3, 7, false, (.cons (.exp (.fn "need_things" (.cons (.var 0) .nil))) (.cons (.exp (.fn "need_all" (.cons (.var 0) (.cons (.var 1) (.cons (.str "order") .nil))))) (.cons (.exp (.fn "need_all" (.cons (.var 0) (.cons (.var 2) (.cons (.str "line") .nil))))) (.cons (.set2 3 4 (.met "index" (.var 2) (.cons (.sub (.var 1) (.int 0)) .nil))) (.cons (.for (.name 5) (.seq (.slc (.fz 1 1) (.int 1) .nop)) (.cons (.set 6 (.met "index" (.var 2) (.cons (.var 5) .nil))) (.cons (.ite (.cmp .Eq (.var 6) (.bin .Sub (.var 3) (.int 1))) (.cons (.set 3 (.mv 6)) .nil) (.cons (.ite (.cmp .Eq (.var 6) (.bin .Add (.fz 4 1) (.int 1))) (.cons (.set 4 (.mv 6)) .nil) (.cons (.ret (.bl false)) .nil)) .nil)) .nil))) (.cons (.ret (.bl true)) .nil))))))⟩
def nmis_peaked : List Str := ["things", "order", "line", "low", "high", "thing", "place"]
def fdline_breaker : Fd := ⟨"line_breaker", 3, 8, false, (.cons (.exp (.fn "need_things" (.cons (.var 0) .nil))) (.cons (.exp (.fn "need_all" (.cons (.var 0) (.cons (.var 1) (.cons (.str "line") .nil))))) (.cons (.exp (.fn "need_all" (.cons (.var 0) (.cons (.var 2) (.cons (.str "order") .nil))))) (.cons (.set 3 (.lc (.met "index" (.var 2) (.cons (.var 4) .nil)) (.name 4) (.seq (.fz 1 1)) .nop [4])) (.cons (.for (.name 5) (.rng (.var 0)) (.cons (.for (.name 6) (.rng2 (.bin .Add (.fz 5 1) (.int 1)) (.var 0)) (.cons (.for (.name 7) (.rng2 (.bin .Add (.fz 6 1) (.int 1)) (.var 0)) (.cons (.ite (.and (.cmp .Gt (.sub (.var 3) (.var 6)) (.sub (.var 3) (.var 5))) (.cmp .Gt (.sub (.var 3) (.var 6)) (.sub (.var 3) (.var 7)))) (.cons (.ret (.tup (.cons (.sub (.fz 1 1) (.var 5)) (.cons (.sub (.fz 1 1) (.var 6)) (.cons (.sub (.fz 1 1) (.var 7)) .nil))))) .nil) .nil) .nil)) .nil)) .nil)) (.cons (.ret .non) .nil))))))⟩
def nmline_breaker : List Str := ["things", "line", "order", "ranks", "thing", "a", "b", "c"]
def fd_law_store : Fd := ⟨"_law_store", 1, 4, false, (.cons (.set 1 (.bin .Pow (.int 10) (.int 60))) (.cons (.set 1 (.bin .Mult (.bin .Mult (.fz 1 1) (.fz 1 1)) (.fz 1 1))) (.cons (.set 1 (.bin .Mult (.bin .Mult (.bin .Mult (.fz 1 1) (.fz 1 1)) (.fz 1 1)) (.fz 1 1))) (.cons (.set 2 (.lst .nil)) (.cons (.for (.name 3) (.seq (.slc (.bi "list" (.cons (.fz 0 1) .nil)) .nop (.int 63))) (.cons (.ite (.cmp .GtE (.var 3) (.bin .Pow (.int 10) (.int 18))) (.cons (.exp (.mut "append" (.var 2) (.cons (.bin .Mod (.bi "int" (.cons (.var 3) .nil)) (.var 1)) .nil))) .nil) (.cons (.exp (.mut "append" (.var 2) (.cons (.bin .Mod (.bi "int" (.cons (.var 3) .nil)) (.int 2147483647)) .nil))) .nil)) .nil)) (.cons (.ret (.lst (.cons (.fz 2 0) (.cons (.int 0) (.cons (.int 0) (.cons (.int 0) (.cons (.bin .Add (.int 1) (.bi "len" (.cons (.var 2) .nil))) .nil))))))) .nil))))))⟩
def nm_law_store : List Str := ["script", "big", "cells", "cell"]
def fd_law_take : Fd := ⟨"_law_take", 2, 7, true, (.cons (.ite (.cmp .Lt (.var 1) (.int 2)) (.cons (.ret (.int 0)) .nil) .nil) (.cons (.six (.var 0) (.int 3) (.bin .Add (.sub (.fz 0 2) (.int 3)) (.int 1))) (.cons (.for (.name 2) (.rng (.int 64)) (.cons (.ite (.cmp .Gt (.sub (.var 0) (.int 2)) (.int 0)) (.cons (.set 3 (.bin .Mod (.bi "int" (.cons (.sub (.var 0) (.int 2)) .nil)) (.var 1))) (.cons (.six (.var 0) (.int 2) (.bin .FloorDiv (.sub (.var 0) (.int 2)) (.var 1))) (.cons (.ret (.mv 3)) .nil))) .nil) (.cons (.ite (.cmp .GtE (.sub (.var 0) (.int 1)) (.bi "len" (.cons (.sub (.var 0) (.int 0)) .nil))) (.cons .brk .nil) .nil) (.cons (.set 4 (.sub (.sub (.fz 0 2) (.int 0)) (.sub (.var 0) (.int 1)))) (.cons (.six (.var 0) (.int 1) (.bin .Add (.sub (.fz 0 2) (.int 1)) (.int 1))) (.cons (.six (.var 0) (.int 4) (.bin .Mod (.bi "int" (.cons (.bin .Add (.bin .Add (.bin .Mult (.sub (.fz 0 2) (.int 4)) (.int 48271)) (.fz 4 1)) (.int 1)) .nil)) (.int 2147483647))) (.cons (.ite (.cmp .Lt (.var 4) (.bin .Pow (.int 10) (.int 18))) (.cons .brk .nil) .nil) (.cons (.six (.var 0) (.int 2) (.mv 4)) .nil)))))))) (.cons (.set 5 (.bin .Mod (.bi "int" (.cons (.bin .Add (.bin .Add (.bin .Mult (.sub (.fz 0 2) (.int 4)) (.int 69621)) (.bin .Mult (.sub (.fz 0 2) (.int 3)) (.int 16807))) (.int 8191)) .nil)) (.int 2147483647))) (.cons (.six (.var 0) (.int 4) (.fz 5 0)) (.cons (.set 6 (.bin .Mod (.bi "int" (.cons (.bin .Add (.bin .Add (.bin .Mult (.fz 5 1) (.fz 5 1)) (.bin .Mult (.sub (.fz 0 2) (.int 3)) (.int 40692))) (.int 271)) .nil)) (.int 2147483399))) (.cons (.ret (.bin .Mod (.bi "int" (.cons (.bin .Add (.bin .Mult (.fz 6 1) (.int 2147483647)) (.fz 5 1)) .nil)) (.var 1))) .nil)))))))⟩
def nm_law_take : List Str := ["store", "many", "k", "digit", "cell", "low", "high"]
def fd_law_count : Fd := ⟨"_law_count", 3, 4, true, (.cons (.ite (.cmp .LtE (.var 2) (.var 1)) (.cons (.ret (.mv 1)) .nil) .nil) (.cons (.set 3 (.fn "_law_take" (.cons (.var 0) (.cons (.int 6) .nil)))) (.cons (.ite (.cmp .Eq (.var 3) (.int 0)) (.cons (.ret (.mv 1)) .nil) .nil) (.cons (.ite (.cmp .Eq (.var 3) (.int 1)) (.cons (.ret (.mv 2)) .nil) .nil) (.cons (.ret (.bin .Add (.fz 1 1) (.fn "_law_take" (.cons (.var 0) (.cons (.bin .Add (.bin .Sub (.var 2) (.var 1)) (.int 1)) .nil))))) .nil)))))⟩
def nm_law_count : List Str := ["store", "least", "most", "edge"]
def fd_law_pick : Fd := ⟨"_law_pick", 2, 2, true, (.cons (.ret (.sub (.fz 1 1) (.fn "_law_take" (.cons (.var 0) (.cons (.bi "len" (.cons (.var 1) .nil)) .nil))))) .nil)⟩
def nm_law_pick : List Str := ["store", "row"]
def fd_law_shuffle : Fd := ⟨"_law_shuffle", 2, 5, true, (.cons (.set 2 (.bi "list" (.cons (.fz 1 1) .nil))) (.cons (.set 3 (.lst .nil)) (.cons (.for (.name 4) (.rng (.bi "len" (.cons (.var 1) .nil))) (.cons (.exp (.mut "append" (.var 3) (.cons (.mut "pop" (.var 2) (.cons (.fn "_law_take" (.cons (.var 0) (.cons (.bi "len" (.cons (.var 2) .nil)) .nil))) .nil)) .nil))) .nil)) (.cons (.ret (.mv 3)) .nil))))⟩
def nm_law_shuffle : List Str := ["store", "row", "rest", "out", "k"]
def fd_law_far : Fd := ⟨"_law_far", 1, 4, true, (.cons (.ite (.cmp .Eq (.fn "_law_take" (.cons (.var 0) (.cons (.int 3) .nil))) (.int 0)) (.cons (.set 1 (.lst (.cons (.int 0) (.cons (.int 1) (.cons (.neg (.int 1)) (.cons (.int 2) (.cons (.int 12) (.cons (.int 13) (.cons (.int 24) (.cons (.int 25) (.cons (.int 99) (.cons (.int 100) (.cons (.bin .Pow (.int 10) (.int 18)) (.cons (.bin .Sub (.bin .Pow (.int 10) (.int 30)) (.int 1)) (.cons (.bin .Sub (.int 1) (.bin .Pow (.int 10) (.int 30))) .nil))))))))))))))) (.cons (.ret (.fn "_law_pick" (.cons (.var 0) (.cons (.var 1) .nil)))) .nil)) .nil) (.cons (.set 2 (.int 0)) (.cons (.for (.name 3) (.rng (.fn "_law_count" (.cons (.var 0) (.cons (.int 1) (.cons (.int 30) .nil))))) (.cons (.set 2 (.bin .Add (.bin .Mult (.fz 2 1) (.int 10)) (.fn "_law_take" (.cons (.var 0) (.cons (.int 10) .nil))))) .nil)) (.cons (.ite (.cmp .Eq (.fn "_law_take" (.cons (.var 0) (.cons (.int 2) .nil))) (.int 0)) (.cons (.ret (.bin .Sub (.int 0) (.var 2))) .nil) .nil) (.cons (.ret (.mv 2)) .nil)))))⟩
def nm_law_far : List Str := ["store", "edges", "number", "k"]
def fd_law_off : Fd := ⟨"_law_off", 3, 4, true, (.cons (.set 3 (.lst (.cons (.bin .Sub (.var 1) (.int 1)) (.cons (.bin .Add (.fz 2 1) (.int 1)) (.cons (.bin .Sub (.var 1) (.int 1)) (.cons (.bin .Add (.fz 2 1) (.int 1)) (.cons (.bin .Sub (.bin .Pow (.int 10) (.int 30)) (.int 1)) (.cons (.bin .Sub (.int 1) (.bin .Pow (.int 10) (.int 30))) (.cons .non (.cons (.bl true) (.cons (.bl false) .nil))))))))))) (.cons (.set 3 (.bin .Add (.fz 3 1) (.lst (.cons (.str "") (.cons (.bi "str" (.cons (.var 1) .nil)) (.cons (.str "a") (.cons (.lst .nil) (.cons (.lst (.cons (.fz 1 0) .nil)) (.cons (.tup (.cons (.fz 1 0) .nil)) (.cons (.tup .nil) (.cons (.bin .Sub (.bin .Sub (.var 1) (.int 2)) (.fn "_law_take" (.cons (.var 0) (.cons (.int 1000000) .nil)))) .nil))))))))))) (.cons (.set 3 (.bin .Add (.fz 3 1) (.lst (.cons (.bin .Add (.bin .Add (.fz 2 1) (.int 2)) (.fn "_law_take" (.cons (.var 0) (.cons (.int 1000000) .nil)))) .nil)))) (.cons (.ret (.lst (.cons (.fn "_law_pick" (.cons (.var 0) (.cons (.var 3) .nil))) .nil))) .nil))))⟩
def nm_law_off : List Str := ["store", "low", "high", "menu"]
def fd_law_row : Fd := ⟨"_law_row", 2, 2, true, (.cons (.ite (.cmp .Eq (.fn "_law_take" (.cons (.var 0) (.cons (.int 2) .nil))) (.int 0)) (.cons (.ret (.bi "list" (.cons (.fz 1 1) .nil))) .nil) .nil) (.cons (.ret (.bi "tuple" (.cons (.fz 1 1) .nil))) .nil))⟩
def nm_law_row : List Str := ["store", "row"]
def fd_law_plain : Fd := ⟨"_law_plain", 1, 2, true, (.cons (.set 1 (.fn "_law_take" (.cons (.var 0) (.cons (.int 9) .nil)))) (.cons (.ite (.cmp .Lt (.var 1) (.int 3)) (.cons (.ret (.bin .Sub (.fn "_law_take" (.cons (.var 0) (.cons (.int 14) .nil))) (.int 1))) .nil) .nil) (.cons (.ite (.cmp .Eq (.var 1) (.int 3)) (.cons (.ret (.fn "_law_far" (.cons (.var 0) .nil))) .nil) .nil) (.cons (.ite (.cmp .Eq (.var 1) (.int 4)) (.cons (.ret (.cmp .Eq (.fn "_law_take" (.cons (.var 0) (.cons (.int 2) .nil))) (.int 0))) .nil) .nil) (.cons (.ite (.cmp .Eq (.var 1) (.int 5)) (.cons (.ret .non) .nil) .nil) (.cons (.ite (.cmp .Eq (.var 1) (.int 6)) (.cons (.ret (.lst .nil)) .nil) .nil) (.cons (.ite (.cmp .Eq (.var 1) (.int 7)) (.cons (.ret (.tup .nil)) .nil) .nil) (.cons (.ret (.fn "_law_text" (.cons (.var 0) .nil))) .nil))))))))⟩
def nm_law_plain : List Str := ["store", "kind"]
def fd_law_value : Fd := ⟨"_law_value", 2, 7, true, (.cons (.set 2 (.fn "_law_plain" (.cons (.var 0) .nil))) (.cons (.set 3 (.fn "_law_pick" (.cons (.var 0) (.cons (.lst (.cons (.int 0) (.cons (.int 0) (.cons (.int 1) (.cons (.int 1) (.cons (.int 1) (.cons (.int 2) (.cons (.int 3) (.cons (.int 7) .nil))))))))) .nil)))) (.cons (.for (.name 4) (.rng (.bi "min" (.cons (.var 3) (.cons (.bin .Sub (.var 1) (.int 1)) .nil)))) (.cons (.set 5 (.lc (.fn "_law_plain" (.cons (.var 0) .nil)) (.name 6) (.rng (.fn "_law_take" (.cons (.var 0) (.cons (.int 4) .nil)))) .nop [6])) (.cons (.exp (.mut "insert" (.var 5) (.cons (.fn "_law_take" (.cons (.var 0) (.cons (.bin .Add (.bi "len" (.cons (.var 5) .nil)) (.int 1)) .nil))) (.cons (.mv 2) .nil)))) (.cons (.set 2 (.fn "_law_row" (.cons (.var 0) (.cons (.var 5) .nil)))) .nil)))) (.cons (.ret (.mv 2)) .nil))))⟩
def nm_law_value : List Str := ["store", "most", "value", "deep", "k", "row", "j"]
def fd_law_signs : Fd := ⟨"_law_signs", 0, 2, false, (.cons (.set 1 (.str " !\"#$&'()*+,-./0123456789:;<=>?@ABCDEFGHIJKLMNOPQRSTUVWXYZ[\\]^_`")) (.cons (.ret (.bin .Add (.fz 1 1) (.str "abcdefghijklmnopqrstuvwxyz{|}~\n"))) .nil))⟩
def nm_law_signs : List Str := [" ", "signs"]
def fd_law_text : Fd := ⟨"_law_text", 1, 6, true, (.cons (.set 1 (.fn "_law_signs" .nil)) (.cons (.set 2 (.fn "_law_take" (.cons (.var 0) (.cons (.int 8) .nil)))) (.cons (.ite (.cmp .Eq (.var 2) (.int 0)) (.cons (.ret (.str "")) .nil) .nil) (.cons (.ite (.cmp .Eq (.var 2) (.int 1)) (.cons (.set 3 (.lst (.cons (.str "0") (.cons (.str "1") (.cons (.str "-1") (.cons (.str "-") (.cons (.str "a") (.cons (.str "few") (.cons (.str "cut") (.cons (.str "take") (.cons (.str "ring") (.cons (.str "none") (.cons (.str "take 0 1") (.cons (.str "ring 0 1") (.cons (.str "\n") (.cons (.str " ") .nil)))))))))))))))) (.cons (.ret (.fn "_law_pick" (.cons (.var 0) (.cons (.bin .Add (.fz 3 1) (.lst (.cons (.str "things 2\n0 1") (.cons (.str "things 1") (.cons (.str "settle") (.cons (.str "web 1:") (.cons (.str "True") (.cons (.str "()") .nil)))))))) .nil)))) .nil)) .nil) (.cons (.set 4 (.fn "_law_count" (.cons (.var 0) (.cons (.int 1) (.cons (.int 12) .nil))))) (.cons (.ite (.cmp .Eq (.var 2) (.int 2)) (.cons (.set 4 (.bin .Add (.int 40) (.fn "_law_take" (.cons (.var 0) (.cons (.int 361) .nil))))) .nil) .nil) (.cons (.ite (.cmp .Eq (.var 2) (.int 3)) (.cons (.ret (.bin .Mult (.fn "_law_pick" (.cons (.var 0) (.cons (.var 1) .nil))) (.fz 4 1))) .nil) .nil) (.cons (.ret (.met "join" (.str "") (.cons (.lc (.sub (.fz 1 1) (.fn "_law_take" (.cons (.var 0) (.cons (.int 95) .nil)))) (.name 5) (.rng (.var 4)) .nop [5]) .nil))) .nil))))))))⟩
def nm_law_text : List Str := ["store", "signs", "kind", "words", "size", "k"]
def fd_law_is_int : Fd := ⟨"_law_is_int", 1, 1, false, (.cons (.ret (.and (.isi (.var 0) ["int"]) (.not (.isi (.var 0) ["bool"])))) .nil)⟩
def nm_law_is_int : List Str := ["value"]
def fd_law_is_row : Fd := ⟨"_law_is_row", 1, 1, false, (.cons (.ret (.isi (.var 0) ["list", "tuple"])) .nil)⟩
def nm_law_is_row : List Str := ["value"]
def fd_law_order : Fd := ⟨"_law_order", 2, 5, true, (.cons (.set 2 (.sp 0 (.cons (.var 1) .nil))) (.cons (.set 3 (.fn "_law_take" (.cons (.var 0) (.cons (.int 8) .nil)))) (.cons (.ite (.cmp .Eq (.var 3) (.int 0)) (.cons (.ret (.bi "tuple" (.cons (.fz 2 1) .nil))) .nil) .nil) (.cons (.ite (.cmp .Eq (.var 3) (.int 1)) (.cons (.ret (.sp 2 (.cons (.bi "list" (.cons (.fz 2 1) .nil)) .nil))) .nil) .nil) (.cons (.ite (.cmp .Eq (.var 3) (.int 2)) (.cons (.set 4 (.fn "_law_take" (.cons (.var 0) (.cons (.var 1) .nil)))) (.cons (.ret (.bi "tuple" (.cons (.bin .Add (.slc (.fz 2 1) (.var 4) .nop) (.slc (.fz 2 1) .nop (.var 4))) .nil))) .nil)) .nil) (.cons (.ret (.bi "tuple" (.cons (.fn "_law_shuffle" (.cons (.var 0) (.cons (.var 2) .nil))) .nil))) .nil))))))⟩
def nm_law_order : List Str := ["store", "wide", "row", "kind", "spot"]
def fd_law_bent_order : Fd := ⟨"_law_bent_order", 2, 5, true, (.cons (.set 2 (.bi "list" (.cons (.fz 1 1) .nil))) (.cons (.set 3 (.fn "_law_count" (.cons (.var 0) (.cons (.int 0) (.cons (.bin .Sub (.bi "len" (.cons (.var 2) .nil)) (.int 1)) .nil))))) (.cons (.set 4 (.fn "_law_take" (.cons (.var 0) (.cons (.int 5) .nil)))) (.cons (.ite (.cmp .Eq (.var 4) (.int 0)) (.cons (.ret (.lst (.cons (.fn "_law_pick" (.cons (.var 0) (.cons (.lst (.cons .non (.cons (.bl true) (.cons (.int 0) (.cons (.neg (.int 1)) (.cons (.str "") (.cons (.str "01") (.cons (.str "10") .nil)))))))) .nil))) .nil))) .nil) .nil) (.cons (.ite (.cmp .Eq (.var 4) (.int 1)) (.cons (.exp (.mut "pop" (.var 2) (.cons (.mv 3) .nil))) .nil) (.cons (.ite (.cmp .Eq (.var 4) (.int 2)) (.cons (.exp (.mut "insert" (.var 2) (.cons (.fn "_law_take" (.cons (.var 0) (.cons (.bin .Add (.bi "len" (.cons (.var 2) .nil)) (.int 1)) .nil))) (.cons (.sub (.var 2) (.var 3)) .nil)))) .nil) (.cons (.ite (.and (.cmp .Eq (.var 4) (.int 3)) (.cmp .Gt (.bi "len" (.cons (.var 2) .nil)) (.int 1))) (.cons (.six (.var 2) (.var 3) (.sub (.fz 2 1) (.bin .Sub (.var 3) (.int 1)))) .nil) (.cons (.six (.var 2) (.var 3) (.sub (.fn "_law_off" (.cons (.var 0) (.cons (.int 0) (.cons (.bin .Sub (.bi "len" (.cons (.var 2) .nil)) (.int 1)) .nil)))) (.int 0))) .nil)) .nil)) .nil)) (.cons (.ret (.lst (.cons (.fn "_law_row" (.cons (.var 0) (.cons (.var 2) .nil))) .nil))) .nil))))))⟩
def nm_law_bent_order : List Str := ["store", "row", "out", "spot", "kind"]
def fd_law_peaked : Fd := ⟨"_law_peaked", 2, 6, true, (.cons (.set 2 (.fn "_law_count" (.cons (.var 0) (.cons (.int 0) (.cons (.bin .Sub (.bi "len" (.cons (.var 1) .nil)) (.int 1)) .nil))))) (.cons (.set 3 (.fz 2 0)) (.cons (.set 4 (.lst (.cons (.sub (.fz 1 1) (.var 2)) .nil))) (.cons (.for (.name 5) (.rng (.bin .Sub (.bi "len" (.cons (.var 1) .nil)) (.int 1))) (.cons (.ite (.or (.cmp .GtE (.bin .Add (.fz 3 1) (.int 1)) (.bi "len" (.cons (.var 1) .nil))) (.and (.cmp .Gt (.var 2) (.int 0)) (.cmp .Eq (.fn "_law_take" (.cons (.var 0) (.cons (.int 2) .nil))) (.int 0)))) (.cons (.set 2 (.bin .Sub (.var 2) (.int 1))) (.cons (.exp (.mut "append" (.var 4) (.cons (.sub (.fz 1 1) (.var 2)) .nil))) .nil)) (.cons (.set 3 (.bin .Add (.fz 3 1) (.int 1))) (.cons (.exp (.mut "append" (.var 4) (.cons (.sub (.fz 1 1) (.var 3)) .nil))) .nil))) .nil)) (.cons (.ret (.bi "tuple" (.cons (.fz 4 1) .nil))) .nil)))))⟩
def nm_law_peaked : List Str := ["store", "line", "low", "high", "out", "k"]
def fd_law_kind : Fd := ⟨"_law_kind", 1, 1, false, (.cons (.ite (.cmp .Is (.var 0) .non) (.cons (.ret (.int 0)) .nil) .nil) (.cons (.ite (.isi (.var 0) ["bool"]) (.cons (.ret (.int 1)) .nil) .nil) (.cons (.ite (.isi (.var 0) ["int"]) (.cons (.ret (.int 2)) .nil) .nil) (.cons (.ite (.isi (.var 0) ["str"]) (.cons (.ret (.int 3)) .nil) .nil) (.cons (.ite (.isi (.var 0) ["list"]) (.cons (.ret (.int 4)) .nil) .nil) (.cons (.ite (.isi (.var 0) ["tuple"]) (.cons (.ret (.int 5)) .nil) .nil) (.cons (.ite (.isi (.var 0) ["dict"]) (.cons (.ret (.int 6)) .nil) .nil) (.cons (.ret (.int 7)) .nil))))))))⟩
def nm_law_kind : List Str := ["value"]
def fd_law_same : Fd := ⟨"_law_same", 3, 10, false, (.cons (.set 3 (.lst (.cons (.tup (.cons (.mv 0) (.cons (.mv 1) .nil))) .nil))) (.cons (.whl (.cmp .Gt (.bi "len" (.cons (.var 3) .nil)) (.int 0)) (.cons (.unp (.two (.name 4) (.name 5)) (.mut "pop" (.var 3) .nil)) (.cons (.set 6 (.fn "_law_kind" (.cons (.var 5) .nil))) (.cons (.set 7 (.fn "_law_kind" (.cons (.var 4) .nil))) (.cons (.ite (.and (.var 2) (.cmp .Eq (.var 7) (.int 5))) (.cons (.set 7 (.int 4)) .nil) .nil) (.cons (.ite (.and (.var 2) (.cmp .Eq (.var 6) (.int 5))) (.cons (.set 6 (.int 4)) .nil) .nil) (.cons (.ite (.or (.cmp .NotEq (.var 6) (.var 7)) (.cmp .Eq (.var 6) (.int 7))) (.cons (.ret (.bl false)) .nil) .nil) (.cons (.ite (.and (.cmp .Lt (.var 6) (.int 4)) (.and (.cmp .Gt (.var 6) (.int 0)) (.cmp .NotEq (.var 4) (.var 5)))) (.cons (.ret (.bl false)) .nil) .nil) (.cons (.ite (.and (.cmp .Gt (.var 6) (.int 3)) (.cmp .NotEq (.bi "len" (.cons (.var 4) .nil)) (.bi "len" (.cons (.var 5) .nil)))) (.cons (.ret (.bl false)) .nil) .nil) (.cons (.ite (.cmp .Eq (.var 6) (.int 6)) (.cons .bad .nil) (.cons (.ite (.cmp .Gt (.var 6) (.int 3)) (.cons (.for (.name 9) (.rng (.bi "len" (.cons (.var 5) .nil))) (.cons (.exp (.mut "append" (.var 3) (.cons (.tup (.cons (.sub (.fz 4 1) (.var 9)) (.cons (.sub (.fz 5 1) (.var 9)) .nil))) .nil))) .nil)) .nil) .nil) .nil)) .nil)))))))))) (.cons (.ret (.bl true)) .nil)))⟩
def nm_law_same : List Str := ["told", "due", "loose", "left", "one", "two", "kind", "other", "key", "k"]
def fd_law_is_order : Fd := ⟨"_law_is_order", 2, 3, false, (.cons (.ite (.or (.not (.fn "_law_is_row" (.cons (.var 1) .nil))) (.cmp .NotEq (.bi "len" (.cons (.var 1) .nil)) (.var 0))) (.cons (.ret (.bl false)) .nil) .nil) (.cons (.for (.name 2) (.seq (.bi "list" (.cons (.fz 1 1) .nil))) (.cons (.ite (.not (.fn "_law_is_int" (.cons (.var 2) .nil))) (.cons (.ret (.bl false)) .nil) .nil) .nil)) (.cons (.ret (.cmp .Eq (.bi "sorted" (.cons (.bi "list" (.cons (.fz 1 1) .nil)) .nil)) (.sp 0 (.cons (.var 0) .nil)))) .nil)))⟩
def nm_law_is_order : List Str := ["wide", "value", "one"]
def fd_law_one_peak : Fd := ⟨"_law_one_peak", 2, 4, false, (.cons (.set 2 (.bi "list" (.cons (.fz 0 1) .nil))) (.cons (.for (.name 3) (.seq (.rev (.bi "list" (.cons (.fz 1 1) .nil)))) (.cons (.ite (.cmp .Eq (.var 3) (.sub (.var 2) (.int 0))) (.cons (.exp (.mut "pop" (.var 2) (.cons (.int 0) .nil))) .nil) (.cons (.ite (.cmp .Eq (.var 3) (.sub (.var 2) (.neg (.int 1)))) (.cons (.exp (.mut "pop" (.var 2) .nil)) .nil) (.cons (.ret (.bl false)) .nil)) .nil)) .nil)) (.cons (.ret (.bl true)) .nil)))⟩
def nm_law_one_peak : List Str := ["line", "order", "left", "t"]
def fd_law_breaker : Fd := ⟨"_law_breaker", 2, 8, false, (.cons (.set 2 (.lc (.int 0) (.name 3) (.seq (.fz 0 1)) .nop [3])) (.cons (.for (.name 4) (.rng (.bi "len" (.cons (.var 1) .nil))) (.cons (.six (.var 2) (.sub (.var 1) (.var 4)) (.fz 4 0)) .nil)) (.cons (.set 5 (.lc (.sub (.fz 2 1) (.var 3)) (.name 3) (.seq (.fz 0 1)) .nop [3])) (.cons (.for (.name 6) (.rng (.bi "len" (.cons (.var 0) .nil))) (.cons (.for (.name 7) (.rng2 (.bin .Add (.fz 6 1) (.int 1)) (.bi "len" (.cons (.var 0) .nil))) (.cons (.ite (.cmp .Gt (.sub (.var 5) (.var 7)) (.sub (.var 5) (.var 6))) (.cons (.for (.name 4) (.rng2 (.bin .Add (.fz 7 1) (.int 1)) (.bi "len" (.cons (.var 0) .nil))) (.cons (.ite (.cmp .Gt (.sub (.var 5) (.var 7)) (.sub (.var 5) (.var 4))) (.cons (.ret (.tup (.cons (.sub (.fz 0 1) (.var 6)) (.cons (.sub (.fz 0 1) (.var 7)) (.cons (.sub (.fz 0 1) (.var 4)) .nil))))) .nil) .nil) .nil)) .nil) .nil) .nil)) .nil)) (.cons (.ret .non) .nil)))))⟩
def nm_law_breaker : List Str := ["line", "order", "place", "t", "k", "late", "i", "j"]
def fd_law_due : Fd := ⟨"_law_due", 4, 6, false, (.cons (.ite (.or (.not (.fn "_law_is_int" (.cons (.var 1) .nil))) (.or (.cmp .Lt (.var 1) (.int 1)) (.cmp .Gt (.var 1) (.int 12)))) (.cons (.ret (.lst (.cons (.int 1) (.cons (.str "things") (.cons (.bl true) (.cons (.bl false) .nil)))))) .nil) .nil) (.cons (.set 4 (.lst (.cons (.lst (.cons (.str "order") (.cons (.fz 3 0) .nil))) (.cons (.lst (.cons (.str "line") (.cons (.fz 2 0) .nil))) .nil)))) (.cons (.ite (.cmp .Eq (.var 0) (.int 1)) (.cons (.set 4 (.lst (.cons (.lst (.cons (.str "line") (.cons (.fz 2 0) .nil))) (.cons (.lst (.cons (.str "order") (.cons (.fz 3 0) .nil))) .nil)))) .nil) .nil) (.cons (.for (.name 5) (.seq (.fz 4 1)) (.cons (.ite (.not (.fn "_law_is_order" (.cons (.var 1) (.cons (.sub (.var 5) (.int 1)) .nil)))) (.cons (.ret (.lst (.cons (.int 2) (.cons (.sub (.fz 5 1) (.int 0)) (.cons (.bl true) (.cons (.bl false) .nil)))))) .nil) .nil) .nil)) (.cons (.ite (.cmp .Eq (.var 0) (.int 0)) (.cons (.ret (.lst (.cons (.int 0) (.cons (.fn "_law_one_peak" (.cons (.var 2) (.cons (.var 3) .nil))) .nil)))) .nil) .nil) (.cons (.ret (.lst (.cons (.int 0) (.cons (.fn "_law_breaker" (.cons (.var 2) (.cons (.var 3) .nil))) .nil)))) .nil))))))⟩
def nm_law_due : List Str := ["kind", "wide", "line", "order", "rows", "one"]
def fd_law_ask : Fd := ⟨"_law_ask", 4, 5, false, (.cons (.try (.cons (.ite (.cmp .Eq (.var 0) (.int 0)) (.cons (.ret (.lst (.cons (.int 0) (.cons (.fn "is_peaked" (.cons (.var 1) (.cons (.var 3) (.cons (.var 2) .nil)))) .nil)))) .nil) .nil) (.cons (.ret (.lst (.cons (.int 0) (.cons (.fn "line_breaker" (.cons (.var 1) (.cons (.var 2) (.cons (.var 3) .nil)))) .nil)))) .nil)) [("BadNumber", 4, [.int 1, .attr "what", .is1 "SwapError", .isE ["BadRow", "BadList", "BadWeb", "NotFull", "TooMany"]]), ("BadRow", 4, [.int 2, .attr "what", .is1 "SwapError", .isE ["BadNumber", "BadList", "BadWeb", "NotFull", "TooMany"]])]) .nil)⟩
def nm_law_ask : List Str := ["kind", "wide", "line", "order", "e"]
def fd_law_holds : Fd := ⟨"_law_holds", 4, 7, false, (.cons (.set 4 (.fn "_law_due" (.cons (.var 0) (.cons (.var 1) (.cons (.var 2) (.cons (.var 3) .nil)))))) (.cons (.set 5 (.fn "_law_listed" (.cons (.lst (.cons (.fz 1 0) (.cons (.fz 2 0) (.cons (.fz 3 0) .nil)))) .nil))) (.cons (.set 6 (.fn "_law_ask" (.cons (.var 0) (.cons (.var 1) (.cons (.var 2) (.cons (.var 3) .nil)))))) (.cons (.ret (.and (.fn "_law_same" (.cons (.var 6) (.cons (.var 4) (.cons (.bl false) .nil)))) (.fn "_law_same" (.cons (.lst (.cons (.fz 1 0) (.cons (.fz 2 0) (.cons (.fz 3 0) .nil)))) (.cons (.var 5) (.cons (.bl true) .nil)))))) .nil))))⟩
def nm_law_holds : List Str := ["kind", "wide", "line", "order", "due", "kept", "told"]
def fd_law_bumped : Fd := ⟨"_law_bumped", 2, 4, true, (.cons (.set 2 (.bi "list" (.cons (.fn "_law_peaked" (.cons (.var 0) (.cons (.var 1) .nil))) .nil))) (.cons (.set 3 (.mut "pop" (.var 2) (.cons (.fn "_law_take" (.cons (.var 0) (.cons (.bi "len" (.cons (.var 2) .nil)) .nil))) .nil))) (.cons (.exp (.mut "insert" (.var 2) (.cons (.fn "_law_take" (.cons (.var 0) (.cons (.bin .Add (.bi "len" (.cons (.var 2) .nil)) (.int 1)) .nil))) (.cons (.mv 3) .nil)))) (.cons (.ret (.mv 2)) .nil))))⟩
def nm_law_bumped : List Str := ["store", "line", "row", "t"]
def fd_law_rails : Fd := ⟨"_law_rails", 2, 7, true, (.cons (.set 2 (.fn "_law_count" (.cons (.var 0) (.cons (.var 1) (.cons (.int 12) .nil))))) (.cons (.set 3 (.bi "list" (.cons (.fn "_law_order" (.cons (.var 0) (.cons (.var 2) .nil))) .nil))) (.cons (.set 4 (.lst (.cons (.bi "list" (.cons (.fn "_law_peaked" (.cons (.var 0) (.cons (.var 3) .nil))) .nil)) (.cons (.fn "_law_bumped" (.cons (.var 0) (.cons (.var 3) .nil))) (.cons (.bi "list" (.cons (.fn "_law_order" (.cons (.var 0) (.cons (.var 2) .nil))) .nil)) .nil))))) (.cons (.ite (.cmp .Gt (.var 2) (.int 2)) (.cons (.set 5 (.bi "list" (.cons (.fn "_law_peaked" (.cons (.var 0) (.cons (.var 3) .nil))) .nil))) (.cons (.set 6 (.sub (.fz 3 1) (.bin .Add (.int 1) (.fn "_law_take" (.cons (.var 0) (.cons (.bin .Sub (.var 2) (.int 2)) .nil)))))) (.cons (.exp (.mut "remove" (.var 5) (.cons (.fz 6 0) .nil))) (.cons (.exp (.mut "append" (.var 4) (.cons (.bin .Add (.fz 5 1) (.lst (.cons (.mv 6) .nil))) .nil))) .nil)))) .nil) (.cons (.ret (.lst (.cons (.mv 2) (.cons (.mv 3) (.cons (.mv 4) .nil))))) .nil)))))⟩
def nm_law_rails : List Str := ["store", "least", "wide", "line", "rows", "row", "t"]
def fd_law_bend : Fd := ⟨"_law_bend", 4, 7, true, (.cons (.set 4 (.lst (.cons (.mv 1) (.cons (.fn "_law_row" (.cons (.var 0) (.cons (.var 2) .nil))) (.cons (.fn "_law_row" (.cons (.var 0) (.cons (.var 3) .nil))) .nil))))) (.cons (.set 5 (.fn "_law_take" (.cons (.var 0) (.cons (.int 3) .nil)))) (.cons (.for (.name 6) (.rng (.int 3)) (.cons (.ite (.or (.cmp .Eq (.var 6) (.var 5)) (.cmp .Eq (.fn "_law_take" (.cons (.var 0) (.cons (.int 3) .nil))) (.int 0))) (.cons (.ite (.cmp .Eq (.var 6) (.int 0)) (.cons (.six (.var 4) (.int 0) (.sub (.fn "_law_off" (.cons (.var 0) (.cons (.int 1) (.cons (.int 12) .nil)))) (.int 0))) .nil) (.cons (.ite (.cmp .Eq (.fn "_law_take" (.cons (.var 0) (.cons (.int 4) .nil))) (.int 0)) (.cons (.six (.var 4) (.var 6) (.fn "_law_value" (.cons (.var 0) (.cons (.int 8) .nil)))) .nil) (.cons (.six (.var 4) (.var 6) (.sub (.fn "_law_bent_order" (.cons (.var 0) (.cons (.sub (.fz 4 1) (.var 6)) .nil))) (.int 0))) .nil)) .nil)) .nil) .nil) .nil)) (.cons (.ret (.mv 4)) .nil))))⟩
def nm_law_bend : List Str := ["store", "wide", "line", "order", "out", "must", "k"]
def fdlaw : Fd := ⟨"law", 1, 9, false, (.cons (.set 1 (.fn "_law_store" (.cons (.var 0) .nil))) (.cons (.set 2 (.lst (.cons (.fn "_law_rails" (.cons (.var 1) (.cons (.int 1) .nil))) (.cons (.fn "_law_rails" (.cons (.var 1) (.cons (.int 3) .nil))) .nil)))) (.cons (.for (.name 3) (.seq (.bin .Add (.fz 2 1) (.slc (.fz 2 1) .nop (.int 1)))) (.cons (.set 4 (.bi "list" (.cons (.sub (.sub (.fz 3 3) (.int 2)) (.int 0)) .nil))) (.cons (.for (.name 5) (.seq (.sub (.fz 3 2) (.int 2))) (.cons (.for (.name 6) (.rng (.sub (.var 3) (.int 0))) (.cons (.six (.var 4) (.var 6) (.sub (.fz 5 1) (.var 6))) .nil)) (.cons (.for (.name 7) (.seq (.lst (.cons (.int 0) (.cons (.int 1) .nil)))) (.cons (.ite (.not (.fn "_law_holds" (.cons (.var 7) (.cons (.sub (.var 3) (.int 0)) (.cons (.fn "_law_row" (.cons (.var 1) (.cons (.sub (.var 3) (.int 1)) .nil))) (.cons (.var 4) .nil)))))) (.cons (.ret (.bl false)) .nil) .nil) .nil)) (.cons (.ite (.not (.fn "_law_holds" (.cons (.fn "_law_take" (.cons (.var 1) (.cons (.int 2) .nil))) (.cons (.sub (.var 3) (.int 0)) (.cons (.fn "_law_row" (.cons (.var 1) (.cons (.rev (.sub (.fz 3 2) (.int 1))) .nil))) (.cons (.bi "tuple" (.cons (.fz 4 1) .nil)) .nil)))))) (.cons (.ret (.bl false)) .nil) .nil) .nil)))) .nil))) (.cons (.for (.name 3) (.seq (.bin .Add (.fz 2 1) (.fz 2 1))) (.cons (.for (.name 7) (.seq (.lst (.cons (.int 0) (.cons (.int 1) .nil)))) (.cons (.set 8 (.fn "_law_bend" (.cons (.var 1) (.cons (.sub (.var 3) (.int 0)) (.cons (.sub (.var 3) (.int 1)) (.cons (.fn "_law_pick" (.cons (.var 1) (.cons (.sub (.var 3) (.int 2)) .nil))) .nil)))))) (.cons (.ite (.not (.fn "_law_holds" (.cons (.var 7) (.cons (.sub (.var 8) (.int 0)) (.cons (.sub (.var 8) (.int 1)) (.cons (.sub (.var 8) (.int 2)) .nil)))))) (.cons (.ret (.bl false)) .nil) .nil) .nil))) .nil)) (.cons (.set 5 (.fn "_law_order" (.cons (.var 1) (.cons (.int 13) .nil)))) (.cons (.ret (.and (.fn "_law_holds" (.cons (.int 0) (.cons (.int 13) (.cons (.var 5) (.cons (.var 5) .nil))))) (.fn "_law_holds" (.cons (.int 1) (.cons (.int 13) (.cons (.var 5) (.cons (.var 5) .nil))))))) .nil))))))⟩
def nmlaw : List Str := ["script", "store", "worlds", "one", "hand", "row", "k", "kind", "args"]
def fdsAll : List (Fd × List Str) := [(fdis_whole, nmis_whole), (fdis_thing, nmis_thing), (fdneed_things, nmneed_things), (fdneed_all, nmneed_all), (fdis_peaked, nmis_peaked), (fdline_breaker, nmline_breaker), (fd_law_store, nm_law_store), (fd_law_take, nm_law_take), (fd_law_count, nm_law_count), (fd_law_pick, nm_law_pick), (fd_law_shuffle, nm_law_shuffle), (fd_law_far, nm_law_far), (fd_law_off, nm_law_off), (fd_law_row, nm_law_row), (fd_law_plain, nm_law_plain), (fd_law_value, nm_law_value), (fd_law_signs, nm_law_signs), (fd_law_text, nm_law_text), (fd_law_is_int, nm_law_is_int), (fd_law_is_row, nm_law_is_row), (fd_law_order, nm_law_order), (fd_law_bent_order, nm_law_bent_order), (fd_law_peaked, nm_law_peaked), (fd_law_kind, nm_law_kind), (fd_law_same, nm_law_same), (fd_law_is_order, nm_law_is_order), (fd_law_one_peak, nm_law_one_peak), (fd_law_breaker, nm_law_breaker), (fd_law_due, nm_law_due), (fd_law_ask, nm_law_ask), (fd_law_holds, nm_law_holds), (fd_law_bumped, nm_law_bumped), (fd_law_rails, nm_law_rails), (fd_law_bend, nm_law_bend), (fdlaw, nmlaw)]
def inoAll : List Str := ["_law_bend", "_law_bent_order", "_law_bumped", "_law_count", "_law_far", "_law_off", "_law_order", "_law_peaked", "_law_pick", "_law_plain", "_law_rails", "_law_row", "_law_shuffle", "_law_take", "_law_text", "_law_value"]
def errAll : List Str := ["SwapError", "BadNumber", "BadRow", "BadList", "BadWeb", "NotFull", "TooMany"]
def extAll : List Str := ["_law_listed"]
def biAll : List Str := ["len", "min", "max", "sorted", "int", "str", "list", "tuple", "isinstance", "range", "reversed", "bool", "dict"]
def prog : Program := PySem.Challenge.pw_swapsenough_k25_one_peak_or_breaker
def defIn (x : Str) : List Stmt → Option (Arguments × List Stmt × Scope)
  | [] => none
  | .FunctionDef name args body _ _ _ scope _ _ _ :: r => if name == x then some (args, body, scope) else defIn x r
  | _ :: r => defIn x r
def clsInit (x : Str) : List Stmt → SupD
  | .ClassDef (name := n) (body := .FunctionDef _ args body _ _ _ scope _ _ _ :: _) .. :: r => if n == x then ⟨x, x ++ ".__init__", args, body, scope⟩ else clsInit x r
  | _ :: r => clsInit x r
  | [] => ⟨x, x, ⟨[], [], none, [], [], none, []⟩, [], ⟨.function, [], false, false, []⟩⟩
def defV (q : Fd × List Str) : DefV := match defIn q.1.name prog.main.body with
  | some (a, b, s) => ⟨q.1, q.2, a, b, s⟩
  | none => ⟨q.1, q.2, ⟨[], [], none, [], [], none, []⟩, [], ⟨.function, [], false, false, []⟩⟩
def dvl : DefV := match defIn "_law_listed" prog.main.body with
  | some (a, b, s) => ⟨lsFd, lsN, a, b, s⟩
  | none => ⟨lsFd, lsN, ⟨[], [], none, [], [], none, []⟩, [], ⟨.function, [], false, false, []⟩⟩
def lp : LawP := ⟨fdsAll.map defV, [(("_law_listed" : Str), lsC)], [dvl.dd], biAll, errAll, [clsInit "BadNumber" prog.main.body, clsInit "BadRow" prog.main.body], prog.main.file⟩
end VI25
set_option autoImplicit true
set_option Elab.async false
set_option linter.all false
set_option maxRecDepth 100000
set_option maxHeartbeats 4000000
namespace VI.P
open PySem PySem.Spec PyProof.Rows L2
section
variable {p : Pg} {n : Nat}
theorem is_whole_call (h : Has p VI25.fdis_whole) {d : D} (hd : d.plain = true) : p.callN (n + 1) "is_whole" [(0, d)] = .ok 9 (.bl (isI d)) none := by
  refine (h.call n _ rfl).trans ?_
  cases d with
  | non => (simp! only [VI25.fdis_whole, isI])
  | bl b => (simp! only [VI25.fdis_whole, isI])
  | int i => (simp! only [VI25.fdis_whole, isI])
  | str x => (simp! only [VI25.fdis_whole, isI])
  | tup xs => cases hf : D.flats xs <;> (simp! only [VI25.fdis_whole, isI, hf])
  | lst xs => (simp! only [VI25.fdis_whole, isI])
  | dct xs => cases hd
  | ins c fs => cases hd
  | arg ns => cases hd
def isTh (w : Int) : D → Bool
  | .int x => decide (0 ≤ x ∧ x < w)
  | _ => false
theorem is_thing_call (h : Has p VI25.fdis_thing) (hw : Has p VI25.fdis_whole) {d : D} {w : Int} (hd : d.plain = true) : p.callN (n + 2) "is_thing" [(0, .int w), (0, d)] = .ok 9 (.bl (isTh w d)) none := by
  refine (h.call (n + 1) _ rfl).trans ?_
  have iw : p.ino "is_whole" = false := hw.ino
  have hc := is_whole_call (n := n) hw hd
  cases d with
  | non => (simp! only [VI25.fdis_thing, isI, isTh, iw, hc])
  | bl b => (simp! only [VI25.fdis_thing, isI, isTh, iw, hc])
  | int i =>
    by_cases h0 : 0 ≤ i
    · by_cases h1 : i < w
      · (simp! only [VI25.fdis_thing, isI, isTh, iw, hc])
      · (simp! only [VI25.fdis_thing, isI, isTh, iw, hc, and_false])
    · (simp! only [VI25.fdis_thing, isI, isTh, iw, hc, false_and])
  | str x => (simp! only [VI25.fdis_thing, isI, isTh, iw, hc])
  | tup xs => cases hf : D.flats xs <;> (simp! only [VI25.fdis_thing, isI, isTh, iw, hc, hf])
  | lst xs => (simp! only [VI25.fdis_thing, isI, isTh, iw, hc])
  | dct xs => cases hd
  | ins c fs => cases hd
  | arg ns => cases hd
def isW (d : D) : Bool := match d with
  | .int x => decide (1 ≤ x ∧ x ≤ 12)
  | _ => false
theorem need_things_call (h : Has p VI25.fdneed_things) (hw : Has p VI25.fdis_whole) {d : D} (hd : d.plain = true) : p.callN (n + 2) "need_things" [(0, d)] = if isW d then .ok 9 .non none else .exn "BadNumber" [.str "things"] := by
  refine (h.call (n + 1) _ rfl).trans ?_
  have iw : p.ino "is_whole" = false := hw.ino
  have hc := is_whole_call (n := n) hw hd
  have he : errArgs [(Tg.own 9, D.str "things")] = some [.str "things"] := errArgs_s (by decide +kernel)
  have hl : (fieldsOf "BadNumber").length = 1 := by decide +kernel
  cases d with
  | non => (simp! only [VI25.fdneed_things, isI, isW, iw, hc, he, hl])
  | bl b => (simp! only [VI25.fdneed_things, isI, isW, iw, hc, he, hl])
  | int i =>
    by_cases h0 : 1 ≤ i
    · by_cases h1 : i ≤ 12
      · (simp! only [VI25.fdneed_things, isI, isW, iw, hc, he, hl])
      · (simp! only [VI25.fdneed_things, isI, isW, iw, hc, he, hl, and_false])
    · (simp! only [VI25.fdneed_things, isI, isW, iw, hc, he, hl, false_and])
  | str x => (simp! only [VI25.fdneed_things, isI, isW, iw, hc, he, hl])
  | tup xs => cases hf : D.flats xs <;> (simp! only [VI25.fdneed_things, isI, isW, iw, hc, he, hl, hf])
  | lst xs => (simp! only [VI25.fdneed_things, isI, isW, iw, hc, he, hl])
  | dct xs => cases hd
  | ins c fs => cases hd
  | arg ns => cases hd
end
end VI.P
set_option autoImplicit true
set_option Elab.async false
set_option linter.all false
set_option maxRecDepth 100000
set_option maxHeartbeats 4000000
namespace VI.P
open PySem PySem.Spec PyProof.Rows L2
def okRow (w : Int) : List Int → List D → Bool
  | _, [] => true
  | done, x :: xs => match x with
    | .int i => decide (0 ≤ i ∧ i < w) && !done.contains i && okRow w (i :: done) xs
    | _ => false
def isOrd (w : Int) (v : D) : Bool := match rowOf v with
  | some xs => decide ((xs.length : Int) = w) && okRow w [] xs
  | none => false
def seenD (w : Int) (done : List Int) : List D := (List.range w.toNat).map fun (i : Nat) => D.bl (done.contains (i : Int))
theorem seen_len (w : Int) (done : List Int) : (seenD w done).length = w.toNat := by simp [seenD]
theorem seen_get {w i : Int} {done : List Int} (h0 : 0 ≤ i) (h : i < w) : (seenD w done)[i.toNat]? = some (.bl (done.contains i)) := by
  have : i.toNat < w.toNat := by omega
  simp [seenD, this, h0, Int.toNat_of_nonneg h0]
theorem seen_set {w i : Int} {done : List Int} (h0 : 0 ≤ i) (h : i < w) : (seenD w done).set i.toNat (.bl true) = seenD w (i :: done) := by
  apply List.ext_getElem?
  intro k
  by_cases hk : k = i.toNat
  · subst hk
    rw [List.getElem?_set_self (by rw [seen_len]; omega), seen_get h0 h]; simp
  · rw [List.getElem?_set_ne (fun z => hk z.symm)]
    simp only [seenD, List.getElem?_map]
    by_cases hk2 : k < w.toNat
    · have : (List.range w.toNat)[k]? = some k := by simp [hk2]
      simp only [this, Option.map_some, List.contains_cons]
      have : ((k : Int) == i) = false := by simp; omega
      rw [this, Bool.false_or]
    · simp [hk2]
def naB : CSs := .cons (.ite (.or (.not (.fn "is_thing" (.cons (.var 0) (.cons (.var 4) .nil)))) (.sub (.var 3) (.var 4))) (.cons (.rai "BadRow" (.cons (.mv 2) .nil)) .nil) .nil) (.cons (.six (.var 3) (.var 4) (.bl true)) .nil)
section
variable {p : Pg} {n : Nat}
theorem na_loop (h : Has p VI25.fdis_thing) (hw : Has p VI25.fdis_whole) {w : Int} {v : Option (Nat × D)} {what : Str} (hs : what.length ≤ 1000) (hw12 : w ≤ 1000) : ∀ (xs : List D) (done : List Int) (o : Option (Nat × D)), (∀ x ∈ xs, x.plain = true) →
    (okRow w done xs = true → ∃ e', forS (p.sm (n + 2)) (.name 4) naB [] (.own 0) xs [some (0, .int w), v, some (0, .str what), some (10, .lst (seenD w done)), o] = .nx ([some (0, .int w), v] ++ e')) ∧
    (okRow w done xs = false → ∃ e', forS (p.sm (n + 2)) (.name 4) naB [] (.own 0) xs [some (0, .int w), v, some (0, .str what), some (10, .lst (seenD w done)), o] = .exn "BadRow" [.str what] e')
  | [], done, o, _ => ⟨fun _ => ⟨_, by rw [forS_nil]; rfl⟩, fun z => by simp [okRow] at z⟩
  | x :: xs, done, o, hp => by
    have it : p.ino "is_thing" = false := h.ino
    have hc := is_thing_call (n := n) h hw (w := w) (hp x List.mem_cons_self)
    have he : errArgs [(Tg.own 9, D.str what)] = some [.str what] := errArgs_s hs
    have hl : (fieldsOf "BadRow").length = 1 := by decide +kernel
    by_cases hx : isTh w x = true
    · cases x with
      | int i =>
        simp only [isTh, decide_eq_true_eq] at hx
        have hg := seen_get (done := done) hx.1 hx.2
        have hse := seen_set (done := done) hx.1 hx.2
        have hsl := seen_len w done
        have hth : isTh w (.int i) = true := by simp [isTh, hx]
        cases hd : done.contains i with
        | true =>
          refine ⟨fun z => ?_, fun _ => ?_⟩
          · simp [okRow, hd, hx] at z
            rw [List.contains_iff_mem] at hd
            exact absurd hd z.1
          · rw [forS_cons]
            exact ⟨_, by (simp! only [naB, it, hc, hth, hg, hd, he, hl]); rfl⟩
        | false =>
          have ih := na_loop h hw (w := w) (v := v) hs hw12 xs (i :: done) (some (9, .int i)) fun y hy => hp y (List.mem_cons_of_mem _ hy)
          have hok : okRow w done (.int i :: xs) = okRow w (i :: done) xs := by
            show (decide (0 ≤ i ∧ i < w) && !done.contains i && okRow w (i :: done) xs) = _
            rw [hd, decide_eq_true hx]; rfl
          rw [hok]
          have step : forS (p.sm (n + 2)) (.name 4) naB [] (.own 0) (.int i :: xs) [some (0, .int w), v, some (0, .str what), some (10, .lst (seenD w done)), o] = forS (p.sm (n + 2)) (.name 4) naB [] (.own 0) xs [some (0, .int w), v, some (0, .str what), some (10, .lst (seenD w (i :: done))), some (9, .int i)] := by
            rw [forS_cons]
            (simp! only [naB, it, hc, hth, hg, hd, hse, hsl])
          rw [step]
          exact ih
      | _ => simp [isTh] at hx
    · have hx : isTh w x = false := by cases z : isTh w x with | true => exact absurd z hx | false => rfl
      refine ⟨fun z => ?_, fun _ => ?_⟩
      · exfalso
        cases x <;> simp [okRow] at z
        simp [isTh] at hx
        omega
      · rw [forS_cons]
        cases hf : x.flat with
        | true => exact ⟨_, by (simp! only [naB, it, hc, hx, hf, he, hl]); rfl⟩
        | false => exact ⟨_, by (simp! only [naB, it, hc, hx, hf, he, hl]); rfl⟩
theorem need_all_call (h : Has p VI25.fdneed_all) (ht : Has p VI25.fdis_thing) (hw : Has p VI25.fdis_whole) {w : Int} {v : D} {what : Str} (hs : what.length ≤ 1000) (hw1 : 1 ≤ w) (hw12 : w ≤ 12) (hp : v.plain = true) :
    p.callN (n + 3) "need_all" [(0, .int w), (0, v), (0, .str what)] = if isOrd w v then .ok 9 .non none else .exn "BadRow" [.str what] := by
  refine (h.call (n + 2) _ rfl).trans ?_
  have he : errArgs [(Tg.own 9, D.str what)] = some [.str what] := errArgs_s hs
  have hl : (fieldsOf "BadRow").length = 1 := by decide +kernel
  have hrep : (List.replicate w.toNat [D.bl false]).flatten = seenD w [] := by
    have : ∀ k : Nat, (List.replicate k [D.bl false]).flatten = List.replicate k (D.bl false) := fun k => by
      induction k with
      | zero => rfl
      | succ k ih => rw [List.replicate_succ, List.replicate_succ, List.flatten_cons, ih]; rfl
    rw [this]
    apply List.ext_getElem?
    intro k
    simp only [seenD, List.getElem?_map, List.getElem?_replicate]
    by_cases hk : k < w.toNat <;> simp [hk]
  cases hr : rowOf v with
  | none =>
    have : isOrd w v = false := by simp [isOrd, hr]
    rw [this]
    cases v with
    | lst xs => cases hr
    | tup xs => cases hr
    | dct xs => cases hp
    | ins c fs => cases hp
    | arg ns => cases hp
    | non => (simp! only [VI25.fdneed_all, he, hl])
    | bl b => (simp! only [VI25.fdneed_all, he, hl])
    | int i => (simp! only [VI25.fdneed_all, he, hl])
    | str x => (simp! only [VI25.fdneed_all, he, hl])
  | some xs =>
    have hpx := D.plains_all.mp (rowOf_plain hr hp)
    have hio : isOrd w v = (decide ((xs.length : Int) = w) && okRow w [] xs) := by simp [isOrd, hr]
    rw [hio]
    by_cases hlen : (xs.length : Int) = w
    · obtain ⟨l1, l2⟩ := na_loop (n := n) ht hw (w := w) (v := some (0, v)) hs (by omega) xs [] none hpx
      unfold naB at l1 l2
      cases hok : okRow w [] xs with
      | true =>
        obtain ⟨e', l1⟩ := l1 hok
        rcases items_row hr with rfl | rfl
        · (simp! only [VI25.fdneed_all, hlen, hrep, l1])
        · cases hf : D.flats xs <;> (simp! only [VI25.fdneed_all, hlen, hrep, l1, hf])
      | false =>
        obtain ⟨e', l2⟩ := l2 hok
        rcases items_row hr with rfl | rfl
        · (simp! only [VI25.fdneed_all, hlen, hrep, l2])
        · cases hf : D.flats xs <;> (simp! only [VI25.fdneed_all, hlen, hrep, l2, hf])
    · rcases items_row hr with rfl | rfl
      · (simp! only [VI25.fdneed_all, hlen, he, hl])
      · cases hf : D.flats xs <;> (simp! only [VI25.fdneed_all, hlen, he, hl, hf])
end
end VI.P
set_option autoImplicit true
set_option Elab.async false
set_option linter.all false
set_option maxRecDepth 100000
set_option maxHeartbeats 4000000
namespace VI.P
open PySem PySem.Spec PyProof.Rows L2
theorem okRow_iff {w : Int} : ∀ {xs : List D} {done : List Int}, okRow w done xs = true ↔ ∃ ns : List Int, xs = ns.map .int ∧ (∀ x ∈ ns, 0 ≤ x ∧ x < w) ∧ ns.Nodup ∧ ∀ x ∈ ns, x ∉ done
  | [], done => by
    constructor
    · intro _; exact ⟨[], rfl, by simp, by simp, by simp⟩
    · intro _; simp [okRow]
  | x :: xs, done => by
    constructor
    · intro h
      cases x with
      | int i =>
        have h' : (decide (0 ≤ i ∧ i < w) && !done.contains i && okRow w (i :: done) xs) = true := h
        simp only [Bool.and_eq_true, decide_eq_true_eq, Bool.not_eq_true'] at h'
        obtain ⟨⟨h1, h2⟩, h3⟩ := h'
        obtain ⟨ns, rfl, a, b, c⟩ := okRow_iff.mp h3
        refine ⟨i :: ns, rfl, fun x hx => ?_, List.nodup_cons.mpr ⟨fun z => (c i z) List.mem_cons_self, b⟩, fun x hx => ?_⟩
        · rcases List.mem_cons.mp hx with rfl | hx
          · exact h1
          · exact a x hx
        · rcases List.mem_cons.mp hx with rfl | hx
          · intro z; rw [List.contains_iff_mem.mpr z] at h2; cases h2
          · exact fun z => c x hx (List.mem_cons_of_mem _ z)
      | _ => simp [okRow] at h
    · rintro ⟨ns, e, a, b, c⟩
      cases ns with
      | nil => cases e
      | cons i ns =>
        rw [List.map_cons] at e
        injection e with e1 e2
        subst e1
        show (decide (0 ≤ i ∧ i < w) && !done.contains i && okRow w (i :: done) xs) = true
        have nd := List.nodup_cons.mp b
        have h2 : done.contains i = false := by
          cases z : done.contains i with
          | false => rfl
          | true => exact absurd (List.contains_iff_mem.mp z) (c i List.mem_cons_self)
        have h3 : okRow w (i :: done) xs = true := okRow_iff.mpr ⟨ns, e2, fun x hx => a x (List.mem_cons_of_mem _ hx), nd.2, fun x hx z => by
          rcases List.mem_cons.mp z with rfl | z
          · exact nd.1 hx
          · exact c x (List.mem_cons_of_mem _ hx) z⟩
        rw [h2, h3, decide_eq_true (a i List.mem_cons_self)]; rfl
structure Ordn (w : Int) (ns : List Int) : Prop where
  len : (ns.length : Int) = w
  rng : ∀ x ∈ ns, 0 ≤ x ∧ x < w
  nd : ns.Nodup
theorem isOrd_iff {w : Int} {v : D} : isOrd w v = true ↔ ∃ ns, rowOf v = some (ns.map .int) ∧ Ordn w ns := by
  unfold isOrd
  cases hr : rowOf v with
  | none => simp
  | some xs =>
    simp only [Bool.and_eq_true, decide_eq_true_eq]
    constructor
    · rintro ⟨h1, h2⟩
      obtain ⟨ns, rfl, a, b, _⟩ := okRow_iff.mp h2
      exact ⟨ns, rfl, by simpa using h1, a, b⟩
    · rintro ⟨ns, e, o⟩
      cases e
      exact ⟨by simpa using o.len, okRow_iff.mpr ⟨ns, rfl, o.rng, o.nd, by simp⟩⟩
theorem perm_of_sub {α : Type} [DecidableEq α] : ∀ {ns ms : List α}, ns.Nodup → (∀ x ∈ ns, x ∈ ms) → ns.length = ms.length → ns.Perm ms
  | [], ms, _, _, h => by
    have : ms = [] := List.length_eq_zero_iff.mp h.symm
    rw [this]
  | x :: ns, ms, nd, hs, hl => by
    have n := List.nodup_cons.mp nd
    have hx : x ∈ ms := hs x List.mem_cons_self
    have p1 := List.perm_cons_erase hx
    have ih := perm_of_sub (ns := ns) (ms := ms.erase x) n.2 (fun y hy => by
      have hne : y ≠ x := fun z => n.1 (z ▸ hy)
      exact (List.mem_erase_of_ne hne).mpr (hs y (List.mem_cons_of_mem _ hy))) (by
      rw [List.length_erase_of_mem hx]
      have : 1 ≤ ms.length := List.length_pos_of_mem hx
      rw [List.length_cons] at hl; omega)
    exact (ih.cons x).trans p1.symm
theorem rngL_sorted (a b : Int) : (rngL a b).Pairwise (fun x y => decide (x ≤ y) = true) := by
  unfold rngL
  rw [List.pairwise_map]
  have := List.pairwise_lt_range (n := (b - a).toNat)
  exact this.imp fun h => by simp; omega
theorem Ordn.perm {w : Int} {ns : List Int} (o : Ordn w ns) : ns.Perm (rngL 0 w) :=
  perm_of_sub o.nd (fun x hx => rngL_mem.mpr (o.rng x hx)) (by rw [rngL_len]; have := o.len; omega)
theorem ordn_of_perm {w : Int} {ns : List Int} (hw : 0 ≤ w) (h : ns.Perm (rngL 0 w)) : Ordn w ns :=
  ⟨by rw [h.length_eq, rngL_len]; omega, fun x hx => rngL_mem.mp (h.mem_iff.mp hx), (h.nodup_iff).mpr (rngL_nodup 0 w)⟩
theorem sorted_eq : ∀ {a b : List Int}, a.Perm b → a.Pairwise (fun x y => decide (x ≤ y) = true) → b.Pairwise (fun x y => decide (x ≤ y) = true) → a = b
  | [], b, h, _, _ => h.symm.eq_nil.symm
  | x :: a, [], h, _, _ => absurd h.length_eq (by simp)
  | x :: a, y :: b, h, ha, hb => by
    rw [List.pairwise_cons] at ha hb
    have hx : x ∈ y :: b := h.mem_iff.mp List.mem_cons_self
    have hy : y ∈ x :: a := h.mem_iff.mpr List.mem_cons_self
    have e : x = y := by
      rcases List.mem_cons.mp hx with e | hx
      · exact e
      · rcases List.mem_cons.mp hy with e | hy
        · exact e.symm
        · have q1 := of_decide_eq_true (hb.1 x hx)
          have q2 := of_decide_eq_true (ha.1 y hy)
          omega
    subst e
    rw [sorted_eq (List.Perm.cons_inv h) ha.2 hb.2]
theorem sort_rng {w : Int} {ns : List Int} (hw : 0 ≤ w) (hl : (ns.length : Int) = w) : ns.mergeSort (fun a b => decide (a ≤ b)) = rngL 0 w ↔ Ordn w ns := by
  constructor
  · intro h
    have p := List.mergeSort_perm ns (fun a b => decide (a ≤ b))
    rw [h] at p
    exact ordn_of_perm hw p.symm
  · intro o
    have p := (List.mergeSort_perm ns (fun a b => decide (a ≤ b))).trans o.perm
    refine sorted_eq p ?_ (rngL_sorted 0 w)
    exact List.pairwise_mergeSort (fun a b c h1 h2 => by simp at *; omega) (fun a b => by simp; omega) ns
theorem eqvAll_ints : ∀ (ns ms : List Int), PyData.eqvAll (ns.map .int) (ms.map .int) = decide (ns = ms)
  | [], [] => rfl
  | [], _ :: _ => rfl
  | _ :: _, [] => rfl
  | n :: ns, m :: ms => by
    have ih := eqvAll_ints ns ms
    show (PyData.eqv (.int n) (.int m) && PyData.eqvAll (ns.map .int) (ms.map .int)) = _
    rw [ih]
    have : PyData.eqv (.int n) (.int m) = decide (n = m) := rfl
    rw [this]
    by_cases h1 : n = m <;> by_cases h2 : ns = ms <;> simp [h1, h2]
theorem depthAll_ints : ∀ ns : List Int, PyData.depthAll (ns.map .int) = 0
  | [] => rfl
  | n :: ns => by
    show max (PyData.depth (.int n)) (PyData.depthAll (ns.map .int)) = 0
    rw [depthAll_ints ns]; rfl
theorem canLay_ints : ∀ ns : List Int, PyData.canLayAll0 (ns.map .int) = true
  | [] => rfl
  | n :: ns => by
    show (PyData.canLay0 (.int n) && PyData.canLayAll0 (ns.map .int)) = true
    rw [canLay_ints ns]; rfl
theorem pys_ints : ∀ ns : List Int, D.pys (ns.map .int) = some (ns.map .int)
  | [] => rfl
  | n :: ns => by
    show (match D.py (.int n), D.pys (ns.map .int) with | some a, some as => some (a :: as) | _, _ => none) = _
    rw [pys_ints ns]; rfl
theorem shaped_ints (ns : List Int) : SeqAt.shaped (.list (ns.map .int)) = true := by
  unfold SeqAt.shaped
  have h1 : PyData.canLay0 (.list (ns.map .int)) = true := canLay_ints ns
  have h2 : PyData.depth (.list (ns.map .int)) = 1 := by
    show PyData.depthAll (ns.map .int) + 1 = 1
    rw [depthAll_ints]
  rw [h1, h2]; rfl
theorem eqV_ints (ns ms : List Int) : eqV (.lst (ns.map .int)) (.lst (ms.map .int)) = some (decide (ns = ms)) := by
  unfold eqV
  have h1 : ∀ ks : List Int, D.py (.lst (ks.map .int)) = some (.list (ks.map .int)) := fun ks => by
    show (D.pys (ks.map .int)).map PyData.list = _
    rw [pys_ints]; rfl
  rw [h1, h1]
  dsimp only
  rw [shaped_ints, shaped_ints]
  show some (PyData.eqvAll (ns.map .int) (ms.map .int)) = _
  rw [eqvAll_ints]
def ioB : CSs := .cons (.ite (.not (.fn "_law_is_int" (.cons (.var 2) .nil))) (.cons (.ret (.bl false)) .nil) .nil) .nil
section
variable {p : Pg} {n : Nat}
theorem io_loop (h : Has p fd_law_is_int) {e0 e1 : Option (Nat × D)} : ∀ (xs : List D) (o : Option (Nat × D)), (∀ x ∈ xs, x.plain = true) →
    (xs.all isI = true → ∃ o', forS (p.sm (n + 1)) (.name 2) ioB [] (.own 0) xs [e0, e1, o] = .nx [e0, e1, o']) ∧
    (xs.all isI = false → ∃ e', forS (p.sm (n + 1)) (.name 2) ioB [] (.own 0) xs [e0, e1, o] = .rt 9 (.bl false) e')
  | [], o, _ => ⟨fun _ => ⟨o, by rw [forS_nil]⟩, fun z => by simp at z⟩
  | x :: xs, o, hp => by
    have ii : p.ino "_law_is_int" = false := h.ino
    have hc := is_int_call (n := n) h (hp x List.mem_cons_self)
    cases hx : isI x with
    | true =>
      have hf : x.flat = true := by cases x <;> first | rfl | cases hx
      have ih := io_loop h (e0 := e0) (e1 := e1) xs (some (9, x)) fun y hy => hp y (List.mem_cons_of_mem _ hy)
      have step : forS (p.sm (n + 1)) (.name 2) ioB [] (.own 0) (x :: xs) [e0, e1, o] = forS (p.sm (n + 1)) (.name 2) ioB [] (.own 0) xs [e0, e1, some (9, x)] := by
        rw [forS_cons]
        (simp! only [ioB, ii, hc, hx, hf])
      rw [step]
      simp only [List.all_cons, hx, Bool.true_and]
      exact ih
    | false =>
      refine ⟨fun z => by simp [hx] at z, fun _ => ?_⟩
      rw [forS_cons]
      cases hf : x.flat with
      | true => exact ⟨_, by (simp! only [ioB, ii, hc, hx, hf]); rfl⟩
      | false => exact ⟨_, by (simp! only [ioB, ii, hc, hx, hf]); rfl⟩
theorem all_ints {xs : List D} : xs.all isI = true ↔ ∃ ns : List Int, xs = ns.map .int := by
  constructor
  · induction xs with
    | nil => intro _; exact ⟨[], rfl⟩
    | cons x xs ih =>
      intro h
      rw [List.all_cons, Bool.and_eq_true] at h
      obtain ⟨ns, rfl⟩ := ih h.2
      cases x with
      | int i => exact ⟨i :: ns, rfl⟩
      | _ => cases h.1
  · rintro ⟨ns, rfl⟩
    simp [isI]
theorem is_order_call (h : Has p VI25.fd_law_is_order) (hr : Has p fd_law_is_row) (hi : Has p fd_law_is_int) {w : Int} {v : D} (hw1 : 1 ≤ w) (hw12 : w ≤ 60) (hp : v.plain = true) : p.callN (n + 2) "_law_is_order" [(0, .int w), (0, v)] = .ok 9 (.bl (isOrd w v)) none := by
  refine (h.call (n + 1) _ rfl).trans ?_
  have ir : p.ino "_law_is_row" = false := hr.ino
  have hrc := is_row_call (n := n) hr hp
  cases hro : rowOf v with
  | none =>
    have : isOrd w v = false := by simp [isOrd, hro]
    rw [this]
    rw [hro] at hrc
    cases hf : v.flat <;> (simp! only [VI25.fd_law_is_order, ir, hrc, hf, Option.isSome_none])
  | some xs =>
    rw [hro] at hrc
    have hpx := D.plains_all.mp (rowOf_plain hro hp)
    have hio : isOrd w v = (decide ((xs.length : Int) = w) && okRow w [] xs) := by simp [isOrd, hro]
    by_cases hlen : (xs.length : Int) = w
    · obtain ⟨l1, l2⟩ := io_loop (n := n) hi (e0 := some (0, .int w)) (e1 := some (0, v)) xs none hpx
      unfold ioB at l1 l2
      cases ha : xs.all isI with
      | true =>
        obtain ⟨ns, rfl⟩ := all_ints.mp ha
        obtain ⟨o', l1⟩ := l1 ha
        rw [List.length_map] at hlen
        have hd : isOrd w v = decide (ns.mergeSort (fun a b => decide (a ≤ b)) = rngL 0 w) := by
          have e : isOrd w v = true ↔ ns.mergeSort (fun a b => decide (a ≤ b)) = rngL 0 w := by
            rw [sort_rng (by omega) hlen, isOrd_iff]
            constructor
            · rintro ⟨ms, e, o⟩
              rw [hro] at e
              have : ns = ms := by
                have := Option.some.inj e
                exact (List.map_inj_right (fun a b h => by injection h)).mp this
              exact this ▸ o
            · intro o; exact ⟨ns, hro, o⟩
          cases z : isOrd w v with
          | true => rw [decide_eq_true (e.mp z)]
          | false =>
            rw [decide_eq_false (fun q => by rw [e.mpr q] at z; cases z)]
        rw [hd]
        have hs := bi_sorted (t := .own 10) (intsD_map (ns := ns)) (by rw [List.length_map]; omega)
        have he := eqV_ints (ns.mergeSort (fun a b => decide (a ≤ b))) (rngL 0 w)
        rcases items_row hro with rfl | rfl
        · (simp! only [VI25.fd_law_is_order, ir, hrc, hlen, l1, hs, he])
        · (simp! only [VI25.fd_law_is_order, ir, hrc, hlen, l1, hs, he])
      | false =>
        obtain ⟨e', l2⟩ := l2 ha
        have : isOrd w v = false := by
          cases z : isOrd w v with
          | false => rfl
          | true =>
            obtain ⟨ns, e, _⟩ := isOrd_iff.mp z
            rw [hro] at e
            rw [Option.some.inj e, all_ints.mpr ⟨ns, rfl⟩] at ha
            cases ha
        rw [this]
        rcases items_row hro with rfl | rfl <;> cases hf : D.flats xs <;> (simp! only [VI25.fd_law_is_order, ir, hrc, hlen, l2, hf])
    · rw [hio, decide_eq_false hlen]
      rcases items_row hro with rfl | rfl <;> cases hf : D.flats xs <;> (simp! only [VI25.fd_law_is_order, ir, hrc, hlen, hf])
end
end VI.P
set_option autoImplicit true
set_option Elab.async false
set_option linter.all false
set_option maxRecDepth 100000
set_option maxHeartbeats 4000000
namespace VI.P
open PySem PySem.Spec PyProof.Rows L2
def fwd (ln : List Int) : Int → Int → List Int → Bool
  | _, _, [] => true
  | lo, hi, t :: ts => if (ln.idxOf t : Int) = lo - 1 then fwd ln (ln.idxOf t) hi ts else if (ln.idxOf t : Int) = hi + 1 then fwd ln lo (ln.idxOf t) ts else false
def peakV (ln : List Int) : List Int → Bool
  | [] => true
  | t :: ts => fwd ln (ln.idxOf t) (ln.idxOf t) ts
def bwd : List Int → List Int → Bool
  | _, [] => true
  | left, t :: ts => if left[0]? = some t then bwd (left.eraseIdx 0) ts else if left[left.length - 1]? = some t then bwd left.dropLast ts else false
section
variable {p : Pg} {n : Nat}
def rowD (b : Bool) (ns : List Int) : D := if b then .lst (ns.map .int) else .tup (ns.map .int)
theorem row_cases {v : D} {ns : List Int} (h : rowOf v = some (ns.map .int)) : ∃ b, v = rowD b ns := by
  rcases items_row h with rfl | rfl
  · exact ⟨true, rfl⟩
  · exact ⟨false, rfl⟩
structure ProgH (p : Pg) : Prop where
  whole : Has p VI25.fdis_whole
  thing : Has p VI25.fdis_thing
  nthings : Has p VI25.fdneed_things
  nall : Has p VI25.fdneed_all
  peaked : Has p VI25.fdis_peaked
  breaker : Has p VI25.fdline_breaker
def fwdB : CSs := .cons (.set 6 (.met "index" (.var 2) (.cons (.var 5) .nil))) (.cons (.ite (.cmp .Eq (.var 6) (.bin .Sub (.var 3) (.int 1))) (.cons (.set 3 (.mv 6)) .nil) (.cons (.ite (.cmp .Eq (.var 6) (.bin .Add (.fz 4 1) (.int 1))) (.cons (.set 4 (.mv 6)) .nil) (.cons (.ret (.bl false)) .nil)) .nil)) .nil)
theorem fwd_loop {b : Bool} {ln : List Int} {e0 e1 : Option (Nat × D)} : ∀ (ts : List Int) (lo hi : Int) (o5 o6 : Option (Nat × D)), (∀ x ∈ ts, x ∈ ln) →
    ∃ e', forS (p.sm n) (.name 5) fwdB [] (.own 0) (ts.map .int) [e0, e1, some (0, rowD b ln), some (9, .int lo), some (9, .int hi), o5, o6] = if fwd ln lo hi ts then .nx e' else .rt 9 (.bl false) e'
  | [], lo, hi, o5, o6, _ => ⟨_, by rw [List.map_nil, forS_nil]; rfl⟩
  | t :: ts, lo, hi, o5, o6, hm => by
    have hml : ∀ (u v : Tg), metV "index" (u, .lst (ln.map .int)) [(v, .int t)] = some (.own 9, .int (ln.idxOf t)) := fun u v => met_index_l intsD_map (hm t List.mem_cons_self)
    have hmt : ∀ (u v : Tg), metV "index" (u, .tup (ln.map .int)) [(v, .int t)] = some (.own 9, .int (ln.idxOf t)) := fun u v => met_index_t intsD_map (hm t List.mem_cons_self)
    rw [List.map_cons, forS_cons]
    unfold fwd
    have hs : ∀ x ∈ ts, x ∈ ln := fun x hx => hm x (List.mem_cons_of_mem _ hx)
    by_cases h1 : (ln.idxOf t : Int) = lo - 1
    · obtain ⟨e', ih⟩ := fwd_loop (e0 := e0) (e1 := e1) (b := b) ts (ln.idxOf t) hi (some (9, .int t)) none hs
      refine ⟨e', ?_⟩
      rw [if_pos h1, ← ih]
      cases b <;> (simp! only [fwdB, rowD, hml, hmt, h1])
    · by_cases h2 : (ln.idxOf t : Int) = hi + 1
      · obtain ⟨e', ih⟩ := fwd_loop (e0 := e0) (e1 := e1) (b := b) ts lo (ln.idxOf t) (some (9, .int t)) none hs
        refine ⟨e', ?_⟩
        rw [if_neg h1, if_pos h2, ← ih]
        cases b <;> (simp! only [fwdB, rowD, hml, hmt, h2])
      · refine ⟨[e0, e1, some (0, rowD b ln), some (9, .int lo), some (9, .int hi), some (9, .int t), some (9, .int (ln.idxOf t))], ?_⟩
        rw [if_neg h1, if_neg h2]
        cases b <;> (simp! only [fwdB, rowD, hml, hmt])
theorem pk_w (H : ProgH p) {w l o : D} (hw : w.plain = true) (hb : isW w = false) : p.callN (n + 4) "is_peaked" [(0, w), (0, o), (0, l)] = .exn "BadNumber" [.str "things"] := by
  refine (H.peaked.call (n + 3) _ rfl).trans ?_
  have i1 : p.ino "need_things" = false := H.nthings.ino
  have hn := need_things_call (n := n + 1) H.nthings H.whole hw
  cases hf : w.flat <;> (simp! only [VI25.fdis_peaked, i1, hn, hb, hf])
theorem pk_o (H : ProgH p) {i : Int} {l o : D} (hb : isW (.int i) = true) (ho : o.plain = true) (ho1 : isOrd i o = false) : p.callN (n + 4) "is_peaked" [(0, .int i), (0, o), (0, l)] = .exn "BadRow" [.str "order"] := by
  refine (H.peaked.call (n + 3) _ rfl).trans ?_
  have i1 : p.ino "need_things" = false := H.nthings.ino
  have i2 : p.ino "need_all" = false := H.nall.ino
  have hn := need_things_call (n := n + 1) H.nthings H.whole (d := .int i) rfl
  have hi : 1 ≤ i ∧ i ≤ 12 := by simpa [isW] using hb
  have h1 := need_all_call (n := n) H.nall H.thing H.whole (w := i) (v := o) (what := "order") (by decide +kernel) hi.1 hi.2 ho
  cases hfo : o.flat <;> (simp! only [VI25.fdis_peaked, i1, i2, hn, hb, h1, ho1, hfo])
theorem pk_l (H : ProgH p) {i : Int} {l o : D} (hb : isW (.int i) = true) (ho : o.plain = true) (hl : l.plain = true) (ho1 : isOrd i o = true) (ho2 : isOrd i l = false) : p.callN (n + 4) "is_peaked" [(0, .int i), (0, o), (0, l)] = .exn "BadRow" [.str "line"] := by
  refine (H.peaked.call (n + 3) _ rfl).trans ?_
  have i1 : p.ino "need_things" = false := H.nthings.ino
  have i2 : p.ino "need_all" = false := H.nall.ino
  have hn := need_things_call (n := n + 1) H.nthings H.whole (d := .int i) rfl
  have hi : 1 ≤ i ∧ i ≤ 12 := by simpa [isW] using hb
  have h1 := need_all_call (n := n) H.nall H.thing H.whole (w := i) (v := o) (what := "order") (by decide +kernel) hi.1 hi.2 ho
  have h2 := need_all_call (n := n) H.nall H.thing H.whole (w := i) (v := l) (what := "line") (by decide +kernel) hi.1 hi.2 hl
  cases hfo : o.flat <;> cases hfl : l.flat <;> (simp! only [VI25.fdis_peaked, i1, i2, hn, hb, h1, h2, ho1, ho2, hfo, hfl])
theorem rowOf_D (b : Bool) (ns : List Int) : rowOf (rowD b ns) = some (ns.map .int) := by cases b <;> rfl
theorem rowD_plain (b : Bool) (ns : List Int) : (rowD b ns).plain = true := by
  have : D.plains (ns.map .int) = true := D.plains_all.mpr fun x hx => by obtain ⟨n, _, rfl⟩ := List.mem_map.mp hx; rfl
  cases b <;> simpa [rowD, D.plain] using this
theorem isOrd_D {w : Int} {b : Bool} {ns : List Int} (h : Ordn w ns) : isOrd w (rowD b ns) = true := isOrd_iff.mpr ⟨ns, rowOf_D b ns, h⟩
theorem pk_ok (H : ProgH p) {i : Int} {b1 b2 : Bool} {os ln : List Int} (hb : isW (.int i) = true) (O : Ordn i os) (L : Ordn i ln) : p.callN (n + 4) "is_peaked" [(0, .int i), (0, rowD b1 os), (0, rowD b2 ln)] = .ok 9 (.bl (peakV ln os)) none := by
  refine (H.peaked.call (n + 3) _ rfl).trans ?_
  have i1 : p.ino "need_things" = false := H.nthings.ino
  have i2 : p.ino "need_all" = false := H.nall.ino
  have hn := need_things_call (n := n + 1) H.nthings H.whole (d := .int i) rfl
  have hi : 1 ≤ i ∧ i ≤ 12 := by simpa [isW] using hb
  have h1 := need_all_call (n := n) H.nall H.thing H.whole (w := i) (v := rowD b1 os) (what := "order") (by decide +kernel) hi.1 hi.2 (rowD_plain _ _)
  have h2 := need_all_call (n := n) H.nall H.thing H.whole (w := i) (v := rowD b2 ln) (what := "line") (by decide +kernel) hi.1 hi.2 (rowD_plain _ _)
  rw [isOrd_D O] at h1
  rw [isOrd_D L] at h2
  obtain ⟨t, ht⟩ : ∃ t, os[0]? = some t := by
    cases os with
    | nil => have := O.len; simp at this; omega
    | cons t ts => exact ⟨t, rfl⟩
  have hpk : peakV ln os = fwd ln (ln.idxOf t) (ln.idxOf t) (os.drop 1) := by
    cases os with
    | nil => cases ht
    | cons t' ts => cases ht; rfl
  have hsub : ∀ x ∈ os, x ∈ ln := fun x hx => (O.perm.trans L.perm.symm).mem_iff.mp hx
  have htl : t ∈ ln := hsub t (List.mem_of_getElem? ht)
  have hml : ∀ (u v : Tg), metV "index" (u, .lst (ln.map .int)) [(v, .int t)] = some (.own 9, .int (ln.idxOf t)) := fun u v => met_index_l intsD_map htl
  have hmt : ∀ (u v : Tg), metV "index" (u, .tup (ln.map .int)) [(v, .int t)] = some (.own 9, .int (ln.idxOf t)) := fun u v => met_index_t intsD_map htl
  rw [hpk]
  have hlo : ∀ e0 e1, ∃ e', forS (p.sm (n + 3)) (.name 5) fwdB [] (.own 0) ((os.drop 1).map .int) [e0, e1, some (0, rowD b2 ln), some (9, .int (ln.idxOf t)), some (9, .int (ln.idxOf t)), none, none] = if fwd ln (ln.idxOf t) (ln.idxOf t) (os.drop 1) then .nx e' else .rt 9 (.bl false) e' := fun e0 e1 => fwd_loop (os.drop 1) (ln.idxOf t) (ln.idxOf t) none none fun x hx => hsub x (List.mem_of_mem_drop hx)
  unfold fwdB at hlo
  cases b1
  · obtain ⟨e', hl2⟩ := hlo (some (0, .int i)) (some (0, .tup (os.map .int)))
    cases hfw : fwd ln (ln.idxOf t) (ln.idxOf t) (os.drop 1) <;> rw [hfw] at hl2 <;> cases b2 <;> simp only [rowD, Bool.false_eq_true, if_false, if_true] at * <;> (simp! only [VI25.fdis_peaked, i1, i2, hn, hb, h1, h2, hml, hmt, ht, hl2])
  · obtain ⟨e', hl2⟩ := hlo (some (0, .int i)) (some (0, .lst (os.map .int)))
    cases hfw : fwd ln (ln.idxOf t) (ln.idxOf t) (os.drop 1) <;> rw [hfw] at hl2 <;> cases b2 <;> simp only [rowD, Bool.false_eq_true, if_false, if_true] at * <;> (simp! only [VI25.fdis_peaked, i1, i2, hn, hb, h1, h2, hml, hmt, ht, hl2])
def bwdB : CSs := .cons (.ite (.cmp .Eq (.var 3) (.sub (.var 2) (.int 0))) (.cons (.exp (.mut "pop" (.var 2) (.cons (.int 0) .nil))) .nil) (.cons (.ite (.cmp .Eq (.var 3) (.sub (.var 2) (.neg (.int 1)))) (.cons (.exp (.mut "pop" (.var 2) .nil)) .nil) (.cons (.ret (.bl false)) .nil)) .nil)) .nil
theorem bwd_loop {e0 e1 : Option (Nat × D)} : ∀ (ts left : List Int) (o : Option (Nat × D)), ts.length ≤ left.length → left.length ≤ 1000 →
    ∃ e', forS (p.sm n) (.name 3) bwdB [] (.own 0) (ts.map .int) [e0, e1, some (10, .lst (left.map .int)), o] = if bwd left ts then .nx e' else .rt 9 (.bl false) e'
  | [], left, o, _, _ => ⟨_, by rw [List.map_nil, forS_nil]; rfl⟩
  | t :: ts, left, o, hl, hm => by
    rw [List.length_cons] at hl
    have h0 : left[0]? = some left[0] := List.getElem?_eq_getElem (by omega)
    have hz : left[left.length - 1]? = some left[left.length - 1] := List.getElem?_eq_getElem (by omega)
    have hlm : (left.map D.int).length = left.length := List.length_map _
    have hpop : mutV "pop" (left.map D.int) [] = some (true, .int left[left.length - 1], left.dropLast.map .int, []) := by
      rw [mut_pop0, hlm, List.getElem?_map, hz, nf_last]; rfl
    rw [List.map_cons, forS_cons]
    unfold bwd
    rw [h0, hz]
    generalize left[0] = x at h0
    generalize left[left.length - 1] = z at hz hpop
    by_cases c1 : t = x
    · subst c1
      obtain ⟨e', ih⟩ := bwd_loop (e0 := e0) (e1 := e1) ts (left.eraseIdx 0) (some (9, .int t)) (by rw [List.length_eraseIdx_of_lt (by omega)]; omega) (by rw [List.length_eraseIdx_of_lt (by omega)]; omega)
      refine ⟨e', ?_⟩
      rw [if_pos rfl, ← ih]
      (simp! only [bwdB, h0])
    · by_cases c2 : t = z
      · subst c2
        obtain ⟨e', ih⟩ := bwd_loop (e0 := e0) (e1 := e1) ts left.dropLast (some (9, .int t)) (by rw [List.length_dropLast]; omega) (by rw [List.length_dropLast]; omega)
        refine ⟨e', ?_⟩
        rw [if_neg (fun q => c1 (Option.some.inj q).symm), if_pos rfl, ← ih]
        (simp! only [bwdB, h0, c1, hz, hpop])
      · refine ⟨[e0, e1, some (10, .lst (left.map .int)), some (9, .int t)], ?_⟩
        rw [if_neg (fun q => c1 (Option.some.inj q).symm), if_neg (fun q => c2 (Option.some.inj q).symm)]
        (simp! only [bwdB, h0, c1, hz, c2])
theorem one_peak_call (h : Has p VI25.fd_law_one_peak) {b1 b2 : Bool} {ln os : List Int} (hl : os.length ≤ ln.length) (hm : ln.length ≤ 1000) : p.callN (n + 1) "_law_one_peak" [(0, rowD b1 ln), (0, rowD b2 os)] = .ok 9 (.bl (bwd ln os.reverse)) none := by
  refine (h.call n _ rfl).trans ?_
  obtain ⟨e', hlo⟩ := bwd_loop (p := p) (n := n) (e0 := some (0, rowD b1 ln)) (e1 := some (0, rowD b2 os)) os.reverse ln none (by rw [List.length_reverse]; omega) hm
  unfold bwdB at hlo
  cases hb : bwd ln os.reverse <;> rw [hb] at hlo <;> cases b1 <;> cases b2 <;> simp only [rowD, Bool.false_eq_true, if_false, if_true] at * <;> (simp! only [VI25.fd_law_one_peak, hlo])
end
def stepI (ln : List Int) (q : Int) (s : Int × Int) : Option (Int × Int) := if (ln.idxOf q : Int) = s.1 - 1 then some (ln.idxOf q, s.2) else if (ln.idxOf q : Int) = s.2 + 1 then some (s.1, ln.idxOf q) else none
def fwdI (ln : List Int) : Int × Int → List Int → Option (Int × Int)
  | s, [] => some s
  | s, t :: ts => (stepI ln t s).bind fun s' => fwdI ln s' ts
theorem fwd_I (ln : List Int) : ∀ (ts : List Int) (s : Int × Int), fwd ln s.1 s.2 ts = (fwdI ln s ts).isSome
  | [], s => rfl
  | t :: ts, s => by
    unfold fwd fwdI stepI
    split
    · exact fwd_I ln ts ((ln.idxOf t : Int), s.2)
    · split
      · exact fwd_I ln ts (s.1, (ln.idxOf t : Int))
      · rfl
theorem fwdI_snoc (ln : List Int) (q : Int) : ∀ (ts : List Int) (s : Int × Int), fwdI ln s (ts ++ [q]) = (fwdI ln s ts).bind (stepI ln q)
  | [], s => by
    show (stepI ln q s).bind (fun s' => some s') = stepI ln q s
    cases stepI ln q s <;> rfl
  | t :: ts, s => by
    show (stepI ln t s).bind (fun s' => fwdI ln s' (ts ++ [q])) = ((stepI ln t s).bind fun s' => fwdI ln s' ts).bind (stepI ln q)
    cases stepI ln t s with
    | none => rfl
    | some s' => exact fwdI_snoc ln q ts s'
theorem fwdI_size {ln : List Int} : ∀ {ts : List Int} {s s' : Int × Int}, fwdI ln s ts = some s' → s'.2 - s'.1 = s.2 - s.1 + ts.length ∧ s'.1 ≤ s.1 ∧ s.2 ≤ s'.2 ∧ (0 ≤ s.1 → 0 ≤ s'.1) ∧ ((∀ x ∈ ts, x ∈ ln) → s.2 < ln.length → s'.2 < ln.length)
  | [], s, s', h => by cases h; simp
  | t :: ts, s, s', h => by
    have h' : (stepI ln t s).bind (fun s' => fwdI ln s' ts) = some s' := h
    cases hs : stepI ln t s with
    | none => rw [hs] at h'; cases h'
    | some s1 =>
      rw [hs] at h'
      obtain ⟨a, b, c, d, e⟩ := fwdI_size (ts := ts) h'
      unfold stepI at hs
      split at hs
      · cases hs
        rename_i q
        simp only [List.length_cons, Int.natCast_add, Int.cast_ofNat_Int] at *
        exact ⟨by omega, by omega, by omega, fun _ => d (by omega), fun hm hl => e (fun x hx => hm x (List.mem_cons_of_mem _ hx)) hl⟩
      · split at hs
        · cases hs
          rename_i q
          simp only [List.length_cons, Int.natCast_add, Int.cast_ofNat_Int] at *
          refine ⟨by omega, by omega, by omega, d, fun hm hl => e (fun x hx => hm x (List.mem_cons_of_mem _ hx)) ?_⟩
          have := List.idxOf_lt_length_of_mem (hm t List.mem_cons_self)
          omega
        · cases hs
def seg (ln : List Int) (l h : Nat) : List Int := (ln.drop l).take (h + 1 - l)
theorem seg_len {ln : List Int} {l h : Nat} (hh : h < ln.length) : (seg ln l h).length = h + 1 - l := by
  unfold seg; rw [List.length_take, List.length_drop]; omega
theorem seg_get {ln : List Int} {l h i : Nat} (hi : i < h + 1 - l) : (seg ln l h)[i]? = ln[l + i]? := by
  unfold seg; rw [List.getElem?_take_of_lt hi, List.getElem?_drop]
theorem seg_tail {ln : List Int} {l h : Nat} (hl : l < h) (hh : h < ln.length) : (seg ln l h).eraseIdx 0 = seg ln (l + 1) h := by
  apply List.ext_getElem?
  intro i
  rw [List.getElem?_eraseIdx]
  rw [if_neg (by omega)]
  by_cases hi : i + 1 < h + 1 - l
  · rw [seg_get hi, seg_get (by omega)]; congr 1; omega
  · rw [List.getElem?_eq_none (by rw [seg_len hh]; omega), List.getElem?_eq_none (by rw [seg_len hh]; omega)]
theorem seg_init {ln : List Int} {l h : Nat} (hl : l < h) (hh : h < ln.length) : (seg ln l h).dropLast = seg ln l (h - 1) := by
  apply List.ext_getElem?
  intro i
  rw [List.getElem?_dropLast]
  rw [seg_len hh]
  by_cases hi : i < h + 1 - l - 1
  · rw [if_pos hi, seg_get (by omega), seg_get (by omega)]
  · rw [if_neg hi, List.getElem?_eq_none (by rw [seg_len (by omega)]; omega)]
theorem get_idx {ln : List Int} {q : Int} {i : Nat} (nd : ln.Nodup) (hi : i < ln.length) (hq : q ∈ ln) : ln[i]? = some q ↔ ln.idxOf q = i := by
  constructor
  · intro h
    have h2 := (List.getElem?_eq_some_iff.mp h).2
    rw [← h2]
    exact nd.idxOf_getElem i hi
  · rintro rfl
    rw [List.getElem?_eq_getElem hi, List.getElem_idxOf]
theorem two_ways {ln : List Int} (nd : ln.Nodup) {t0 : Int} : ∀ (k : Nat) (ts : List Int) (l h : Nat), ts.length = k → h < ln.length → l + ts.length = h → (t0 :: ts).Nodup → (∀ x ∈ t0 :: ts, x ∈ ln ∧ l ≤ ln.idxOf x ∧ ln.idxOf x ≤ h) →
    (fwdI ln (ln.idxOf t0, ln.idxOf t0) ts = some ((l : Int), (h : Int)) ↔ bwd (seg ln l h) (t0 :: ts).reverse = true) := by
  intro k
  induction k with
  | zero =>
    intro ts l h hk hh hlh hnd hm
    obtain rfl := List.length_eq_zero_iff.mp hk
    obtain ⟨m1, m2, m3⟩ := hm t0 List.mem_cons_self
    simp only [List.length_nil] at hlh
    have e1 : ln.idxOf t0 = l := by omega
    have e2 : l = h := by omega
    subst e2
    rw [e1]
    constructor
    · intro _
      show bwd (seg ln l l) [t0] = true
      unfold bwd
      rw [seg_get (by omega), (get_idx nd (by omega) m1).mpr (by omega), if_pos rfl]
      rfl
    · intro _; rfl
  | succ k ih =>
    intro ts l h hk hh hlh hnd hm
    rcases List.eq_nil_or_concat ts with rfl | ⟨ts', q, rfl⟩
    · simp at hk
    rw [List.concat_eq_append] at *
    rw [List.length_append, List.length_singleton] at hk hlh
    have hq : q ∈ t0 :: (ts' ++ [q]) := by simp
    obtain ⟨q1, q2, q3⟩ := hm q hq
    have hrev : (t0 :: (ts' ++ [q])).reverse = q :: (t0 :: ts').reverse := by simp
    have hnd' : (t0 :: ts').Nodup ∧ q ∉ t0 :: ts' := by
      have e : t0 :: (ts' ++ [q]) = (t0 :: ts') ++ [q] := by simp
      rw [e] at hnd
      obtain ⟨a, _, c⟩ := List.nodup_append.mp hnd
      exact ⟨a, fun z => c q z q (by simp) rfl⟩
    have hsub : ∀ x ∈ t0 :: ts', x ∈ t0 :: (ts' ++ [q]) := fun x hx => by
      rcases List.mem_cons.mp hx with rfl | hx
      · simp
      · simp [hx]
    have hne : ∀ x ∈ t0 :: ts', ln.idxOf x ≠ ln.idxOf q := fun x hx e => by
      have a1 := (get_idx nd (i := ln.idxOf q) (by omega) (hm x (hsub x hx)).1).mpr e
      have a2 := (get_idx nd (i := ln.idxOf q) (by omega) q1).mpr rfl
      rw [a1] at a2
      exact hnd'.2 (Option.some.inj a2 ▸ hx)
    rw [fwdI_snoc, hrev]
    unfold bwd
    rw [seg_get (by omega), seg_len hh, seg_get (by omega), Nat.add_zero, show l + (h + 1 - l - 1) = h by omega]
    by_cases c1 : ln.idxOf q = l
    · rw [if_pos ((get_idx nd (by omega) q1).mpr c1), seg_tail (by omega) hh]
      have i1 := ih ts' (l + 1) h (by omega) hh (by omega) hnd'.1 fun x hx => by
        obtain ⟨m1, m2, m3⟩ := hm x (hsub x hx)
        have := hne x hx
        exact ⟨m1, by omega, m3⟩
      rw [← i1]
      cases hf : fwdI ln (ln.idxOf t0, ln.idxOf t0) ts' with
      | none => simp
      | some s =>
        obtain ⟨z1, z2, z3, _⟩ := fwdI_size hf
        simp only [Option.bind_some, stepI, Option.some.injEq]
        constructor
        · intro e
          split at e
          · have e2 := congrArg Prod.fst (Option.some.inj e); have e3 := congrArg Prod.snd (Option.some.inj e); dsimp only at e2 e3; ext <;> simp <;> omega
          · split at e
            · have e2 := congrArg Prod.fst (Option.some.inj e); have e3 := congrArg Prod.snd (Option.some.inj e); dsimp only at e2 e3
              exfalso
              simp only at z1
              omega
            · cases e
        · intro e
          subst e
          rw [if_pos (by simp; omega), c1]
    · rw [if_neg (fun z => c1 ((get_idx nd (by omega) q1).mp z))]
      by_cases c2 : ln.idxOf q = h
      · rw [if_pos ((get_idx nd (by omega) q1).mpr c2), seg_init (by omega) hh]
        have i1 := ih ts' l (h - 1) (by omega) (by omega) (by omega) hnd'.1 fun x hx => by
          obtain ⟨m1, m2, m3⟩ := hm x (hsub x hx)
          have := hne x hx
          exact ⟨m1, m2, by omega⟩
        rw [← i1]
        cases hf : fwdI ln (ln.idxOf t0, ln.idxOf t0) ts' with
        | none => simp
        | some s =>
          obtain ⟨z1, z2, z3, _⟩ := fwdI_size hf
          simp only [Option.bind_some, stepI, Option.some.injEq]
          constructor
          · intro e
            split at e
            · have e2 := congrArg Prod.fst (Option.some.inj e); have e3 := congrArg Prod.snd (Option.some.inj e); dsimp only at e2 e3; exfalso; omega
            · split at e
              · have e2 := congrArg Prod.fst (Option.some.inj e); have e3 := congrArg Prod.snd (Option.some.inj e); dsimp only at e2 e3; ext <;> simp <;> omega
              · cases e
          · intro e
            subst e
            rw [if_neg (by simp; omega), if_pos (by simp; omega), c2]
      · rw [if_neg (fun z => c2 ((get_idx nd (by omega) q1).mp z))]
        simp only [Bool.false_eq_true, iff_false]
        cases hf : fwdI ln (ln.idxOf t0, ln.idxOf t0) ts' with
        | none => simp
        | some s =>
          simp only [Option.bind_some, stepI]
          split
          · intro e; have e2 := congrArg Prod.fst (Option.some.inj e); have e3 := congrArg Prod.snd (Option.some.inj e); dsimp only at e2 e3; omega
          · split
            · intro e; have e2 := congrArg Prod.fst (Option.some.inj e); have e3 := congrArg Prod.snd (Option.some.inj e); dsimp only at e2 e3; omega
            · intro e; cases e
theorem peak_same {w : Int} {ln os : List Int} (L : Ordn w ln) (O : Ordn w os) (hw : 1 ≤ w) : peakV ln os = bwd ln os.reverse := by
  cases os with
  | nil => have := O.len; simp at this; omega
  | cons t0 ts =>
    have hsub : ∀ x ∈ t0 :: ts, x ∈ ln := fun x hx => (O.perm.trans L.perm.symm).mem_iff.mp hx
    have hlen : (t0 :: ts).length = ln.length := (O.perm.trans L.perm.symm).length_eq
    rw [List.length_cons] at hlen
    have key := two_ways L.nd (t0 := t0) ts.length ts 0 (ln.length - 1) rfl (by omega) (by omega) O.nd fun x hx => by
      have := List.idxOf_lt_length_of_mem (hsub x hx)
      exact ⟨hsub x hx, by omega, by omega⟩
    have hseg : seg ln 0 (ln.length - 1) = ln := by
      unfold seg; rw [List.drop_zero, List.take_of_length_le (by omega)]
    rw [hseg] at key
    have e : peakV ln (t0 :: ts) = (fwdI ln (ln.idxOf t0, ln.idxOf t0) ts).isSome := fwd_I ln ts (_, _)
    rw [e]
    cases hf : fwdI ln (ln.idxOf t0, ln.idxOf t0) ts with
    | none =>
      rw [hf] at key
      cases hb : bwd ln (t0 :: ts).reverse with
      | false => rfl
      | true => exact absurd (key.mpr hb) (by simp)
    | some s =>
      obtain ⟨z1, z2, z3, z4, z5⟩ := fwdI_size hf
      have i0 := List.idxOf_lt_length_of_mem (hsub t0 List.mem_cons_self)
      have z4 := z4 (by simp)
      have z5 := z5 (fun x hx => hsub x (List.mem_cons_of_mem _ hx)) (by simp; omega)
      simp only at z1
      have : s = (((0 : Nat) : Int), ((ln.length - 1 : Nat) : Int)) := by
        ext <;> simp <;> omega
      rw [hf, this] at key
      rw [key.mp rfl]; rfl
end VI.P
set_option autoImplicit true
set_option Elab.async false
set_option linter.all false
set_option maxRecDepth 100000
set_option maxHeartbeats 4000000
namespace VI.P
open PySem PySem.Spec PyProof.Rows L2
def trip (ln rk : List Int) (a b c : Int) : Option D := if gI rk a < gI rk b ∧ gI rk c < gI rk b then some (.tup [.int (gI ln a), .int (gI ln b), .int (gI ln c)]) else none
def brk3 (w : Int) (ln rk : List Int) (a b : Int) : Option D := (rngL (b + 1) w).findSome? (trip ln rk a b)
def brk2 (w : Int) (ln rk : List Int) (a : Int) : Option D := (rngL (a + 1) w).findSome? (brk3 w ln rk a)
def brk1 (w : Int) (ln rk : List Int) : Option D := (rngL 0 w).findSome? (brk2 w ln rk)
def lbB3 : CSs := .cons (.ite (.and (.cmp .Gt (.sub (.var 3) (.var 6)) (.sub (.var 3) (.var 5))) (.cmp .Gt (.sub (.var 3) (.var 6)) (.sub (.var 3) (.var 7)))) (.cons (.ret (.tup (.cons (.sub (.fz 1 1) (.var 5)) (.cons (.sub (.fz 1 1) (.var 6)) (.cons (.sub (.fz 1 1) (.var 7)) .nil))))) .nil) .nil) .nil
def lbB2 : CSs := .cons (.for (.name 7) (.rng2 (.bin .Add (.fz 6 1) (.int 1)) (.var 0)) lbB3) .nil
def lbB1 : CSs := .cons (.for (.name 6) (.rng2 (.bin .Add (.fz 5 1) (.int 1)) (.var 0)) lbB2) .nil
section
variable {p : Pg} {n : Nat}
theorem lb_3 {w : Int} {ln rk : List Int} {b1 : Bool} {e2 e4 : Option (Nat × D)} (hl : (ln.length : Int) = w) (hr : (rk.length : Int) = w) {a b : Int} (ha : 0 ≤ a) (ha2 : a < w) (hb : 0 ≤ b) (hb2 : b < w) (j : Option (Nat × D)) :
    (brk3 w ln rk a b = none → ∃ j', forS (p.sm n) (.name 7) lbB3 [] (.own 9) ((rngL (b + 1) w).map .int) [some (0, .int w), some (0, rowD b1 ln), e2, some (10, .lst (rk.map .int)), e4, some (9, .int a), some (9, .int b), j] = .nx [some (0, .int w), some (0, rowD b1 ln), e2, some (10, .lst (rk.map .int)), e4, some (9, .int a), some (9, .int b), j']) ∧
    ∀ d, brk3 w ln rk a b = some d → ∃ e', forS (p.sm n) (.name 7) lbB3 [] (.own 9) ((rngL (b + 1) w).map .int) [some (0, .int w), some (0, rowD b1 ln), e2, some (10, .lst (rk.map .int)), e4, some (9, .int a), some (9, .int b), j] = .rt 9 d e' := by
  refine loop_find .int (fun j => [some (0, .int w), some (0, rowD b1 ln), e2, some (10, .lst (rk.map .int)), e4, some (9, .int a), some (9, .int b), j]) (trip ln rk a b) 9 (rngL (b + 1) w) (fun c hc j => ?_) j
  obtain ⟨c0, c1⟩ := rngL_mem.mp hc
  have r1 := gI_at (l := rk) ha (by omega)
  have r2 := gI_at (l := rk) hb (by omega)
  have r3 := gI_at (l := rk) (i := c) (by omega) (by omega)
  have l1 := gI_at (l := ln) ha (by omega)
  have l2 := gI_at (l := ln) hb (by omega)
  have l3 := gI_at (l := ln) (i := c) (by omega) (by omega)
  unfold trip
  by_cases h1 : gI rk a < gI rk b
  · by_cases h2 : gI rk c < gI rk b
    · rw [if_pos ⟨h1, h2⟩]
      refine ⟨(fun z => nomatch z), fun d z => ?_⟩
      cases z
      cases b1 <;> exact ⟨_, by (simp! only [lbB3, rowD, r1, r2, r3, l1, l2, l3, h1, h2]); rfl⟩
    · rw [if_neg (fun z => h2 z.2)]
      refine ⟨fun _ => ⟨some (9, .int c), ?_⟩, fun d z => nomatch z⟩
      cases b1 <;> (simp! only [lbB3, rowD, r1, r2, r3, h1, h2])
  · rw [if_neg (fun z => h1 z.1)]
    refine ⟨fun _ => ⟨some (9, .int c), ?_⟩, fun d z => nomatch z⟩
    cases b1 <;> (simp! only [lbB3, rowD, r1, r2, r3, h1])
theorem lb_2 {w : Int} {ln rk : List Int} {b1 : Bool} {e2 e4 : Option (Nat × D)} (hw : w ≤ 1000) (hl : (ln.length : Int) = w) (hr : (rk.length : Int) = w) {a : Int} (ha : 0 ≤ a) (ha2 : a < w) (j : Option (Nat × D) × Option (Nat × D)) :
    (brk2 w ln rk a = none → ∃ j' : Option (Nat × D) × Option (Nat × D), forS (p.sm n) (.name 6) lbB2 [] (.own 9) ((rngL (a + 1) w).map .int) [some (0, .int w), some (0, rowD b1 ln), e2, some (10, .lst (rk.map .int)), e4, some (9, .int a), j.1, j.2] = .nx [some (0, .int w), some (0, rowD b1 ln), e2, some (10, .lst (rk.map .int)), e4, some (9, .int a), j'.1, j'.2]) ∧
    ∀ d, brk2 w ln rk a = some d → ∃ e', forS (p.sm n) (.name 6) lbB2 [] (.own 9) ((rngL (a + 1) w).map .int) [some (0, .int w), some (0, rowD b1 ln), e2, some (10, .lst (rk.map .int)), e4, some (9, .int a), j.1, j.2] = .rt 9 d e' := by
  refine loop_find .int (fun j : Option (Nat × D) × Option (Nat × D) => [some (0, .int w), some (0, rowD b1 ln), e2, some (10, .lst (rk.map .int)), e4, some (9, .int a), j.1, j.2]) (brk3 w ln rk a) 9 (rngL (a + 1) w) (fun b hb j => ?_) j
  obtain ⟨c0, c1⟩ := rngL_mem.mp hb
  obtain ⟨i1, i2⟩ := lb_3 (p := p) (n := n) (b1 := b1) (e2 := e2) (e4 := e4) hl hr ha ha2 (b := b) (by omega) (by omega) j.2
  refine ⟨fun z => ?_, fun d z => ?_⟩
  · obtain ⟨j', e⟩ := i1 z
    refine ⟨(some (9, .int b), j'), ?_⟩
    (simp! only [lbB2, e])
  · obtain ⟨e', e⟩ := i2 d z
    refine ⟨e', ?_⟩
    (simp! only [lbB2, e])
theorem lb_1 {w : Int} {ln rk : List Int} {b1 : Bool} {e2 e4 : Option (Nat × D)} (hw : w ≤ 1000) (hl : (ln.length : Int) = w) (hr : (rk.length : Int) = w) (j : Option (Nat × D) × Option (Nat × D) × Option (Nat × D)) :
    (brk1 w ln rk = none → ∃ j' : Option (Nat × D) × Option (Nat × D) × Option (Nat × D), forS (p.sm n) (.name 5) lbB1 [] (.own 9) ((rngL 0 w).map .int) [some (0, .int w), some (0, rowD b1 ln), e2, some (10, .lst (rk.map .int)), e4, j.1, j.2.1, j.2.2] = .nx [some (0, .int w), some (0, rowD b1 ln), e2, some (10, .lst (rk.map .int)), e4, j'.1, j'.2.1, j'.2.2]) ∧
    ∀ d, brk1 w ln rk = some d → ∃ e', forS (p.sm n) (.name 5) lbB1 [] (.own 9) ((rngL 0 w).map .int) [some (0, .int w), some (0, rowD b1 ln), e2, some (10, .lst (rk.map .int)), e4, j.1, j.2.1, j.2.2] = .rt 9 d e' := by
  refine loop_find .int (fun j : Option (Nat × D) × Option (Nat × D) × Option (Nat × D) => [some (0, .int w), some (0, rowD b1 ln), e2, some (10, .lst (rk.map .int)), e4, j.1, j.2.1, j.2.2]) (brk2 w ln rk) 9 (rngL 0 w) (fun a ha j => ?_) j
  obtain ⟨c0, c1⟩ := rngL_mem.mp ha
  obtain ⟨i1, i2⟩ := lb_2 (p := p) (n := n) (b1 := b1) (e2 := e2) (e4 := e4) hw hl hr c0 c1 j.2
  refine ⟨fun z => ?_, fun d z => ?_⟩
  · obtain ⟨j', e⟩ := i1 z
    refine ⟨(some (9, .int a), j'), ?_⟩
    (simp! only [lbB1, e])
  · obtain ⟨e', e⟩ := i2 d z
    refine ⟨e', ?_⟩
    (simp! only [lbB1, e])
def optD (o : Option D) : D := match o with
  | some d => d
  | none => .non
theorem lb_w (H : ProgH p) {w l o : D} (hw : w.plain = true) (hb : isW w = false) : p.callN (n + 4) "line_breaker" [(0, w), (0, l), (0, o)] = .exn "BadNumber" [.str "things"] := by
  refine (H.breaker.call (n + 3) _ rfl).trans ?_
  have i1 : p.ino "need_things" = false := H.nthings.ino
  have hn := need_things_call (n := n + 1) H.nthings H.whole hw
  cases hf : w.flat <;> (simp! only [VI25.fdline_breaker, i1, hn, hb, hf])
theorem lb_l (H : ProgH p) {i : Int} {l o : D} (hb : isW (.int i) = true) (ho : l.plain = true) (ho1 : isOrd i l = false) : p.callN (n + 4) "line_breaker" [(0, .int i), (0, l), (0, o)] = .exn "BadRow" [.str "line"] := by
  refine (H.breaker.call (n + 3) _ rfl).trans ?_
  have i1 : p.ino "need_things" = false := H.nthings.ino
  have i2 : p.ino "need_all" = false := H.nall.ino
  have hn := need_things_call (n := n + 1) H.nthings H.whole (d := .int i) rfl
  have hi : 1 ≤ i ∧ i ≤ 12 := by simpa [isW] using hb
  have h1 := need_all_call (n := n) H.nall H.thing H.whole (w := i) (v := l) (what := "line") (by decide +kernel) hi.1 hi.2 ho
  cases hfo : l.flat <;> (simp! only [VI25.fdline_breaker, i1, i2, hn, hb, h1, ho1, hfo])
theorem lb_o (H : ProgH p) {i : Int} {l o : D} (hb : isW (.int i) = true) (ho : o.plain = true) (hl : l.plain = true) (ho1 : isOrd i l = true) (ho2 : isOrd i o = false) : p.callN (n + 4) "line_breaker" [(0, .int i), (0, l), (0, o)] = .exn "BadRow" [.str "order"] := by
  refine (H.breaker.call (n + 3) _ rfl).trans ?_
  have i1 : p.ino "need_things" = false := H.nthings.ino
  have i2 : p.ino "need_all" = false := H.nall.ino
  have hn := need_things_call (n := n + 1) H.nthings H.whole (d := .int i) rfl
  have hi : 1 ≤ i ∧ i ≤ 12 := by simpa [isW] using hb
  have h1 := need_all_call (n := n) H.nall H.thing H.whole (w := i) (v := l) (what := "line") (by decide +kernel) hi.1 hi.2 hl
  have h2 := need_all_call (n := n) H.nall H.thing H.whole (w := i) (v := o) (what := "order") (by decide +kernel) hi.1 hi.2 ho
  cases hfo : o.flat <;> cases hfl : l.flat <;> (simp! only [VI25.fdline_breaker, i1, i2, hn, hb, h1, h2, ho1, ho2, hfo, hfl])
theorem lb_ok (H : ProgH p) {i : Int} {b1 b2 : Bool} {os ln : List Int} (hb : isW (.int i) = true) (O : Ordn i os) (L : Ordn i ln) : p.callN (n + 4) "line_breaker" [(0, .int i), (0, rowD b1 ln), (0, rowD b2 os)] = .ok 9 (optD (brk1 i ln (ln.map fun t => (os.idxOf t : Int)))) none := by
  refine (H.breaker.call (n + 3) _ rfl).trans ?_
  have i1 : p.ino "need_things" = false := H.nthings.ino
  have i2 : p.ino "need_all" = false := H.nall.ino
  have hn := need_things_call (n := n + 1) H.nthings H.whole (d := .int i) rfl
  have hi : 1 ≤ i ∧ i ≤ 12 := by simpa [isW] using hb
  have h1 := need_all_call (n := n) H.nall H.thing H.whole (w := i) (v := rowD b2 os) (what := "order") (by decide +kernel) hi.1 hi.2 (rowD_plain _ _)
  have h2 := need_all_call (n := n) H.nall H.thing H.whole (w := i) (v := rowD b1 ln) (what := "line") (by decide +kernel) hi.1 hi.2 (rowD_plain _ _)
  rw [isOrd_D O] at h1
  rw [isOrd_D L] at h2
  have hL := L.len
  have hsub : ∀ x ∈ ln, x ∈ os := fun x hx => (L.perm.trans O.perm.symm).mem_iff.mp hx
  have hlc := lc_ints (Γ := p.sm (n + 3)) (el := .met "index" (.var 2) (.cons (.var 4) .nil)) (g := .name 4) (cc := .nop) (vs := [4]) (bs := []) (t := .own 0) .int [some (0, .int i), some (0, rowD b1 ln), some (0, rowD b2 os), none, none, none, none, none] (fun t => (os.idxOf t : Int)) ln fun t ht => by
    have hml : ∀ (u v : Tg), metV "index" (u, .lst (os.map .int)) [(v, .int t)] = some (.own 9, .int (os.idxOf t)) := fun u v => met_index_l intsD_map (hsub t ht)
    have hmt : ∀ (u v : Tg), metV "index" (u, .tup (os.map .int)) [(v, .int t)] = some (.own 9, .int (os.idxOf t)) := fun u v => met_index_t intsD_map (hsub t ht)
    cases b2 <;> (simp! only [rowD, hml, hmt, wipeE])
  generalize hrk : (ln.map fun t => (os.idxOf t : Int)) = rk at hlc
  have hrl : (rk.length : Int) = i := by rw [← hrk, List.length_map]; exact hL
  obtain ⟨q1, q2⟩ := lb_1 (p := p) (n := n + 3) (b1 := b1) (e2 := some (0, rowD b2 os)) (e4 := none) (w := i) (by omega) hL hrl (none, none, none)
  cases hbk : brk1 i ln rk with
  | none =>
    obtain ⟨j', q1⟩ := q1 hbk
    simp only [lbB1, lbB2, lbB3] at q1
    cases b1 <;> cases b2 <;> simp only [rowD, Bool.false_eq_true, if_false, if_true] at * <;> (simp! only [VI25.fdline_breaker, i1, i2, hn, hb, h1, h2, wipeE, hlc, ownI_minK, ownI_map, ownI_len, q1, optD])
  | some d =>
    obtain ⟨e', q2⟩ := q2 d hbk
    simp only [lbB1, lbB2, lbB3] at q2
    cases b1 <;> cases b2 <;> simp only [rowD, Bool.false_eq_true, if_false, if_true] at * <;> (simp! only [VI25.fdline_breaker, i1, i2, hn, hb, h1, h2, wipeE, hlc, ownI_minK, ownI_map, ownI_len, q2, optD])
end
end VI.P
set_option autoImplicit true
set_option Elab.async false
set_option linter.all false
set_option maxRecDepth 100000
set_option maxHeartbeats 4000000
namespace VI.P
open PySem PySem.Spec PyProof.Rows L2
def tr3 (ln rk : List Int) (i j k : Int) : Option D := if gI rk k < gI rk j then some (.tup [.int (gI ln i), .int (gI ln j), .int (gI ln k)]) else none
def tr2 (w : Int) (ln rk : List Int) (i j : Int) : Option D := if gI rk i < gI rk j then (rngL (j + 1) w).findSome? (tr3 ln rk i j) else none
def tr1 (w : Int) (ln rk : List Int) (i : Int) : Option D := (rngL (i + 1) w).findSome? (tr2 w ln rk i)
def tr0 (w : Int) (ln rk : List Int) : Option D := (rngL 0 w).findSome? (tr1 w ln rk)
theorem find_none {α β : Type} {f : α → Option β} : ∀ {l : List α}, (∀ x ∈ l, f x = none) → l.findSome? f = none
  | [], _ => rfl
  | x :: l, h => by
    rw [List.findSome?_cons_of_isNone (by rw [h x List.mem_cons_self]; rfl)]
    exact find_none fun y hy => h y (List.mem_cons_of_mem _ hy)
theorem tr_same (w : Int) (ln rk : List Int) : tr0 w ln rk = brk1 w ln rk := by
  unfold tr0 brk1
  congr 1
  funext i
  unfold tr1 brk2
  congr 1
  funext j
  unfold tr2 brk3
  split
  · rename_i h
    congr 1
    funext k
    unfold tr3 trip
    by_cases h2 : gI rk k < gI rk j
    · rw [if_pos h2, if_pos ⟨h, h2⟩]
    · rw [if_neg h2, if_neg (fun z => h2 z.2)]
  · rename_i h
    symm
    exact find_none fun k _ => if_neg fun z => h z.1
def tB3 : CSs := .cons (.ite (.cmp .Gt (.sub (.var 5) (.var 7)) (.sub (.var 5) (.var 4))) (.cons (.ret (.tup (.cons (.sub (.fz 0 1) (.var 6)) (.cons (.sub (.fz 0 1) (.var 7)) (.cons (.sub (.fz 0 1) (.var 4)) .nil))))) .nil) .nil) .nil
def tB2 : CSs := .cons (.ite (.cmp .Gt (.sub (.var 5) (.var 7)) (.sub (.var 5) (.var 6))) (.cons (.for (.name 4) (.rng2 (.bin .Add (.fz 7 1) (.int 1)) (.bi "len" (.cons (.var 0) .nil))) tB3) .nil) .nil) .nil
def tB1 : CSs := .cons (.for (.name 7) (.rng2 (.bin .Add (.fz 6 1) (.int 1)) (.bi "len" (.cons (.var 0) .nil))) tB2) .nil
section
variable {p : Pg} {n : Nat}
theorem t_3 {w : Int} {ln rk : List Int} {b1 : Bool} {e1 e2 e3 : Option (Nat × D)} (hl : (ln.length : Int) = w) (hr : (rk.length : Int) = w) {a b : Int} (ha : 0 ≤ a) (ha2 : a < w) (hb : 0 ≤ b) (hb2 : b < w) (j : Option (Nat × D)) :
    ((rngL (b + 1) w).findSome? (tr3 ln rk a b) = none → ∃ j', forS (p.sm n) (.name 4) tB3 [] (.own 9) ((rngL (b + 1) w).map .int) [some (0, rowD b1 ln), e1, e2, e3, j, some (10, .lst (rk.map .int)), some (9, .int a), some (9, .int b)] = .nx [some (0, rowD b1 ln), e1, e2, e3, j', some (10, .lst (rk.map .int)), some (9, .int a), some (9, .int b)]) ∧
    ∀ d, (rngL (b + 1) w).findSome? (tr3 ln rk a b) = some d → ∃ e', forS (p.sm n) (.name 4) tB3 [] (.own 9) ((rngL (b + 1) w).map .int) [some (0, rowD b1 ln), e1, e2, e3, j, some (10, .lst (rk.map .int)), some (9, .int a), some (9, .int b)] = .rt 9 d e' := by
  refine loop_find .int (fun j => [some (0, rowD b1 ln), e1, e2, e3, j, some (10, .lst (rk.map .int)), some (9, .int a), some (9, .int b)]) (tr3 ln rk a b) 9 (rngL (b + 1) w) (fun c hc j => ?_) j
  obtain ⟨c0, c1⟩ := rngL_mem.mp hc
  have r2 := gI_at (l := rk) hb (by omega)
  have r3 := gI_at (l := rk) (i := c) (by omega) (by omega)
  have l1 := gI_at (l := ln) ha (by omega)
  have l2 := gI_at (l := ln) hb (by omega)
  have l3 := gI_at (l := ln) (i := c) (by omega) (by omega)
  unfold tr3
  by_cases h2 : gI rk c < gI rk b
  · rw [if_pos h2]
    refine ⟨(fun z => nomatch z), fun d z => ?_⟩
    cases z
    cases b1 <;> exact ⟨_, by (simp! only [tB3, rowD, r2, r3, l1, l2, l3, h2]); rfl⟩
  · rw [if_neg h2]
    refine ⟨fun _ => ⟨some (9, .int c), ?_⟩, fun d z => nomatch z⟩
    cases b1 <;> (simp! only [tB3, rowD, r2, r3, h2])
theorem t_2 {w : Int} {ln rk : List Int} {b1 : Bool} {e1 e2 e3 : Option (Nat × D)} (hw : w ≤ 1000) (hl : (ln.length : Int) = w) (hr : (rk.length : Int) = w) {a : Int} (ha : 0 ≤ a) (ha2 : a < w) (j : Option (Nat × D) × Option (Nat × D)) :
    (tr1 w ln rk a = none → ∃ j' : Option (Nat × D) × Option (Nat × D), forS (p.sm n) (.name 7) tB2 [] (.own 9) ((rngL (a + 1) w).map .int) [some (0, rowD b1 ln), e1, e2, e3, j.1, some (10, .lst (rk.map .int)), some (9, .int a), j.2] = .nx [some (0, rowD b1 ln), e1, e2, e3, j'.1, some (10, .lst (rk.map .int)), some (9, .int a), j'.2]) ∧
    ∀ d, tr1 w ln rk a = some d → ∃ e', forS (p.sm n) (.name 7) tB2 [] (.own 9) ((rngL (a + 1) w).map .int) [some (0, rowD b1 ln), e1, e2, e3, j.1, some (10, .lst (rk.map .int)), some (9, .int a), j.2] = .rt 9 d e' := by
  refine loop_find .int (fun j : Option (Nat × D) × Option (Nat × D) => [some (0, rowD b1 ln), e1, e2, e3, j.1, some (10, .lst (rk.map .int)), some (9, .int a), j.2]) (tr2 w ln rk a) 9 (rngL (a + 1) w) (fun b hb j => ?_) j
  obtain ⟨c0, c1⟩ := rngL_mem.mp hb
  have r1 := gI_at (l := rk) ha (by omega)
  have r2 := gI_at (l := rk) (i := b) (by omega) (by omega)
  unfold tr2
  by_cases h : gI rk a < gI rk b
  · rw [if_pos h]
    obtain ⟨i1, i2⟩ := t_3 (p := p) (n := n) (b1 := b1) (e1 := e1) (e2 := e2) (e3 := e3) hl hr ha ha2 (b := b) (by omega) (by omega) j.1
    refine ⟨fun z => ?_, fun d z => ?_⟩
    · obtain ⟨j', e⟩ := i1 z
      refine ⟨(j', some (9, .int b)), ?_⟩
      cases b1 <;> simp only [rowD, Bool.false_eq_true, if_false, if_true] at * <;> (simp! only [tB2, r1, r2, h, hl, e])
    · obtain ⟨e', e⟩ := i2 d z
      refine ⟨e', ?_⟩
      cases b1 <;> simp only [rowD, Bool.false_eq_true, if_false, if_true] at * <;> (simp! only [tB2, r1, r2, h, hl, e])
  · rw [if_neg h]
    refine ⟨fun _ => ⟨(j.1, some (9, .int b)), ?_⟩, fun d z => nomatch z⟩
    cases b1 <;> simp only [rowD, Bool.false_eq_true, if_false, if_true] at * <;> (simp! only [tB2, r1, r2, h])
theorem t_1 {w : Int} {ln rk : List Int} {b1 : Bool} {e1 e2 e3 : Option (Nat × D)} (hw : w ≤ 1000) (hl : (ln.length : Int) = w) (hr : (rk.length : Int) = w) (j : Option (Nat × D) × Option (Nat × D) × Option (Nat × D)) :
    (tr0 w ln rk = none → ∃ j' : Option (Nat × D) × Option (Nat × D) × Option (Nat × D), forS (p.sm n) (.name 6) tB1 [] (.own 9) ((rngL 0 w).map .int) [some (0, rowD b1 ln), e1, e2, e3, j.1, some (10, .lst (rk.map .int)), j.2.1, j.2.2] = .nx [some (0, rowD b1 ln), e1, e2, e3, j'.1, some (10, .lst (rk.map .int)), j'.2.1, j'.2.2]) ∧
    ∀ d, tr0 w ln rk = some d → ∃ e', forS (p.sm n) (.name 6) tB1 [] (.own 9) ((rngL 0 w).map .int) [some (0, rowD b1 ln), e1, e2, e3, j.1, some (10, .lst (rk.map .int)), j.2.1, j.2.2] = .rt 9 d e' := by
  refine loop_find .int (fun j : Option (Nat × D) × Option (Nat × D) × Option (Nat × D) => [some (0, rowD b1 ln), e1, e2, e3, j.1, some (10, .lst (rk.map .int)), j.2.1, j.2.2]) (tr1 w ln rk) 9 (rngL 0 w) (fun a ha j => ?_) j
  obtain ⟨c0, c1⟩ := rngL_mem.mp ha
  obtain ⟨i1, i2⟩ := t_2 (p := p) (n := n) (b1 := b1) (e1 := e1) (e2 := e2) (e3 := e3) hw hl hr c0 c1 (j.1, j.2.2)
  refine ⟨fun z => ?_, fun d z => ?_⟩
  · obtain ⟨j', e⟩ := i1 z
    refine ⟨(j'.1, some (9, .int a), j'.2), ?_⟩
    cases b1 <;> simp only [rowD, Bool.false_eq_true, if_false, if_true] at * <;> (simp! only [tB1, hl, e])
  · obtain ⟨e', e⟩ := i2 d z
    refine ⟨e', ?_⟩
    cases b1 <;> simp only [rowD, Bool.false_eq_true, if_false, if_true] at * <;> (simp! only [tB1, hl, e])
end
def placeF (os : List Int) (pl : List Int) (k : Int) : List Int := pl.set (gI os k).toNat k
theorem place_all {w : Int} {os : List Int} (O : Ordn w os) {pl : List Int} (hpl : (pl.length : Int) = w) : ∀ (m : Nat), (m : Int) ≤ w → ∀ x, 0 ≤ x → x < w →
    ((rngL 0 m).foldl (placeF os) pl)[x.toNat]? = if os.idxOf x < m then some (os.idxOf x : Int) else pl[x.toNat]?
  | 0, _, x, _, _ => by
    have : rngL 0 ((0 : Nat) : Int) = [] := rfl
    rw [this, if_neg (by omega)]; rfl
  | m + 1, hm, x, x0, x1 => by
    have hr : rngL 0 ((m + 1 : Nat) : Int) = rngL 0 (m : Nat) ++ [(m : Int)] := by
      unfold rngL
      rw [show (((m + 1 : Nat) : Int) - 0).toNat = m + 1 by omega, show (((m : Nat) : Int) - 0).toNat = m by omega, List.range_succ, List.map_append]
      simp
    have ih := place_all O hpl m (by omega)
    have hlen : ∀ (ks : List Int) (q : List Int), (ks.foldl (placeF os) q).length = q.length := fun ks => by
      induction ks with
      | nil => intro q; rfl
      | cons k ks ih => intro q; rw [List.foldl_cons, ih]; simp [placeF]
    have hm2 : m < os.length := by have := O.len; omega
    have hg : os[m]? = some (gI os m) := gI_at (l := os) (i := (m : Nat)) (by omega) (by omega)
    have hgm : gI os m ∈ os := List.mem_of_getElem? hg
    have hgr := O.rng _ hgm
    rw [hr, List.foldl_append]
    show (placeF os ((rngL 0 (m : Nat)).foldl (placeF os) pl) m)[x.toNat]? = _
    unfold placeF
    have hxo : x ∈ os := O.perm.mem_iff.mpr (rngL_mem.mpr ⟨x0, x1⟩)
    by_cases hx : x = gI os m
    · subst hx
      have hi : os.idxOf (gI os m) = m := (get_idx O.nd hm2 hgm).mp hg
      rw [List.getElem?_set_self (by rw [show (List.foldl (fun pl k => pl.set (gI os k).toNat k) pl (rngL 0 ↑m)) = (rngL 0 (m : Nat)).foldl (placeF os) pl from rfl, hlen]; omega), hi, if_pos (by omega)]
    · rw [List.getElem?_set_ne (by omega)]
      have e : os.idxOf x ≠ m := fun z => hx (by
        have := (get_idx O.nd hm2 hxo).mpr z
        rw [hg] at this
        exact (Option.some.inj this).symm)
      have := ih x x0 x1
      unfold placeF at this
      rw [this]
      by_cases h1 : os.idxOf x < m
      · rw [if_pos h1, if_pos (by omega)]
      · rw [if_neg h1, if_neg (by omega)]
section
variable {p : Pg} {n : Nat}
theorem law_breaker_call (h : Has p VI25.fd_law_breaker) {w : Int} {b1 b2 : Bool} {os ln : List Int} (hw : w ≤ 1000) (O : Ordn w os) (L : Ordn w ln) : p.callN (n + 1) "_law_breaker" [(0, rowD b1 ln), (0, rowD b2 os)] = .ok 9 (optD (brk1 w ln (ln.map fun t => (os.idxOf t : Int)))) none := by
  refine (h.call n _ rfl).trans ?_
  have hL := L.len
  have hO := O.len
  rw [← tr_same]
  have hz := lc_ints (Γ := p.sm n) (el := .int 0) (g := .name 3) (cc := .nop) (vs := [3]) (bs := []) (t := .own 0) .int [some (0, rowD b1 ln), some (0, rowD b2 os), none, none, none, none, none, none] (fun _ => (0 : Int)) ln fun t ht => by (simp! only [wipeE])
  generalize hzs : (ln.map fun _ => (0 : Int)) = zs at hz
  have hzl : (zs.length : Int) = w := by rw [← hzs, List.length_map]; exact hL
  obtain ⟨hpl, jf, hf⟩ := loop_fold (Γ := p.sm n) (g := .name 4) (ss := .cons (.six (.var 2) (.sub (.var 1) (.var 4)) (.fz 4 0)) .nil) (bs := []) (t := .own 9) .int (fun (pl : List Int) (j : Option (Nat × D)) => [some (0, rowD b1 ln), some (0, rowD b2 os), some (10, .lst (pl.map .int)), none, j, none, none, none]) (placeF os) (fun pl => (pl.length : Int) = w) (rngL 0 w) (fun k hk pl j hpl => by
    obtain ⟨k0, k1⟩ := rngL_mem.mp hk
    have hg := gI_at (l := os) k0 (by omega)
    have hgr := O.rng _ (List.mem_of_getElem? hg)
    refine ⟨by simp [placeF, hpl], some (9, .int k), ?_⟩
    have hlm : (pl.map D.int).length = pl.length := List.length_map _
    cases b2 <;> (simp! only [rowD, hg, placeF])) zs none hzl
  have hpa := place_all O hzl w.toNat (by omega)
  rw [show ((w.toNat : Nat) : Int) = w by omega] at hpa
  generalize hPP : (rngL 0 w).foldl (placeF os) zs = PP at hpl hf hpa
  obtain ⟨jl, hlate⟩ := lc_intsJ (Γ := p.sm n) (el := .sub (.fz 2 1) (.var 3)) (g := .name 3) (cc := .nop) (vs := [3]) (bs := []) (t := .own 0) .int (fun b : Bool => [some (0, rowD b1 ln), some (0, rowD b2 os), some (if b then 10 else 1, .lst (PP.map .int)), none, jf, none, none, none]) (fun t => (os.idxOf t : Int)) ln (fun t ht b => by
    have htr := L.rng t ht
    have hto : t ∈ os := (L.perm.trans O.perm.symm).mem_iff.mp ht
    have hlt := List.idxOf_lt_length_of_mem hto
    have hg := hpa t htr.1 htr.2
    rw [if_pos (by omega)] at hg
    have htr1 := htr.1
    refine ⟨false, ?_⟩
    cases b <;> (simp! only [wipeE, hg])) true
  generalize hrk : (ln.map fun t => (os.idxOf t : Int)) = rk at hlate
  have hrl : (rk.length : Int) = w := by rw [← hrk, List.length_map]; exact hL
  rw [if_pos rfl] at hlate
  obtain ⟨q1, q2⟩ := t_1 (p := p) (n := n) (b1 := b1) (e1 := some (0, rowD b2 os)) (e2 := some (if jl then 10 else 1, .lst (PP.map .int))) (e3 := none) hw hL hrl (jf, none, none)
  cases hbk : tr0 w ln rk with
  | none =>
    obtain ⟨j', q1⟩ := q1 hbk
    simp only [tB1, tB2, tB3] at q1
    cases b1 <;> cases b2 <;> simp only [rowD, Bool.false_eq_true, if_false, if_true] at * <;> (simp! only [VI25.fd_law_breaker, wipeE, hz, hf, hlate, ownI_minK, ownI_map, ownI_len, hL, hO, q1, optD])
  | some d =>
    obtain ⟨e', q2⟩ := q2 d hbk
    simp only [tB1, tB2, tB3] at q2
    cases b1 <;> cases b2 <;> simp only [rowD, Bool.false_eq_true, if_false, if_true] at * <;> (simp! only [VI25.fd_law_breaker, wipeE, hz, hf, hlate, ownI_minK, ownI_map, ownI_len, hL, hO, q2, optD])
end
end VI.P
set_option autoImplicit false
set_option Elab.async false
set_option linter.all false
set_option maxRecDepth 100000
set_option maxHeartbeats 4000000
set_option autoImplicit false
namespace VI.P
open PySem PySem.Spec PyProof.Rows L2
def intsR (v : D) : List Int := match rowOf v with
  | some xs => (intsD xs).getD []
  | none => []
theorem intsR_D (b : Bool) (ns : List Int) : intsR (rowD b ns) = ns := by
  unfold intsR
  rw [rowOf_D]
  show (intsD (ns.map .int)).getD [] = ns
  rw [intsD_map]; rfl
def badRow (x : Str) : D := .lst [.int 2, .str x, .bl true, .bl false]
def ansV (kind : Int) (w l o : D) : D := match w with
  | .int i => if isW (.int i) then
      (if kind = 0 then (if isOrd i o then (if isOrd i l then .lst [.int 0, .bl (peakV (intsR l) (intsR o))] else badRow "line") else badRow "order")
      else (if isOrd i l then (if isOrd i o then .lst [.int 0, optD (brk1 i (intsR l) ((intsR l).map fun t => ((intsR o).idxOf t : Int)))] else badRow "order") else badRow "line"))
    else .lst [.int 1, .str "things", .bl true, .bl false]
  | _ => .lst [.int 1, .str "things", .bl true, .bl false]
theorem trip_tup {ln rk : List Int} {a b c : Int} {d : D} (h : trip ln rk a b c = some d) : ∃ x y z : Int, d = .tup [.int x, .int y, .int z] := by
  unfold trip at h; split at h
  · cases h; exact ⟨_, _, _, rfl⟩
  · cases h
theorem find_some {α β : Type} {f : α → Option β} {b : β} : ∀ {l : List α}, l.findSome? f = some b → ∃ x ∈ l, f x = some b
  | [], h => by simp at h
  | x :: l, h => by
    cases hx : f x with
    | some c =>
      rw [List.findSome?_cons_of_isSome (by rw [hx]; rfl), hx] at h
      exact ⟨x, List.mem_cons_self, by rw [hx]; exact h⟩
    | none =>
      rw [List.findSome?_cons_of_isNone (by rw [hx]; rfl)] at h
      obtain ⟨y, hy, e⟩ := find_some h
      exact ⟨y, List.mem_cons_of_mem _ hy, e⟩
theorem brk_tup {w : Int} {ln rk : List Int} : (∃ x y z : Int, optD (brk1 w ln rk) = .tup [.int x, .int y, .int z]) ∨ optD (brk1 w ln rk) = .non := by
  cases h : brk1 w ln rk with
  | none => exact .inr rfl
  | some d =>
    obtain ⟨a, _, h⟩ := find_some h
    obtain ⟨b, _, h⟩ := find_some h
    obtain ⟨c, _, h⟩ := find_some h
    obtain ⟨x, y, z, e⟩ := trip_tup h
    exact .inl ⟨x, y, z, e⟩
section
variable {p : Pg} {n : Nat}
theorem hd_num {a b c d x : Option (Nat × D)} : handle "BadNumber" [.str "things"] [a, b, c, d, x] [("BadNumber", 4, [.int 1, .attr "what", .is1 "SwapError", .isE ["BadRow", "BadList", "BadWeb", "NotFull", "TooMany"]]), ("BadRow", 4, [.int 2, .attr "what", .is1 "SwapError", .isE ["BadNumber", "BadList", "BadWeb", "NotFull", "TooMany"]])] = .rt 10 (.lst [.int 1, .str "things", .bl true, .bl false]) [a, b, c, d, none] := by
  have h1 : catches "BadNumber" ["BadNumber"] = true := by decide +kernel
  have h2 : evXs "BadNumber" [.str "things"] [.int 1, .attr "what", .is1 "SwapError", .isE ["BadRow", "BadList", "BadWeb", "NotFull", "TooMany"]] = some [.int 1, .str "things", .bl true, .bl false] := by rfl
  unfold handle
  rw [if_pos h1, h2]
  have h3 : (([.int 1, .str "things", .bl true, .bl false] : List D).all scs && decide (4 < [a, b, c, d, x].length) && lim ([.int 1, .str "things", .bl true, .bl false] : List D).length) = true := rfl
  dsimp only
  rw [if_pos h3]
  rfl
theorem hd_row {a b c d y : Option (Nat × D)} (x : Str) : handle "BadRow" [.str x] [a, b, c, d, y] [("BadNumber", 4, [.int 1, .attr "what", .is1 "SwapError", .isE ["BadRow", "BadList", "BadWeb", "NotFull", "TooMany"]]), ("BadRow", 4, [.int 2, .attr "what", .is1 "SwapError", .isE ["BadNumber", "BadList", "BadWeb", "NotFull", "TooMany"]])] = .rt 10 (badRow x) [a, b, c, d, none] := by
  have h0 : catches "BadRow" ["BadNumber"] = false := by decide +kernel
  have h1 : catches "BadRow" ["BadRow"] = true := by decide +kernel
  have h2 : evXs "BadRow" [.str x] [.int 2, .attr "what", .is1 "SwapError", .isE ["BadNumber", "BadList", "BadWeb", "NotFull", "TooMany"]] = some [.int 2, .str x, .bl true, .bl false] := by rfl
  unfold handle
  rw [if_neg (by rw [h0]; decide)]
  unfold handle
  rw [if_pos h1, h2]
  have h3 : (([.int 2, .str x, .bl true, .bl false] : List D).all scs && decide (4 < [a, b, c, d, y].length) && lim ([.int 2, .str x, .bl true, .bl false] : List D).length) = true := rfl
  dsimp only
  rw [if_pos h3]
  rfl
theorem ansV_w {kind : Int} {w l o : D} (hb : isW w = false) : ansV kind w l o = .lst [.int 1, .str "things", .bl true, .bl false] := by
  cases w with
  | int i => simp only [ansV, hb, Bool.false_eq_true, if_false]
  | _ => rfl
theorem ask_call (h : Has p VI25.fd_law_ask) (H : ProgH p) {kind : Int} {w l o : D} (hk : kind = 0 ∨ kind = 1) (hw : w.plain = true) (hl : l.plain = true) (ho : o.plain = true) : ∃ k, p.callN (n + 5) "_law_ask" [(0, .int kind), (0, w), (0, l), (0, o)] = .ok k (ansV kind w l o) none := by
  have i1 : p.ino "is_peaked" = false := H.peaked.ino
  have i2 : p.ino "line_breaker" = false := H.breaker.ino
  cases hb : isW w with
  | false =>
    rw [ansV_w hb]
    have e1 := pk_w (n := n) H (l := l) (o := o) hw hb
    have e2 := lb_w (n := n) H (l := l) (o := o) hw hb
    refine ⟨10, (h.call (n + 4) _ rfl).trans ?_⟩
    rcases hk with rfl | rfl <;> cases hf : w.flat <;> cases hf2 : l.flat <;> cases hf3 : o.flat <;> (simp! only [VI25.fd_law_ask, i1, i2, e1, e2, hf, hf2, hf3, hd_num])
  | true =>
    cases w with
    | int i =>
      simp only [ansV, hb, if_true]
      cases ho1 : isOrd i o with
      | false =>
        have e1 := pk_o (n := n) H (l := l) hb ho ho1
        cases hl1 : isOrd i l with
        | false =>
          have e2 := lb_l (n := n) H (o := o) hb hl hl1
          refine ⟨10, (h.call (n + 4) _ rfl).trans ?_⟩
          rcases hk with rfl | rfl <;> cases hf2 : l.flat <;> cases hf3 : o.flat <;> (simp! only [VI25.fd_law_ask, i1, i2, e1, e2, hf2, hf3, hd_row])
        | true =>
          have e2 := lb_o (n := n) H hb ho hl hl1 ho1
          refine ⟨10, (h.call (n + 4) _ rfl).trans ?_⟩
          rcases hk with rfl | rfl <;> cases hf2 : l.flat <;> cases hf3 : o.flat <;> (simp! only [VI25.fd_law_ask, i1, i2, e1, e2, hf2, hf3, hd_row])
      | true =>
        cases hl1 : isOrd i l with
        | false =>
          have e1 := pk_l (n := n) H hb ho hl ho1 hl1
          have e2 := lb_l (n := n) H (o := o) hb hl hl1
          refine ⟨10, (h.call (n + 4) _ rfl).trans ?_⟩
          rcases hk with rfl | rfl <;> cases hf2 : l.flat <;> cases hf3 : o.flat <;> (simp! only [VI25.fd_law_ask, i1, i2, e1, e2, hf2, hf3, hd_row])
        | true =>
          obtain ⟨os, r1, O⟩ := isOrd_iff.mp ho1
          obtain ⟨ln, r2, L⟩ := isOrd_iff.mp hl1
          obtain ⟨b1, rfl⟩ := row_cases r1
          obtain ⟨b2, rfl⟩ := row_cases r2
          have e1 := pk_ok (n := n) H (b1 := b1) (b2 := b2) hb O L
          have e2 := lb_ok (n := n) H (b1 := b2) (b2 := b1) hb O L
          simp only [intsR_D]
          refine ⟨9, (h.call (n + 4) _ rfl).trans ?_⟩
          rcases hk with rfl | rfl
          · cases hf2 : (rowD b2 ln).flat <;> cases hf3 : (rowD b1 os).flat <;> (simp! only [VI25.fd_law_ask, i1, i2, e1, e2, hf2, hf3])
          · rcases brk_tup (w := i) (ln := ln) (rk := ln.map fun t => (os.idxOf t : Int)) with ⟨x, y, z, q⟩ | q <;> rw [q] at e2 ⊢ <;> cases hf2 : (rowD b2 ln).flat <;> cases hf3 : (rowD b1 os).flat <;> (simp! only [VI25.fd_law_ask, i1, i2, e1, e2, hf2, hf3])
    | _ => cases hb
structure LawH (p : Pg) : Prop extends ProgH p, PlainH p where
  isint : Has p fd_law_is_int
  isrow : Has p fd_law_is_row
  kindh : Has p fd_law_kind
  same : Has p fd_law_same
  isord : Has p VI25.fd_law_is_order
  onepk : Has p VI25.fd_law_one_peak
  brk : Has p VI25.fd_law_breaker
  due : Has p VI25.fd_law_due
  ask : Has p VI25.fd_law_ask
  holds : Has p VI25.fd_law_holds
  row : Has p fd_law_row
  off : Has p fd_law_off
  value : Has p fd_law_value
  shuffle : Has p fd_law_shuffle
  order : Has p fd_law_order
  store : Has p fd_law_store
  bent : Has p fd_law_bent_order
  peakd : Has p VI25.fd_law_peaked
  bumped : Has p VI25.fd_law_bumped
  rails : Has p VI25.fd_law_rails
  bend : Has p VI25.fd_law_bend
  law : Has p VI25.fdlaw
  listed : p.ext "_law_listed" = some (false, lsC)
  whl : p.whl = whlC
theorem due_call (H : LawH p) {kind : Int} {w l o : D} (hk : kind = 0 ∨ kind = 1) (hw : w.plain = true) (hl : l.plain = true) (ho : o.plain = true) : p.callN (n + 5) "_law_due" [(0, .int kind), (0, w), (0, l), (0, o)] = .ok 9 (ansV kind w l o) none := by
  have i1 : p.ino "_law_is_int" = false := H.isint.ino
  have i2 : p.ino "_law_is_order" = false := H.isord.ino
  have i3 : p.ino "_law_one_peak" = false := H.onepk.ino
  have i4 : p.ino "_law_breaker" = false := H.brk.ino
  have hi := is_int_call (n := n + 3) H.isint hw
  refine (H.due.call (n + 4) _ rfl).trans ?_
  cases hb : isW w with
  | false =>
    rw [ansV_w hb]
    cases w with
    | int i =>
      by_cases h1 : i < 1
      · (simp! only [VI25.fd_law_due, i1, hi, isI, h1])
      · have h2 : 12 < i := by
          by_cases h2 : 12 < i
          · exact h2
          · exfalso; simp only [isW, decide_eq_false_iff_not] at hb; omega
        (simp! only [VI25.fd_law_due, i1, hi, isI, h1, h2])
    | non => (simp! only [VI25.fd_law_due, i1, hi, isI])
    | bl b => (simp! only [VI25.fd_law_due, i1, hi, isI])
    | str x => (simp! only [VI25.fd_law_due, i1, hi, isI])
    | lst xs => (simp! only [VI25.fd_law_due, i1, hi, isI])
    | tup xs => cases hf : D.flats xs <;> (simp! only [VI25.fd_law_due, i1, hi, isI, hf])
    | dct xs => cases hw
    | ins c fs => cases hw
    | arg ns => cases hw
  | true =>
    cases w with
    | int i =>
      have hr : 1 ≤ i ∧ i ≤ 12 := by simpa [isW] using hb
      have q1 : ¬ i < 1 := by omega
      have q2 : ¬ 12 < i := by omega
      simp only [ansV, hb, if_true]
      have eo := is_order_call (n := n + 2) H.isord H.isrow H.isint (w := i) (v := o) hr.1 (by omega) ho
      have el := is_order_call (n := n + 2) H.isord H.isrow H.isint (w := i) (v := l) hr.1 (by omega) hl
      cases ho1 : isOrd i o with
      | false =>
        cases hl1 : isOrd i l with
        | false =>
          rcases hk with rfl | rfl <;> cases hf2 : l.flat <;> cases hf3 : o.flat <;> (simp! only [VI25.fd_law_due, i1, i2, hi, isI, q1, q2, forS_cons, forS_nil, eo, el, ho1, hl1, hf2, hf3, badRow])
        | true =>
          rcases hk with rfl | rfl <;> cases hf2 : l.flat <;> cases hf3 : o.flat <;> (simp! only [VI25.fd_law_due, i1, i2, hi, isI, q1, q2, forS_cons, forS_nil, eo, el, ho1, hl1, hf2, hf3, badRow])
      | true =>
        cases hl1 : isOrd i l with
        | false =>
          rcases hk with rfl | rfl <;> cases hf2 : l.flat <;> cases hf3 : o.flat <;> (simp! only [VI25.fd_law_due, i1, i2, hi, isI, q1, q2, forS_cons, forS_nil, eo, el, ho1, hl1, hf2, hf3, badRow])
        | true =>
          obtain ⟨os, r1, O⟩ := isOrd_iff.mp ho1
          obtain ⟨ln, r2, L⟩ := isOrd_iff.mp hl1
          obtain ⟨b1, rfl⟩ := row_cases r1
          obtain ⟨b2, rfl⟩ := row_cases r2
          have hLl := L.len
          have hOl := O.len
          have e1 := one_peak_call (n := n + 3) H.onepk (b1 := b2) (b2 := b1) (ln := ln) (os := os) (by omega) (by omega)
          have e2 := law_breaker_call (n := n + 3) H.brk (b1 := b2) (b2 := b1) (w := i) (by omega) O L
          rw [← peak_same L O hr.1] at e1
          simp only [intsR_D]
          rcases hk with rfl | rfl
          · cases hf2 : (rowD b2 ln).flat <;> cases hf3 : (rowD b1 os).flat <;> (simp! only [VI25.fd_law_due, i1, i2, i3, hi, isI, q1, q2, forS_cons, forS_nil, eo, el, ho1, hl1, hf2, hf3, e1])
          · rcases brk_tup (w := i) (ln := ln) (rk := ln.map fun t => (os.idxOf t : Int)) with ⟨x, y, z, q⟩ | q <;> rw [q] at e2 ⊢ <;> cases hf2 : (rowD b2 ln).flat <;> cases hf3 : (rowD b1 os).flat <;> (simp! only [VI25.fd_law_due, i1, i2, i4, hi, isI, q1, q2, forS_cons, forS_nil, eo, el, ho1, hl1, hf2, hf3, e2])
    | _ => cases hb
end
end VI.P
set_option autoImplicit false
set_option Elab.async false
set_option linter.all false
set_option maxRecDepth 100000
set_option maxHeartbeats 4000000
set_option autoImplicit false
namespace VI.P
open PySem PySem.Spec PyProof.Rows L2
theorem okv_txts : ∀ {h : Nat} {d : D}, D.okv h d = true → txts d = true
  | _, .non, _ => rfl
  | _, .bl _, _ => rfl
  | _, .int _, _ => rfl
  | h, .str s, q => by
    simp only [D.okv, Bool.and_eq_true] at q
    exact q.2
  | 0, .tup _, h => by simp [D.okv] at h
  | 0, .lst _, h => by simp [D.okv] at h
  | h + 1, .tup xs, q => by
    simp only [D.okv] at q
    exact txtss_all.mpr fun x hx => okv_txts (okvs_all.mp q x hx)
  | h + 1, .lst xs, q => by
    simp only [D.okv] at q
    exact txtss_all.mpr fun x hx => okv_txts (okvs_all.mp q x hx)
  | _, .dct _, h => by simp [D.okv] at h
  | _, .ins _ _, h => by simp [D.okv] at h
  | _, .arg _, h => by simp [D.okv] at h
theorem okv_listify : ∀ {n h : Nat} {d : D}, D.okv h d = true → D.okv h (listify n d) = true
  | 0, h, d, q => by simpa [listify] using q
  | n + 1, _, .non, q => by simpa [listify] using q
  | n + 1, _, .bl _, q => by simpa [listify] using q
  | n + 1, _, .int _, q => by simpa [listify] using q
  | n + 1, _, .str _, q => by simpa [listify] using q
  | n + 1, 0, .tup _, q => by simp [D.okv] at q
  | n + 1, 0, .lst _, q => by simp [D.okv] at q
  | n + 1, h + 1, .tup xs, q => by
    simp only [D.okv, listify] at q ⊢
    refine okvs_all.mpr fun x hx => ?_
    obtain ⟨y, hy, rfl⟩ := List.mem_map.mp hx
    exact okv_listify (okvs_all.mp q y hy)
  | n + 1, h + 1, .lst xs, q => by
    simp only [D.okv, listify] at q ⊢
    refine okvs_all.mpr fun x hx => ?_
    obtain ⟨y, hy, rfl⟩ := List.mem_map.mp hx
    exact okv_listify (okvs_all.mp q y hy)
  | _, _, .dct _, h => by simp [D.okv] at h
  | _, _, .ins _ _, h => by simp [D.okv] at h
  | _, _, .arg _, h => by simp [D.okv] at h
theorem ansV_okv (kind : Int) (w l o : D) : D.okv 3 (ansV kind w l o) = true ∧ (ansV kind w l o).cnt ≤ 10 := by
  have b1 : D.okv 3 (badRow "order") = true ∧ (badRow "order").cnt ≤ 10 := ⟨by decide +kernel, by decide +kernel⟩
  have b2 : D.okv 3 (badRow "line") = true ∧ (badRow "line").cnt ≤ 10 := ⟨by decide +kernel, by decide +kernel⟩
  have b3 : D.okv 3 (.lst [.int 1, .str "things", .bl true, .bl false]) = true ∧ (D.lst [.int 1, .str "things", .bl true, .bl false]).cnt ≤ 10 := ⟨by decide +kernel, by decide +kernel⟩
  cases w with
  | int i =>
    simp only [ansV]
    split
    · split
      · split
        · split
          · exact ⟨by simp [D.okv, D.okvs], by simp [D.cnt, D.cnts]⟩
          · exact b2
        · exact b1
      · split
        · split
          · rcases brk_tup (w := i) (ln := intsR l) (rk := (intsR l).map fun t => ((intsR o).idxOf t : Int)) with ⟨x, y, z, q⟩ | q <;> rw [q] <;> exact ⟨by simp [D.okv, D.okvs], by simp [D.cnt, D.cnts]⟩
          · exact b1
        · exact b2
    · exact b3
  | _ => exact b3
section
variable {p : Pg} {n : Nat}
theorem holds_call (H : LawH p) {kind : Int} {w l o : D} (hk : kind = 0 ∨ kind = 1) (hw : D.okv 20 w = true) (hl : D.okv 20 l = true) (ho : D.okv 20 o = true) (cw : w.cnt ≤ 1000) (cl : l.cnt ≤ 1000) (co : o.cnt ≤ 1000) :
    p.callN (n + 6) "_law_holds" [(0, .int kind), (0, w), (0, l), (0, o)] = .ok 9 (.bl true) none := by
  have i1 : p.ino "_law_due" = false := H.due.ino
  have i2 : p.ino "_law_ask" = false := H.ask.ino
  have i3 : p.ino "_law_same" = false := H.same.ino
  have i4 : p.ino "_law_listed" = false := by simp only [Pg.ino, H.listed]
  have pw := okv_plain hw
  have pl := okv_plain hl
  have po := okv_plain ho
  have hd := due_call (n := n) H hk pw pl po
  obtain ⟨ka, ha⟩ := ask_call (n := n) H.ask H.toProgH hk pw pl po
  have hrow : D.okv 21 (.lst [w, l, o]) = true := by simp [D.okv, D.okvs, hw, hl, ho]
  have hcr : (D.lst [w, l, o]).cnt ≤ 3001 := by simp [D.cnt, D.cnts]; omega
  have hli : p.callN (n + 5) "_law_listed" [(0, .lst [w, l, o])] = .ok 0 (listify 9 (.lst [w, l, o])) none := by
    simp only [Pg.callN, H.listed]
    show lsC [(0, .lst [w, l, o])] = _
    show (if (D.lst [w, l, o]).plain = true ∧ (D.lst [w, l, o]).cnt + 10 ≤ 16777216 then R0.ok 0 (listify 9 (.lst [w, l, o])) none else .bad) = _
    rw [if_pos ⟨okv_plain hrow, by omega⟩]
  obtain ⟨ok, okc⟩ := ansV_okv kind w l o
  have s1 := same_call (n := n + 3) H.same H.kindh H.whl (l := false) (alike_refl (okv_plain ok)) (okv_plain ok) (okv_plain ok) (okv_txts ok) (okv_txts ok) (by omega)
  have s2 := same_call (n := n + 3) H.same H.kindh H.whl (l := true) (alike_listify (n := 9) (okv_plain hrow)) (okv_plain hrow) (okv_plain (okv_listify hrow)) (okv_txts hrow) (okv_txts (okv_listify hrow)) (by omega)
  generalize ansV kind w l o = A at *
  generalize hLL : listify 9 (.lst [w, l, o]) = LL at *
  have hnf : LL.flat = false := by rw [← hLL]; rfl
  have hnA : True := trivial
  refine (H.holds.call (n + 5) _ rfl).trans ?_
  cases hf1 : w.flat <;> cases hf2 : l.flat <;> cases hf3 : o.flat <;> cases hfA : A.flat <;> (simp! only [VI25.fd_law_holds, i1, i2, i3, i4, hd, ha, hli, s1, s2, hf1, hf2, hf3, hfA, hnf])
end
end VI.P
set_option autoImplicit false
set_option Elab.async false
set_option linter.all false
set_option maxRecDepth 100000
set_option maxHeartbeats 4000000
set_option autoImplicit false
namespace VI.P
open PySem PySem.Spec PyProof.Rows L2
def pkB : CSs := .cons (.ite (.or (.cmp .GtE (.bin .Add (.fz 3 1) (.int 1)) (.bi "len" (.cons (.var 1) .nil))) (.and (.cmp .Gt (.var 2) (.int 0)) (.cmp .Eq (.fn "_law_take" (.cons (.var 0) (.cons (.int 2) .nil))) (.int 0)))) (.cons (.set 2 (.bin .Sub (.var 2) (.int 1))) (.cons (.exp (.mut "append" (.var 4) (.cons (.sub (.fz 1 1) (.var 2)) .nil))) .nil)) (.cons (.set 3 (.bin .Add (.fz 3 1) (.int 1))) (.cons (.exp (.mut "append" (.var 4) (.cons (.sub (.fz 1 1) (.var 3)) .nil))) .nil))) .nil
theorem seg_cons {ln : List Int} {l h : Nat} (hl : l ≤ h) (hh : h < ln.length) : seg ln l h = gI ln l :: seg ln (l + 1) h := by
  have e : ln.drop l = ln[l] :: ln.drop (l + 1) := List.drop_eq_getElem_cons (by omega)
  unfold seg
  rw [e, show h + 1 - l = (h + 1 - (l + 1)) + 1 by omega, List.take_succ_cons]
  congr 1
  have := gI_at (l := ln) (i := (l : Nat)) (by omega) (by omega)
  rw [Int.toNat_natCast, List.getElem?_eq_getElem (by omega)] at this
  exact Option.some.inj this
theorem seg_snoc {ln : List Int} {l h : Nat} (hl : l ≤ h + 1) (hh : h + 1 < ln.length) : seg ln l (h + 1) = seg ln l h ++ [gI ln (h + 1 : Nat)] := by
  have hg := gI_at (l := ln) (i := ((h + 1 : Nat) : Int)) (by omega) (by omega)
  rw [Int.toNat_natCast] at hg
  apply List.ext_getElem?
  intro i
  by_cases hi : i < h + 1 - l
  · rw [seg_get (by omega), List.getElem?_append_left (by rw [seg_len (by omega)]; omega), seg_get hi]
  · by_cases h2 : i = h + 1 - l
    · subst h2
      rw [seg_get (by omega), List.getElem?_append_right (by rw [seg_len (by omega)]; omega), seg_len (by omega), show l + (h + 1 - l) = h + 1 by omega, hg, Nat.sub_self]; rfl
    · rw [List.getElem?_eq_none (by rw [seg_len hh]; omega), List.getElem?_eq_none (by rw [List.length_append, seg_len (by omega)]; simp; omega)]
section
variable {p : Pg} {n : Nat}
theorem pk_loop (ht : Has p fd_law_take) {ln : List Int} (hln : ln.length ≤ 100) : ∀ (js : List Int) (s : Sto) (lo hi : Nat) (out : List Int) (o : Option (Nat × D)), hi + 1 - lo + js.length = ln.length → lo ≤ hi → hi < ln.length → out.Perm (seg ln lo hi) →
    ∃ (s' : Sto) (out' : List Int) (lo' hi' : Int) (o' : Option (Nat × D)), forS (p.sm (n + 1)) (.name 5) pkB [] (.own 9) (js.map .int) [some (1, s.d), some (0, .lst (ln.map .int)), some (9, .int lo), some (9, .int hi), some (10, .lst (out.map .int)), o] = .nx [some (1, s'.d), some (0, .lst (ln.map .int)), some (9, .int lo'), some (9, .int hi'), some (10, .lst (out'.map .int)), o'] ∧ out'.Perm ln
  | [], s, lo, hi, out, o, hj, hl, hh, hp => by
    rw [List.length_nil] at hj
    have : seg ln lo hi = ln := by
      have : lo = 0 := by omega
      subst this
      unfold seg; rw [List.drop_zero, List.take_of_length_le (by omega)]
    exact ⟨s, out, lo, hi, o, by rw [List.map_nil, forS_nil], this ▸ hp⟩
  | j :: js, s, lo, hi, out, o, hj, hl, hh, hp => by
    have it : p.ino "_law_take" = true := ht.ino
    rw [List.length_cons] at hj
    have hol : out.length = hi + 1 - lo := by rw [hp.length_eq, seg_len hh]
    have hlm : (out.map D.int).length = out.length := List.length_map _
    have down : 0 < lo → ∀ s1 : Sto, ∃ (s' : Sto) (out' : List Int) (lo' hi' : Int) (o' : Option (Nat × D)), forS (p.sm (n + 1)) (.name 5) pkB [] (.own 9) (js.map .int) [some (1, s1.d), some (0, .lst (ln.map .int)), some (9, .int ((lo : Int) - 1)), some (9, .int hi), some (10, .lst ((out ++ [gI ln ((lo : Int) - 1)]).map .int)), some (9, .int j)] = .nx [some (1, s'.d), some (0, .lst (ln.map .int)), some (9, .int lo'), some (9, .int hi'), some (10, .lst (out'.map .int)), o'] ∧ out'.Perm ln := fun h0 s1 => by
      have e : ((lo : Int) - 1) = ((lo - 1 : Nat) : Int) := by omega
      rw [e]
      refine pk_loop ht hln js s1 (lo - 1) hi _ _ (by omega) (by omega) hh ?_
      rw [seg_cons (by omega) hh, show lo - 1 + 1 = lo by omega]
      exact (List.perm_append_comm).trans ((hp).cons _)
    have up : hi + 1 < ln.length → ∀ s1 : Sto, ∃ (s' : Sto) (out' : List Int) (lo' hi' : Int) (o' : Option (Nat × D)), forS (p.sm (n + 1)) (.name 5) pkB [] (.own 9) (js.map .int) [some (1, s1.d), some (0, .lst (ln.map .int)), some (9, .int lo), some (9, .int ((hi : Int) + 1)), some (10, .lst ((out ++ [gI ln ((hi : Int) + 1)]).map .int)), some (9, .int j)] = .nx [some (1, s'.d), some (0, .lst (ln.map .int)), some (9, .int lo'), some (9, .int hi'), some (10, .lst (out'.map .int)), o'] ∧ out'.Perm ln := fun h0 s1 => by
      have e : ((hi : Int) + 1) = ((hi + 1 : Nat) : Int) := by omega
      rw [e]
      refine pk_loop ht hln js s1 lo (hi + 1) _ _ (by omega) (by omega) h0 ?_
      rw [seg_snoc (by omega) h0]
      exact hp.append_right _
    rw [List.map_cons, forS_cons]
    by_cases c1 : (ln.length : Int) ≤ (hi : Int) + 1
    · obtain ⟨s', out', lo', hi', o', e, hq⟩ := down (by omega) s
      refine ⟨s', out', lo', hi', o', ?_, hq⟩
      rw [← e]
      have hg := gI_at (l := ln) (i := (lo : Int) - 1) (by omega) (by omega)
      (simp! only [pkB, c1, hg])
    · by_cases c2 : 0 < lo
      · by_cases c3 : (s.take 2).1 = 0
        · obtain ⟨s', out', lo', hi', o', e, hq⟩ := down c2 (s.take 2).2
          refine ⟨s', out', lo', hi', o', ?_, hq⟩
          rw [← e]
          have hg := gI_at (l := ln) (i := (lo : Int) - 1) (by omega) (by omega)
          (simp! only [pkB, c1, hg, it, take_call ht, c3])
        · obtain ⟨s', out', lo', hi', o', e, hq⟩ := up (by omega) (s.take 2).2
          refine ⟨s', out', lo', hi', o', ?_, hq⟩
          rw [← e]
          have hg := gI_at (l := ln) (i := (hi : Int) + 1) (by omega) (by omega)
          (simp! only [pkB, c1, hg, it, take_call ht, c3])
      · obtain ⟨s', out', lo', hi', o', e, hq⟩ := up (by omega) s
        refine ⟨s', out', lo', hi', o', ?_, hq⟩
        rw [← e]
        have hg := gI_at (l := ln) (i := (hi : Int) + 1) (by omega) (by omega)
        (simp! only [pkB, c1, hg])
theorem peaked_call (h : Has p VI25.fd_law_peaked) (ht : Has p fd_law_take) (hc : Has p fd_law_count) {ln : List Int} (h1 : 1 ≤ ln.length) (hl : ln.length ≤ 100) (s : Sto) : ∃ (out : List Int) (s' : Sto), p.callN (n + 3) "_law_peaked" [(1, s.d), (0, .lst (ln.map .int))] = .ok 9 (.tup (out.map .int)) (some (1, s'.d)) ∧ out.Perm ln := by
  have ic : p.ino "_law_count" = true := hc.ino
  have q := count_rng s (a := 0) (b := (ln.length : Int) - 1) (by omega)
  have hcc := count_call (n := n) hc ht (s := s) (a := 0) (b := (ln.length : Int) - 1) (by omega)
  generalize s.count 0 ((ln.length : Int) - 1) = u at q hcc
  have hg := gI_at (l := ln) q.1 (by omega)
  have hsg : seg ln u.1.toNat u.1.toNat = [gI ln u.1] := by
    apply List.ext_getElem?
    intro i
    cases i with
    | zero => rw [seg_get (by omega), Nat.add_zero, hg]; rfl
    | succ i => rw [List.getElem?_eq_none (by rw [seg_len (by omega)]; omega)]; rfl
  obtain ⟨s', out, lo', hi', o', e, hp⟩ := pk_loop (n := n + 1) ht hl (rngL 0 ((ln.length : Int) - 1)) u.2 u.1.toNat u.1.toNat [gI ln u.1] none (by rw [rngL_len]; omega) (by omega) (by omega) (by rw [hsg])
  have e3 : ((u.1.toNat : Nat) : Int) = u.1 := by omega
  rw [e3] at e
  unfold pkB at e
  simp only [List.map_cons, List.map_nil] at e
  refine ⟨out, s', (h.call (n + 2) _ rfl).trans ?_, hp⟩
  (simp! only [VI25.fd_law_peaked, ic, hcc, hg, e])
end
end VI.P
set_option autoImplicit false
set_option Elab.async false
set_option linter.all false
set_option maxRecDepth 100000
set_option maxHeartbeats 4000000
set_option autoImplicit false
namespace VI.P
open PySem PySem.Spec PyProof.Rows L2
theorem mut_remove_n {xs : List D} {t : Tg} {n : Int} {ns : List Int} (h : intsD xs = some ns) (hc : n ∈ ns) : mutV "remove" xs [(t, .int n)] = some (false, .non, xs.eraseIdx (ns.idxOf n), []) := by
  rw [mut_remove, h]
  simp only [if_pos (List.contains_iff_mem.mpr hc)]
theorem ins_perm (l : List Int) (k : Nat) (a : Int) : (l.take k ++ a :: l.drop k).Perm (a :: l) := by
  refine List.perm_middle.trans ?_
  rw [List.take_append_drop]
section
variable {p : Pg} {n : Nat}
theorem bumped_call (h : Has p VI25.fd_law_bumped) (hk : Has p VI25.fd_law_peaked) (ht : Has p fd_law_take) (hc : Has p fd_law_count) {ln : List Int} (h1 : 1 ≤ ln.length) (hl : ln.length ≤ 100) (s : Sto) : ∃ (out : List Int) (s' : Sto), p.callN (n + 4) "_law_bumped" [(1, s.d), (0, .lst (ln.map .int))] = .ok 9 (.lst (out.map .int)) (some (1, s'.d)) ∧ out.Perm ln := by
  have ik : p.ino "_law_peaked" = true := hk.ino
  have it : p.ino "_law_take" = true := ht.ino
  obtain ⟨ps, s1, hp, hperm⟩ := peaked_call (n := n) hk ht hc h1 hl s
  have hpl := hperm.length_eq
  have a1 := take_0 s1 ps.length
  have a2 := take_lt s1 (m := ps.length) (by omega)
  have t1 := take_call (n := n + 2) ht (s := s1) (m := ps.length) (by omega)
  generalize s1.take ps.length = u at a1 a2 t1
  have hg := gI_at (l := ps) a1 a2
  have hlm : (ps.map D.int).length = ps.length := List.length_map _
  have hel : (ps.eraseIdx u.1.toNat).length = ps.length - 1 := by rw [List.length_eraseIdx_of_lt (by omega)]
  have b1 := take_0 u.2 ((ps.length - 1 : Nat) + 1)
  have b2 := take_lt u.2 (m := ((ps.length - 1 : Nat) : Int) + 1) (by omega)
  have t2 := take_call (n := n + 2) ht (s := u.2) (m := ((ps.length - 1 : Nat) : Int) + 1) (by omega)
  generalize u.2.take (((ps.length - 1 : Nat) : Int) + 1) = v at b1 b2 t2
  have hlm2 : ((ps.eraseIdx u.1.toNat).map D.int).length = ps.length - 1 := by rw [List.length_map]; exact hel
  refine ⟨(ps.eraseIdx u.1.toNat).take v.1.toNat ++ gI ps u.1 :: (ps.eraseIdx u.1.toNat).drop v.1.toNat, v.2, (h.call (n + 3) _ rfl).trans ?_, ?_⟩
  · (simp! only [VI25.fd_law_bumped, ik, it, hp, t1, hg, hel, t2])
  · refine (ins_perm _ _ _).trans ?_
    have e : gI ps u.1 = ps[u.1.toNat] := by
      rw [List.getElem?_eq_getElem (by omega)] at hg
      exact (Option.some.inj hg).symm
    rw [e]
    exact (erase_perm ps _ (by omega)).trans hperm
def rowsD (rows : List (List Int)) : List D := rows.map fun r => .lst (r.map .int)
theorem rails_call (H : LawH p) (s : Sto) {least : Int} (hle : 1 ≤ least) (hle2 : least ≤ 12) : ∃ (w : Int) (ln : List Int) (rows : List (List Int)) (s' : Sto), p.callN (n + 5) "_law_rails" [(1, s.d), (0, .int least)] = .ok 1 (.lst [.int w, .lst (ln.map .int), .lst (rowsD rows)]) (some (1, s'.d)) ∧
    1 ≤ w ∧ w ≤ 12 ∧ Ordn w ln ∧ 1 ≤ rows.length ∧ rows.length ≤ 4 ∧ ∀ r ∈ rows, Ordn w r := by
  have ic : p.ino "_law_count" = true := H.count.ino
  have it : p.ino "_law_take" = true := H.take.ino
  have io : p.ino "_law_order" = true := H.order.ino
  have ik : p.ino "_law_peaked" = true := H.peakd.ino
  have ib : p.ino "_law_bumped" = true := H.bumped.ino
  have q := count_rng s (a := least) (b := 12) hle2
  have hcc := count_call (n := n + 2) H.count H.take (s := s) (a := least) (b := 12) (by omega)
  generalize s.count least 12 = u at q hcc
  have ho1 := order_call (n := n + 1) H.order H.take H.shuffle (s := u.2) (w := u.1) (by omega) (by omega)
  have p1 := order_perm u.2 u.1
  generalize u.2.order u.1 = a1 at ho1 p1
  have O1 : Ordn u.1 a1.1 := ordn_of_perm (by omega) p1
  have hl1 := O1.len
  obtain ⟨k1, s1, hk1, pk1⟩ := peaked_call (n := n + 1) H.peakd H.take H.count (ln := a1.1) (by omega) (by omega) a1.2
  obtain ⟨k2, s2, hk2, pk2⟩ := bumped_call (n := n) H.bumped H.peakd H.take H.count (ln := a1.1) (by omega) (by omega) s1
  have ho2 := order_call (n := n + 1) H.order H.take H.shuffle (s := s2) (w := u.1) (by omega) (by omega)
  have p2 := order_perm s2 u.1
  generalize s2.order u.1 = a2 at ho2 p2
  have O2 : Ordn u.1 a2.1 := ordn_of_perm (by omega) p2
  have perm_ord : ∀ {x : List Int}, x.Perm a1.1 → Ordn u.1 x := fun hx => ordn_of_perm (by omega) (hx.trans O1.perm)
  by_cases hw : 2 < u.1
  · obtain ⟨k3, s3, hk3, pk3⟩ := peaked_call (n := n + 1) H.peakd H.take H.count (ln := a1.1) (by omega) (by omega) a2.2
    have b1 := take_0 s3 (u.1 - 2)
    have b2 := take_lt s3 (m := u.1 - 2) (by omega)
    have t3 := take_call (n := n + 3) H.take (s := s3) (m := u.1 - 2) (by omega)
    generalize s3.take (u.1 - 2) = v at b1 b2 t3
    have hg := gI_at (l := a1.1) (i := 1 + v.1) (by omega) (by omega)
    have hm : gI a1.1 (1 + v.1) ∈ k3 := pk3.mem_iff.mpr (List.mem_of_getElem? hg)
    have hrm : ∀ t : Tg, mutV "remove" (k3.map .int) [(t, .int (gI a1.1 (1 + v.1)))] = some (false, .non, (k3.map D.int).eraseIdx (k3.idxOf (gI a1.1 (1 + v.1))), []) := fun t => mut_remove_n intsD_map hm
    have hkl := pk3.length_eq
    have hil := List.idxOf_lt_length_of_mem hm
    have hel : (k3.eraseIdx (k3.idxOf (gI a1.1 (1 + v.1)))).length = k3.length - 1 := by rw [List.length_eraseIdx_of_lt hil]
    have pk4 : (k3.eraseIdx (k3.idxOf (gI a1.1 (1 + v.1))) ++ [gI a1.1 (1 + v.1)]).Perm a1.1 := by
      refine List.perm_append_comm.trans ?_
      have e : gI a1.1 (1 + v.1) = k3[k3.idxOf (gI a1.1 (1 + v.1))] := (List.getElem_idxOf hil).symm
      have := erase_perm k3 _ hil
      rw [← e] at this
      exact this.trans pk3
    refine ⟨u.1, a1.1, [k1, k2, a2.1, k3.eraseIdx (k3.idxOf (gI a1.1 (1 + v.1))) ++ [gI a1.1 (1 + v.1)]], v.2, (H.rails.call (n + 4) _ rfl).trans ?_, by omega, by omega, O1, by simp, by simp, fun r hr => ?_⟩
    · (simp! only [VI25.fd_law_rails, ic, it, io, ik, ib, hcc, ho1, hk1, hk2, ho2, hk3, hw, t3, hg, hrm, hel, rowsD])
    · simp only [List.mem_cons, List.not_mem_nil, or_false] at hr
      rcases hr with rfl | rfl | rfl | rfl
      · exact perm_ord pk1
      · exact perm_ord pk2
      · exact O2
      · exact perm_ord pk4
  · refine ⟨u.1, a1.1, [k1, k2, a2.1], a2.2, (H.rails.call (n + 4) _ rfl).trans ?_, by omega, by omega, O1, by simp, by simp, fun r hr => ?_⟩
    · (simp! only [VI25.fd_law_rails, ic, it, io, ik, ib, hcc, ho1, hk1, hk2, ho2, hw, rowsD])
    · simp only [List.mem_cons, List.not_mem_nil, or_false] at hr
      rcases hr with rfl | rfl | rfl
      · exact perm_ord pk1
      · exact perm_ord pk2
      · exact O2
end
end VI.P
set_option autoImplicit false
set_option Elab.async false
set_option linter.all false
set_option maxRecDepth 100000
set_option maxHeartbeats 4000000
set_option autoImplicit false
namespace VI.P
open PySem PySem.Spec PyProof.Rows L2
def bentMenu : List D := [.non, .bl true, .int 0, .int (-1), .str "", .str "01", .str "10"]
theorem kRow_c (s : Sto) (xs : List D) : kRow s xs = 0 ∨ kRow s xs = 1 ∨ kRow s xs = 9 := by
  unfold kRow; split
  · exact .inr (.inr rfl)
  · split
    · exact .inr (.inl rfl)
    · exact .inl rfl
theorem cnts_ints (ns : List Int) : D.cnts (ns.map .int) = ns.length := by
  induction ns with
  | nil => rfl
  | cons n ns ih => simp only [List.map_cons, D.cnts, D.cnt, ih, List.length_cons]; omega
theorem cnts_set : ∀ (xs : List D) (i : Nat) (x : D), D.cnts (xs.set i x) ≤ D.cnts xs + x.cnt
  | [], _, _ => by simp [D.cnts]
  | y :: ys, 0, x => by simp [D.cnts]; omega
  | y :: ys, i + 1, x => by have := cnts_set ys i x; simp [D.cnts]; omega
theorem okv_ints {h : Nat} (ns : List Int) : ∀ x ∈ ns.map D.int, D.okv h x = true := fun x hx => by
  obtain ⟨n, _, rfl⟩ := List.mem_map.mp hx; simp [D.okv]
section
variable {p : Pg} {n : Nat}
theorem bent_call (H : LawH p) {b : Bool} {ns : List Int} (h1 : 1 ≤ ns.length) (hl : ns.length ≤ 13) (s : Sto) : ∃ (k : Nat) (d : D) (s' : Sto), p.callN (n + 4) "_law_bent_order" [(1, s.d), (0, rowD b ns)] = .ok k (.lst [d]) (some (1, s'.d)) ∧ (k = 1 ∨ k = 2 ∨ k = 9) ∧ D.okv 4 d = true ∧ d.cnt ≤ 40 := by
  have ic : p.ino "_law_count" = true := H.count.ino
  have it : p.ino "_law_take" = true := H.take.ino
  have ip : p.ino "_law_pick" = true := H.pick.ino
  have ir : p.ino "_law_row" = true := H.row.ino
  have io : p.ino "_law_off" = true := H.off.ino
  have q := count_rng s (a := 0) (b := (ns.length : Int) - 1) (by omega)
  have hcc := count_call (n := n + 1) H.count H.take (s := s) (a := 0) (b := (ns.length : Int) - 1) (by omega)
  generalize s.count 0 ((ns.length : Int) - 1) = u at q hcc
  have hu5 := take_0 u.2 5
  have t5 := take_call (n := n + 2) H.take (s := u.2) (m := 5) (by decide)
  generalize u.2.take 5 = v at hu5 t5
  have hg := gI_at (l := ns) q.1 (by omega)
  have hlm : (ns.map D.int).length = ns.length := List.length_map _
  have fin : ∀ (w : Sto) (xs : List D), (∀ x ∈ xs, D.okv 2 x = true) → D.cnts xs ≤ 39 → ∃ (k : Nat) (d : D) (s' : Sto), p.callN (n + 3) "_law_row" [(1, w.d), (0, .lst xs)] = .ok (kRow w xs) d (some (1, s'.d)) ∧ (k = 1 ∨ k = 2 ∨ k = 9) ∧ D.okv 4 d = true ∧ d.cnt ≤ 40 ∧ (d.flat = true → k = 9) ∧ (d.flat = false → k = min 9 (kRow w xs + 1)) := fun w xs hx hc => by
    refine ⟨if (w.row xs).1.flat then 9 else min 9 (kRow w xs + 1), (w.row xs).1, (w.row xs).2, rowg_l (n := n + 1) H.row H.take, ?_, okv_mono (row_okv hx) (by omega), by rw [row_cnt]; omega, fun z => by rw [if_pos z], fun z => by rw [if_neg (by rw [z]; decide)]⟩
    split
    · exact .inr (.inr rfl)
    · rcases kRow_c w xs with e | e | e <;> rw [e]
      · exact .inl rfl
      · exact .inr (.inl rfl)
      · exact .inr (.inr rfl)
  by_cases c0 : v.1 = 0
  · have hpk := pick_l (n := n + 1) H.pick H.take (s := v.2) (xs := bentMenu) (by decide) (by decide)
    have hm := pick_mem v.2 (xs := bentMenu) (by decide)
    generalize v.2.pick bentMenu = z at hpk hm
    have hz : D.okv 4 z.1 = true ∧ z.1.cnt ≤ 40 ∧ z.1.flat = true := by
      generalize z.1 = x at hm
      simp only [bentMenu, List.mem_cons, List.not_mem_nil, or_false] at hm
      rcases hm with rfl | rfl | rfl | rfl | rfl | rfl | rfl <;> exact ⟨by decide +kernel, by decide +kernel, by decide +kernel⟩
    refine ⟨9, z.1, z.2, (H.bent.call (n + 3) _ rfl).trans ?_, .inr (.inr rfl), hz.1, hz.2.1⟩
    simp only [bentMenu] at hpk
    have hzf := hz.2.2
    cases b <;> (simp! only [fd_law_bent_order, rowD, ic, it, ip, hcc, t5, c0, hpk, kOf_t hzf, hzf])
  · by_cases c1 : v.1 = 1
    · obtain ⟨k, d, s', e, hk, hd, hc, hf1, hf2⟩ := fin v.2 ((ns.eraseIdx u.1.toNat).map .int) (okv_ints _) (by rw [cnts_ints, List.length_eraseIdx_of_lt (by omega)]; omega)
      refine ⟨k, d, s', (H.bent.call (n + 3) _ rfl).trans ?_, hk, hd, hc⟩
      rcases kRow_c v.2 ((ns.eraseIdx u.1.toNat).map .int) with z | z | z <;> rw [z] at e hf2 <;> cases hdf : d.flat <;> (first | (have hk9 := hf1 hdf; subst hk9) | (have hk9 := hf2 hdf; subst hk9)) <;> cases b <;> (simp! only [fd_law_bent_order, rowD, ic, it, ir, hcc, t5, c0, c1, hg, e, hdf])
    · by_cases c2 : v.1 = 2
      · have b1 := take_0 v.2 ((ns.length : Int) + 1)
        have b2 := take_lt v.2 (m := (ns.length : Int) + 1) (by omega)
        have t6 := take_call (n := n + 2) H.take (s := v.2) (m := (ns.length : Int) + 1) (by omega)
        generalize v.2.take ((ns.length : Int) + 1) = x at b1 b2 t6
        obtain ⟨k, d, s', e, hk, hd, hc, hf1, hf2⟩ := fin x.2 ((ns.take x.1.toNat ++ gI ns u.1 :: ns.drop x.1.toNat).map .int) (okv_ints _) (by rw [cnts_ints, List.length_append, List.length_cons, List.length_take, List.length_drop]; omega)
        refine ⟨k, d, s', (H.bent.call (n + 3) _ rfl).trans ?_, hk, hd, hc⟩
        rcases kRow_c x.2 ((ns.take x.1.toNat ++ gI ns u.1 :: ns.drop x.1.toNat).map .int) with z | z | z <;> rw [z] at e hf2 <;> cases hdf : d.flat <;> (first | (have hk9 := hf1 hdf; subst hk9) | (have hk9 := hf2 hdf; subst hk9)) <;> cases b <;> (simp! only [fd_law_bent_order, rowD, ic, it, ir, hcc, t5, c0, c1, c2, hg, t6, e, hdf])
      · by_cases c3 : v.1 = 3 ∧ 1 < ns.length
        · have c31 := c3.1
          have c32 : (1 : Int) < ns.length := by omega
          have hgp : ∃ y, atI (ns.map D.int) (u.1 - 1) = some (.int y) := by
            by_cases h0 : 0 ≤ u.1 - 1
            · exact ⟨gI ns (u.1 - 1), by rw [atI_nn h0, List.getElem?_map, gI_at h0 (by omega)]; rfl⟩
            · have : u.1 - 1 = -1 := by omega
              rw [this, atI_m1, hlm, List.getElem?_map, List.getElem?_eq_getElem (by omega)]
              exact ⟨_, rfl⟩
          obtain ⟨y, hy⟩ := hgp
          obtain ⟨k, d, s', e, hk, hd, hc, hf1, hf2⟩ := fin v.2 ((ns.set u.1.toNat y).map .int) (okv_ints _) (by rw [cnts_ints, List.length_set]; omega)
          refine ⟨k, d, s', (H.bent.call (n + 3) _ rfl).trans ?_, hk, hd, hc⟩
          rcases kRow_c v.2 ((ns.set u.1.toNat y).map .int) with z | z | z <;> rw [z] at e hf2 <;> cases hdf : d.flat <;> (first | (have hk9 := hf1 hdf; subst hk9) | (have hk9 := hf2 hdf; subst hk9)) <;> cases b <;> (simp! only [fd_law_bent_order, rowD, ic, it, ir, hcc, t5, c0, c1, c2, c31, c32, hy, e, hdf])
        · obtain ⟨x, s1, hoff, ho⟩ := off_call (n := n) H.off H.take H.pick v.2 (low := 0) (high := (ns.length : Int) - 1) (by decide) (by omega) (by omega) ⟨by decide +kernel, by decide +kernel⟩ (by decide)
          have hxs : ∀ z ∈ (ns.map D.int).set u.1.toNat x, D.okv 2 z = true := fun z hz => by
            rcases List.mem_or_eq_of_mem_set hz with hz | rfl
            · exact okv_ints _ z hz
            · exact ho.1
          obtain ⟨k, d, s', e, hk, hd, hc, hf1, hf2⟩ := fin s1 ((ns.map D.int).set u.1.toNat x) hxs (by have := cnts_set (ns.map D.int) u.1.toNat x; rw [cnts_ints] at this; have := ho.2.1; omega)
          refine ⟨k, d, s', (H.bent.call (n + 3) _ rfl).trans ?_, hk, hd, hc⟩
          by_cases c31 : v.1 = 3
          · have c32 : ¬ (1 : Int) < ns.length := by omega
            rcases kRow_c s1 ((ns.map D.int).set u.1.toNat x) with z | z | z <;> rw [z] at e hf2 <;> cases hdf : d.flat <;> (first | (have hk9 := hf1 hdf; subst hk9) | (have hk9 := hf2 hdf; subst hk9)) <;> cases hxf : x.flat <;> rw [hxf] at hoff <;> cases b <;> (simp! only [fd_law_bent_order, rowD, ic, it, ir, io, hcc, t5, c0, c1, c2, c31, c32, hoff, hxf, e, hdf])
          · rcases kRow_c s1 ((ns.map D.int).set u.1.toNat x) with z | z | z <;> rw [z] at e hf2 <;> cases hdf : d.flat <;> (first | (have hk9 := hf1 hdf; subst hk9) | (have hk9 := hf2 hdf; subst hk9)) <;> cases hxf : x.flat <;> rw [hxf] at hoff <;> cases b <;> (simp! only [fd_law_bent_order, rowD, ic, it, ir, io, hcc, t5, c0, c1, c2, c31, hoff, hxf, e, hdf])
end
end VI.P
set_option autoImplicit false
set_option Elab.async false
set_option linter.all false
set_option maxRecDepth 100000
set_option maxHeartbeats 4000000
set_option autoImplicit false
namespace VI.P
open PySem PySem.Spec PyProof.Rows L2
theorem row_ints (s : Sto) (ns : List Int) : (s.row (ns.map .int)).1 = rowD (decide ((s.take 2).1 = 0)) ns := by
  unfold Sto.row rowD
  by_cases h : (s.take 2).1 = 0 <;> simp [h]
def bendB : CSs := .cons (.ite (.or (.cmp .Eq (.var 6) (.var 5)) (.cmp .Eq (.fn "_law_take" (.cons (.var 0) (.cons (.int 3) .nil))) (.int 0))) (.cons (.ite (.cmp .Eq (.var 6) (.int 0)) (.cons (.six (.var 4) (.int 0) (.sub (.fn "_law_off" (.cons (.var 0) (.cons (.int 1) (.cons (.int 12) .nil)))) (.int 0))) .nil) (.cons (.ite (.cmp .Eq (.fn "_law_take" (.cons (.var 0) (.cons (.int 4) .nil))) (.int 0)) (.cons (.six (.var 4) (.var 6) (.fn "_law_value" (.cons (.var 0) (.cons (.int 8) .nil)))) .nil) (.cons (.six (.var 4) (.var 6) (.sub (.fn "_law_bent_order" (.cons (.var 0) (.cons (.sub (.fz 4 1) (.var 6)) .nil))) (.int 0))) .nil)) .nil)) .nil) .nil) .nil
def K3 (k : Nat) : Prop := k = 1 ∨ k = 2 ∨ k = 10
section
variable {p : Pg} {n : Nat}
theorem bend_0 (H : LawH p) {e1 e2 e3 o6 : Option (Nat × D)} {a0 a1 a2 : D} {m : Int} (s : Sto) (ha : D.okv 8 a0 = true) (hc : a0.cnt ≤ 40) : ∃ (s' : Sto) (k' : Nat) (x : D), forB (p.sm (n + 5)) (.name 6) bendB [] (.own 9, .int 0) [some (1, s.d), e1, e2, e3, some (10, .lst [a0, a1, a2]), some (9, .int m), o6] = .nx [some (1, s'.d), e1, e2, e3, some (k', .lst [x, a1, a2]), some (9, .int m), some (9, .int 0)] ∧ K3 k' ∧ D.okv 8 x = true ∧ x.cnt ≤ 40 := by
  have it : p.ino "_law_take" = true := H.take.ino
  have io : p.ino "_law_off" = true := H.off.ino
  have off := fun (s : Sto) => off_call (n := n + 2) H.off H.take H.pick s (low := 1) (high := 12) (by decide) (by decide) (by decide) ⟨by decide +kernel, by decide +kernel⟩ (by decide)
  by_cases c0 : (0 : Int) = m
  · subst c0
    obtain ⟨x, s1, hx, ho⟩ := off s
    cases hf : x.flat <;> rw [hf] at hx
    · exact ⟨s1, 1, x, by (simp! only [bendB, io, hx, hf]), .inl rfl, okv_mono ho.1 (by decide), by have := ho.2.1; omega⟩
    · exact ⟨s1, 10, x, by (simp! only [bendB, io, hx, hf]), .inr (.inr rfl), okv_mono ho.1 (by decide), by have := ho.2.1; omega⟩
  · by_cases c1 : (s.take 3).1 = 0
    · obtain ⟨x, s1, hx, ho⟩ := off (s.take 3).2
      cases hf : x.flat <;> rw [hf] at hx
      · exact ⟨s1, 1, x, by (simp! only [bendB, io, it, take_call H.take, c0, c1, hx, hf]), .inl rfl, okv_mono ho.1 (by decide), by have := ho.2.1; omega⟩
      · exact ⟨s1, 10, x, by (simp! only [bendB, io, it, take_call H.take, c0, c1, hx, hf]), .inr (.inr rfl), okv_mono ho.1 (by decide), by have := ho.2.1; omega⟩
    · exact ⟨(s.take 3).2, 10, a0, by (simp! only [bendB, it, take_call H.take, c0, c1]), .inr (.inr rfl), ha, hc⟩
theorem bend_k (H : LawH p) {e1 e2 e3 o6 : Option (Nat × D)} {a0 a1 a2 : D} {m : Int} (s : Sto) {kk : Nat} (hkk : kk = 1 ∨ kk = 2) {b : Bool} {ns : List Int} (hr : [a0, a1, a2][kk]? = some (rowD b ns)) (h1 : 1 ≤ ns.length) (hl : ns.length ≤ 13) {ko : Nat} (hko : K3 ko) : ∃ (s' : Sto) (k' : Nat) (x : D), forB (p.sm (n + 5)) (.name 6) bendB [] (.own 9, .int kk) [some (1, s.d), e1, e2, e3, some (ko, .lst [a0, a1, a2]), some (9, .int m), o6] = .nx [some (1, s'.d), e1, e2, e3, some (k', .lst ([a0, a1, a2].set kk x)), some (9, .int m), some (9, .int kk)] ∧ K3 k' ∧ D.okv 8 x = true ∧ x.cnt ≤ 40 := by
  have it : p.ino "_law_take" = true := H.take.ino
  have iv : p.ino "_law_value" = true := H.value.ino
  have ib : p.ino "_law_bent_order" = true := H.bent.ino
  have chg : ∀ s1 : Sto, ∃ (s' : Sto) (k' : Nat) (x : D), (exSs (p.sm (n + 5)) (.cons (.ite (.cmp .Eq (.var 6) (.int 0)) (.cons (.six (.var 4) (.int 0) (.sub (.fn "_law_off" (.cons (.var 0) (.cons (.int 1) (.cons (.int 12) .nil)))) (.int 0))) .nil) (.cons (.ite (.cmp .Eq (.fn "_law_take" (.cons (.var 0) (.cons (.int 4) .nil))) (.int 0)) (.cons (.six (.var 4) (.var 6) (.fn "_law_value" (.cons (.var 0) (.cons (.int 8) .nil)))) .nil) (.cons (.six (.var 4) (.var 6) (.sub (.fn "_law_bent_order" (.cons (.var 0) (.cons (.sub (.fz 4 1) (.var 6)) .nil))) (.int 0))) .nil)) .nil)) .nil) [] [some (1, s1.d), e1, e2, e3, some (ko, .lst [a0, a1, a2]), some (9, .int m), some (9, .int kk)] = .nx [some (1, s'.d), e1, e2, e3, some (k', .lst ([a0, a1, a2].set kk x)), some (9, .int m), some (9, .int kk)]) ∧ K3 k' ∧ D.okv 8 x = true ∧ x.cnt ≤ 40 := fun s1 => by
    by_cases c4 : (s1.take 4).1 = 0
    · obtain ⟨k, d, s2, hv, hk, hd, hc⟩ := value_call (n := n) H.value H.toPlainH H.row (s1.take 4).2
      refine ⟨s2, min ko (1 + (if d.flat then 9 else k)), d, ?_, ?_, hd, by omega⟩
      · rcases hkk with rfl | rfl <;> rcases hko with rfl | rfl | rfl <;> rcases hk with rfl | rfl | rfl <;> cases hf : d.flat <;> (simp! only [it, iv, take_call H.take, c4, hv, hf])
      · rcases hko with rfl | rfl | rfl <;> rcases hk with rfl | rfl | rfl <;> cases hf : d.flat <;> first | exact .inl rfl | exact .inr (.inl rfl) | exact .inr (.inr rfl)
    · obtain ⟨k, d, s2, hv, hk, hd, hc⟩ := bent_call (n := n + 1) (b := b) (ns := ns) H h1 hl (s1.take 4).2
      refine ⟨s2, min 1 (1 + (if d.flat then 9 else k - 1)), d, ?_, .inl (by omega), okv_mono hd (by decide), hc⟩
      rcases hkk with rfl | rfl
      · obtain rfl : a1 = rowD b ns := Option.some.inj hr
        rcases hko with rfl | rfl | rfl <;> rcases hk with rfl | rfl | rfl <;> cases hf : d.flat <;> cases b <;> simp only [rowD, Bool.false_eq_true, if_false, if_true] at * <;> (simp! only [it, ib, take_call H.take, c4, hv, hf])
      · obtain rfl : a2 = rowD b ns := Option.some.inj hr
        rcases hko with rfl | rfl | rfl <;> rcases hk with rfl | rfl | rfl <;> cases hf : d.flat <;> cases b <;> simp only [rowD, Bool.false_eq_true, if_false, if_true] at * <;> (simp! only [it, ib, take_call H.take, c4, hv, hf])
  have hok : D.okv 8 (rowD b ns) = true ∧ (rowD b ns).cnt ≤ 40 := by
    have : D.okvs 7 (ns.map .int) = true := okvs_all.mpr (okv_ints ns)
    have hcn := cnts_ints ns
    cases b <;> exact ⟨this, by show D.cnts (ns.map .int) + 1 ≤ 40; omega⟩
  by_cases c0 : (kk : Int) = m
  · obtain ⟨s', k', x, e, hk, hd, hc⟩ := chg s
    refine ⟨s', k', x, ?_, hk, hd, hc⟩
    rw [← e]
    subst c0
    rcases hkk with rfl | rfl <;> (simp! only [bendB])
  · by_cases c1 : (s.take 3).1 = 0
    · obtain ⟨s', k', x, e, hk, hd, hc⟩ := chg (s.take 3).2
      refine ⟨s', k', x, ?_, hk, hd, hc⟩
      rw [← e]
      rcases hkk with rfl | rfl <;> (simp! only [bendB, it, take_call H.take, c0, c1])
    · refine ⟨(s.take 3).2, ko, rowD b ns, ?_, hko, hok.1, hok.2⟩
      rcases hkk with rfl | rfl
      · obtain rfl : a1 = rowD b ns := Option.some.inj hr
        (simp! only [bendB, it, take_call H.take, c0, c1])
      · obtain rfl : a2 = rowD b ns := Option.some.inj hr
        (simp! only [bendB, it, take_call H.take, c0, c1])
end
end VI.P
set_option autoImplicit false
set_option Elab.async false
set_option linter.all false
set_option maxRecDepth 100000
set_option maxHeartbeats 4000000
set_option autoImplicit false
namespace VI.P
open PySem PySem.Spec PyProof.Rows L2
theorem rowD_flat (b : Bool) (ns : List Int) : (rowD b ns).flat = !b := by cases b <;> simp [rowD, D.flat, flats_int]
section
variable {p : Pg} {n : Nat}
theorem bend_call (H : LawH p) {w : Int} {ln r : List Int} (hl1 : 1 ≤ ln.length) (hl : ln.length ≤ 13) (hr1 : 1 ≤ r.length) (hr : r.length ≤ 13) (s : Sto) : ∃ (a b c : D) (k : Nat) (s' : Sto), p.callN (n + 6) "_law_bend" [(1, s.d), (0, .int w), (0, .lst (ln.map .int)), (0, .lst (r.map .int))] = .ok k (.lst [a, b, c]) (some (1, s'.d)) ∧ (k = 1 ∨ k = 2 ∨ k = 9) ∧ (D.okv 8 a = true ∧ a.cnt ≤ 40) ∧ (D.okv 8 b = true ∧ b.cnt ≤ 40) ∧ D.okv 8 c = true ∧ c.cnt ≤ 40 := by
  have it : p.ino "_law_take" = true := H.take.ino
  have ir : p.ino "_law_row" = true := H.row.ino
  have r1 := row_l (n := n + 3) H.row H.take (s := s) (xs := ln.map .int) (flats_int _)
  rw [row_ints] at r1
  generalize decide ((s.take 2).1 = 0) = b1 at r1
  generalize (s.row (ln.map .int)).2 = s1 at r1
  have r2 := row_l (n := n + 3) H.row H.take (s := s1) (xs := r.map .int) (flats_int _)
  rw [row_ints] at r2
  generalize decide ((s1.take 2).1 = 0) = b2 at r2
  generalize (s1.row (r.map .int)).2 = s2 at r2
  have hm := take_call (n := n + 4) H.take (s := s2) (m := 3) (by decide)
  generalize s2.take 3 = mu at hm
  obtain ⟨s3, k0, x0, e0, hk0, hx0, hc0⟩ := bend_0 (n := n) H (e1 := none) (e2 := some (0, .lst (ln.map .int))) (e3 := some (0, .lst (r.map .int))) (o6 := none) (a0 := .int w) (a1 := rowD b1 ln) (a2 := rowD b2 r) (m := mu.1) mu.2 (by simp [D.okv]) (by simp [D.cnt])
  obtain ⟨s4, k1, x1, e1, hk1, hx1, hc1⟩ := bend_k (n := n) H (e1 := none) (e2 := some (0, .lst (ln.map .int))) (e3 := some (0, .lst (r.map .int))) (o6 := some (9, .int 0)) (a0 := x0) (a1 := rowD b1 ln) (a2 := rowD b2 r) (m := mu.1) s3 (kk := 1) (.inl rfl) rfl hl1 hl hk0
  obtain ⟨s5, k2, x2, e2, hk2, hx2, hc2⟩ := bend_k (n := n) H (e1 := none) (e2 := some (0, .lst (ln.map .int))) (e3 := some (0, .lst (r.map .int))) (o6 := some (9, .int 1)) (a0 := x0) (a1 := x1) (a2 := rowD b2 r) (m := mu.1) s4 (kk := 2) (.inr rfl) rfl hr1 hr hk1
  have hr3 : rngL 0 3 = [0, 1, 2] := by decide
  have hloop : forS (p.sm (n + 5)) (.name 6) bendB [] (.own 9) ((rngL 0 3).map .int) [some (1, mu.2.d), none, some (0, .lst (ln.map .int)), some (0, .lst (r.map .int)), some (10, .lst [.int w, rowD b1 ln, rowD b2 r]), some (9, .int mu.1), none] = .nx [some (1, s5.d), none, some (0, .lst (ln.map .int)), some (0, .lst (r.map .int)), some (k2, .lst [x0, x1, x2]), some (9, .int mu.1), some (9, .int 2)] := by
    rw [hr3]
    simp only [List.map_cons, List.map_nil]
    have hn : ∀ i : Int, nrm (.own 9) (.int i) = .own 9 := fun _ => rfl
    rw [forS_cons, hn, e0, kTurnn, forS_cons, hn]
    have e1' : forB (p.sm (n + 5)) (.name 6) bendB [] (.own 9, .int 1) [some (1, s3.d), none, some (0, .lst (ln.map .int)), some (0, .lst (r.map .int)), some (k0, .lst [x0, rowD b1 ln, rowD b2 r]), some (9, .int mu.1), some (9, .int 0)] = .nx [some (1, s4.d), none, some (0, .lst (ln.map .int)), some (0, .lst (r.map .int)), some (k1, .lst [x0, x1, rowD b2 r]), some (9, .int mu.1), some (9, .int 1)] := e1
    have e2' : forB (p.sm (n + 5)) (.name 6) bendB [] (.own 9, .int 2) [some (1, s4.d), none, some (0, .lst (ln.map .int)), some (0, .lst (r.map .int)), some (k1, .lst [x0, x1, rowD b2 r]), some (9, .int mu.1), some (9, .int 1)] = .nx [some (1, s5.d), none, some (0, .lst (ln.map .int)), some (0, .lst (r.map .int)), some (k2, .lst [x0, x1, x2]), some (9, .int mu.1), some (9, .int 2)] := e2
    rw [e1', kTurnn, forS_cons, hn, e2', kTurnn, forS_nil]
  unfold bendB at hloop
  refine ⟨x0, x1, x2, min 9 k2, s5, (H.bend.call (n + 5) _ rfl).trans ?_, ?_, ⟨hx0, hc0⟩, ⟨hx1, hc1⟩, hx2, hc2⟩
  · have hf1 := rowD_flat b1 ln
    have hf2 := rowD_flat b2 r
    rcases hk2 with rfl | rfl | rfl <;> cases b1 <;> cases b2 <;> (simp! only [VI25.fd_law_bend, it, ir, r1, r2, hm, hf1, hf2, hloop])
  · rcases hk2 with rfl | rfl | rfl
    · exact .inl rfl
    · exact .inr (.inl rfl)
    · exact .inr (.inr rfl)
end
end VI.P
set_option autoImplicit false
set_option Elab.async false
set_option linter.all false
set_option maxRecDepth 100000
set_option maxHeartbeats 4000000
set_option autoImplicit false
namespace VI.P
open PySem PySem.Spec PyProof.Rows L2
structure Wd where
  w : Int
  ln : List Int
  rows : List (List Int)
def Wd.d (W : Wd) : D := .lst [.int W.w, .lst (W.ln.map .int), .lst (rowsD W.rows)]
structure Wd.ok (W : Wd) : Prop where
  w1 : 1 ≤ W.w
  w2 : W.w ≤ 12
  ln : Ordn W.w W.ln
  n1 : 1 ≤ W.rows.length
  n2 : W.rows.length ≤ 4
  rows : ∀ r ∈ W.rows, Ordn W.w r
structure J1 where
  s : Sto
  hand : List Int
  kh : Nat
  o5 : Option (Nat × D)
  o6 : Option (Nat × D)
  o7 : Option (Nat × D)
def kindB : CSs := .cons (.ite (.not (.fn "_law_holds" (.cons (.var 7) (.cons (.sub (.var 3) (.int 0)) (.cons (.fn "_law_row" (.cons (.var 1) (.cons (.sub (.var 3) (.int 1)) .nil))) (.cons (.var 4) .nil)))))) (.cons (.ret (.bl false)) .nil) .nil) .nil
def rowB : CSs := .cons (.for (.name 6) (.rng (.sub (.var 3) (.int 0))) (.cons (.six (.var 4) (.var 6) (.sub (.fz 5 1) (.var 6))) .nil)) (.cons (.for (.name 7) (.seq (.lst (.cons (.int 0) (.cons (.int 1) .nil)))) kindB) (.cons (.ite (.not (.fn "_law_holds" (.cons (.fn "_law_take" (.cons (.var 1) (.cons (.int 2) .nil))) (.cons (.sub (.var 3) (.int 0)) (.cons (.fn "_law_row" (.cons (.var 1) (.cons (.rev (.sub (.fz 3 2) (.int 1))) .nil))) (.cons (.bi "tuple" (.cons (.fz 4 1) .nil)) .nil)))))) (.cons (.ret (.bl false)) .nil) .nil) .nil))
theorem okv_rowD (b : Bool) (ns : List Int) {h : Nat} (hh : 1 ≤ h) : D.okv h (rowD b ns) = true := by
  cases h with
  | zero => omega
  | succ h =>
    have : D.okvs h (ns.map .int) = true := okvs_all.mpr (okv_ints ns)
    cases b <;> exact this
theorem cnt_rowD (b : Bool) (ns : List Int) : (rowD b ns).cnt = ns.length + 1 := by
  have hcn := cnts_ints ns
  cases b <;> (show D.cnts (ns.map .int) + 1 = _) <;> omega
section
variable {p : Pg} {n : Nat}
theorem row_step (H : LawH p) {e0 e2 e8 : Option (Nat × D)} {W : Wd} (hW : W.ok) {r : List Int} (hr : Ordn W.w r) (j : J1) (hj : (j.hand.length : Int) = W.w) (hk : j.kh = 1 ∨ j.kh = 10) :
    ∃ j' : J1, ((j'.hand.length : Int) = W.w ∧ (j'.kh = 1 ∨ j'.kh = 10)) ∧ forB (p.sm (n + 6)) (.name 5) rowB [] (.own 0, .lst (r.map .int)) [e0, some (1, j.s.d), e2, some (0, W.d), some (j.kh, .lst (j.hand.map .int)), j.o5, j.o6, j.o7, e8] = .nx [e0, some (1, j'.s.d), e2, some (0, W.d), some (j'.kh, .lst (j'.hand.map .int)), j'.o5, j'.o6, j'.o7, e8] := by
  obtain ⟨s, hand, kh, o5, o6, o7⟩ := j
  dsimp only at *
  have it : p.ino "_law_take" = true := H.take.ino
  have ir : p.ino "_law_row" = true := H.row.ino
  have ih : p.ino "_law_holds" = false := H.holds.ino
  have hw1 := hW.w1
  have hw2 := hW.w2
  have hrl := hr.len
  have hll := hW.ln.len
  obtain ⟨hq, o6', e1⟩ := loop_fold (Γ := p.sm (n + 6)) (g := .name 6) (ss := .cons (.six (.var 4) (.var 6) (.sub (.fz 5 1) (.var 6))) .nil) (bs := []) (t := .own 9) .int (fun (h : List Int) (o : Option (Nat × D)) => [e0, some (1, s.d), e2, some (0, W.d), some (kh, .lst (h.map .int)), some (0, .lst (r.map .int)), o, o7, e8]) (fun h k => h.set k.toNat (gI r k)) (fun h => (h.length : Int) = W.w) (rngL 0 W.w) (fun k hk' h o hh => by
    obtain ⟨k0, k1⟩ := rngL_mem.mp hk'
    have hg := gI_at (l := r) k0 (by omega)
    have hlm : (h.map D.int).length = h.length := List.length_map _
    refine ⟨by rw [List.length_set]; exact hh, some (9, .int k), ?_⟩
    rcases hk with rfl | rfl <;> (simp! only [hg])) hand o6 hj
  generalize (rngL 0 W.w).foldl (fun h k => h.set k.toNat (gI r k)) hand = hd at hq e1
  have hdo : D.okv 20 (rowD true hd) = true ∧ (rowD true hd).cnt ≤ 1000 := ⟨okv_rowD _ _ (by decide), by rw [cnt_rowD]; omega⟩
  have hdt : D.okv 20 (rowD false hd) = true ∧ (rowD false hd).cnt ≤ 1000 := ⟨okv_rowD _ _ (by decide), by rw [cnt_rowD]; omega⟩
  have hwo : D.okv 20 (.int W.w) = true ∧ (D.int W.w).cnt ≤ 1000 := ⟨by simp [D.okv], by simp [D.cnt]⟩
  obtain ⟨j2, _, e2'⟩ := loop_inv (Γ := p.sm (n + 6)) (g := .name 7) (ss := kindB) (bs := []) (t := .own 0) .int (fun j : Sto × Option (Nat × D) => [e0, some (1, j.1.d), e2, some (0, W.d), some (kh, .lst (hd.map .int)), some (0, .lst (r.map .int)), o6', j.2, e8]) (fun _ => True) [0, 1] (fun k hkk j _ => by
    have r1 := row_l (n := n + 4) H.row H.take (s := j.1) (xs := W.ln.map .int) (flats_int _)
    rw [row_ints] at r1
    generalize decide ((j.1.take 2).1 = 0) = b1 at r1
    have hh := holds_call (n := n) H (kind := k) (w := .int W.w) (l := rowD b1 W.ln) (o := rowD true hd) (by simpa using hkk) hwo.1 (okv_rowD _ _ (by decide)) hdo.1 hwo.2 (by rw [cnt_rowD]; omega) hdo.2
    have hf1 := rowD_flat b1 W.ln
    refine ⟨((j.1.row (W.ln.map .int)).2, some (9, .int k)), trivial, ?_⟩
    rcases hk with rfl | rfl <;> cases b1 <;> simp only [rowD, Bool.false_eq_true, if_false, if_true] at * <;> (simp! only [kindB, Wd.d, ir, ih, r1, hf1, hh])) (s, o7) trivial
  obtain ⟨s2, o7'⟩ := j2
  dsimp only at e2'
  have t0 := take_0 s2 2
  have t1 := take_lt s2 (m := 2) (by decide)
  have tc := take_call (n := n + 5) H.take (s := s2) (m := 2) (by decide)
  generalize s2.take 2 = u at t0 t1 tc
  have r2 := row_l (n := n + 4) H.row H.take (s := u.2) (xs := W.ln.reverse.map .int) (flats_int _)
  rw [row_ints] at r2
  generalize decide ((u.2.take 2).1 = 0) = b2 at r2
  generalize (u.2.row (W.ln.reverse.map .int)).2 = s3 at r2
  have hh := holds_call (n := n) H (kind := u.1) (w := .int W.w) (l := rowD b2 W.ln.reverse) (o := rowD false hd) (by omega) hwo.1 (okv_rowD _ _ (by decide)) hdt.1 hwo.2 (by rw [cnt_rowD, List.length_reverse]; omega) hdt.2
  have hf2 := rowD_flat b2 W.ln.reverse
  refine ⟨⟨s3, hd, 1, some (0, .lst (r.map .int)), o6', o7'⟩, ⟨hq, .inl rfl⟩, ?_⟩
  dsimp only
  simp only [List.map_cons, List.map_nil] at e2'
  unfold kindB Wd.d at e2'
  unfold Wd.d at e1
  rcases hk with rfl | rfl <;> cases b2 <;> simp only [rowD, Bool.false_eq_true, if_false, if_true] at * <;> (simp! only [rowB, kindB, Wd.d, ir, ih, it, e1, e2', tc, r2, hf2, hh])
theorem rowsD_map (rows : List (List Int)) : rowsD rows = rows.map fun r => D.lst (r.map .int) := rfl
def worldB : CSs := .cons (.set 4 (.bi "list" (.cons (.sub (.sub (.fz 3 3) (.int 2)) (.int 0)) .nil))) (.cons (.for (.name 5) (.seq (.sub (.fz 3 2) (.int 2))) rowB) .nil)
structure J2 where
  s : Sto
  o3 : Option (Nat × D)
  o4 : Option (Nat × D)
  o5 : Option (Nat × D)
  o6 : Option (Nat × D)
  o7 : Option (Nat × D)
  o8 : Option (Nat × D)
theorem world_step (H : LawH p) {e0 e2 : Option (Nat × D)} {W : Wd} (hW : W.ok) (j : J2) :
    ∃ j' : J2, forB (p.sm (n + 6)) (.name 3) worldB [] (.own 0, W.d) [e0, some (1, j.s.d), e2, j.o3, j.o4, j.o5, j.o6, j.o7, j.o8] = .nx [e0, some (1, j'.s.d), e2, j'.o3, j'.o4, j'.o5, j'.o6, j'.o7, j'.o8] := by
  obtain ⟨s, o3, o4, o5, o6, o7, o8⟩ := j
  have hn1 := hW.n1
  have h0 : W.rows[0]? = some W.rows[0] := List.getElem?_eq_getElem (by omega)
  have hr0 := hW.rows _ (List.getElem_mem (h := (by omega : 0 < W.rows.length)))
  generalize W.rows[0] = r0 at h0 hr0
  obtain ⟨j', _, e⟩ := loop_inv (Γ := p.sm (n + 6)) (g := .name 5) (ss := rowB) (bs := []) (t := .own 0) (fun r : List Int => D.lst (r.map .int)) (fun j : J1 => [e0, some (1, j.s.d), e2, some (0, W.d), some (j.kh, .lst (j.hand.map .int)), j.o5, j.o6, j.o7, o8]) (fun j : J1 => (j.hand.length : Int) = W.w ∧ (j.kh = 1 ∨ j.kh = 10)) W.rows (fun r hr j hj => row_step H hW (hW.rows r hr) j hj.1 hj.2) ⟨s, r0, 10, o5, o6, o7⟩ ⟨hr0.len, .inr rfl⟩
  refine ⟨⟨j'.s, some (0, W.d), some (j'.kh, .lst (j'.hand.map .int)), j'.o5, j'.o6, j'.o7, o8⟩, ?_⟩
  dsimp only at e ⊢
  have hg : (rowsD W.rows)[0]? = some (.lst (r0.map .int)) := by rw [rowsD_map, List.getElem?_map, h0]; rfl
  rw [← rowsD_map] at e
  unfold Wd.d rowB kindB at e
  (simp! only [worldB, rowB, kindB, Wd.d, hg, e])
def lastB : CSs := .cons (.for (.name 7) (.seq (.lst (.cons (.int 0) (.cons (.int 1) .nil)))) (.cons (.set 8 (.fn "_law_bend" (.cons (.var 1) (.cons (.sub (.var 3) (.int 0)) (.cons (.sub (.var 3) (.int 1)) (.cons (.fn "_law_pick" (.cons (.var 1) (.cons (.sub (.var 3) (.int 2)) .nil))) .nil)))))) (.cons (.ite (.not (.fn "_law_holds" (.cons (.var 7) (.cons (.sub (.var 8) (.int 0)) (.cons (.sub (.var 8) (.int 1)) (.cons (.sub (.var 8) (.int 2)) .nil)))))) (.cons (.ret (.bl false)) .nil) .nil) .nil))) .nil
theorem last_step (H : LawH p) {e0 e2 : Option (Nat × D)} {W : Wd} (hW : W.ok) (j : J2) :
    ∃ j' : J2, forB (p.sm (n + 6)) (.name 3) lastB [] (.own 0, W.d) [e0, some (1, j.s.d), e2, j.o3, j.o4, j.o5, j.o6, j.o7, j.o8] = .nx [e0, some (1, j'.s.d), e2, j'.o3, j'.o4, j'.o5, j'.o6, j'.o7, j'.o8] := by
  obtain ⟨s, o3, o4, o5, o6, o7, o8⟩ := j
  have ib : p.ino "_law_bend" = true := H.bend.ino
  have ip : p.ino "_law_pick" = true := H.pick.ino
  have ih : p.ino "_law_holds" = false := H.holds.ino
  have hw1 := hW.w1
  have hw2 := hW.w2
  have hll := hW.ln.len
  have hn1 := hW.n1
  have hn2 := hW.n2
  obtain ⟨j2, _, e⟩ := loop_inv (Γ := p.sm (n + 6)) (g := .name 7) (ss := .cons (.set 8 (.fn "_law_bend" (.cons (.var 1) (.cons (.sub (.var 3) (.int 0)) (.cons (.sub (.var 3) (.int 1)) (.cons (.fn "_law_pick" (.cons (.var 1) (.cons (.sub (.var 3) (.int 2)) .nil))) .nil)))))) (.cons (.ite (.not (.fn "_law_holds" (.cons (.var 7) (.cons (.sub (.var 8) (.int 0)) (.cons (.sub (.var 8) (.int 1)) (.cons (.sub (.var 8) (.int 2)) .nil)))))) (.cons (.ret (.bl false)) .nil) .nil) .nil)) (bs := []) (t := .own 0) .int (fun j : Sto × Option (Nat × D) × Option (Nat × D) => [e0, some (1, j.1.d), e2, some (0, W.d), o4, o5, o6, j.2.1, j.2.2]) (fun _ => True) [0, 1] (fun k hkk j _ => by
    have hpk := pick_l (n := n + 4) H.pick H.take (s := j.1) (xs := rowsD W.rows) (by rw [rowsD_map, List.length_map]; omega) (by rw [rowsD_map, List.length_map]; omega)
    have hm := pick_mem j.1 (xs := rowsD W.rows) (by rw [rowsD_map, List.length_map]; omega)
    rw [rowsD_map] at hm
    obtain ⟨r, hr, er⟩ := List.mem_map.mp hm
    rw [← rowsD_map] at er
    rw [← er] at hpk
    generalize (j.1.pick (rowsD W.rows)).2 = s1 at hpk
    have hrl := (hW.rows r hr).len
    obtain ⟨a, b, c, kb, s2, hb, hkb, ha, hbb, hc⟩ := bend_call (n := n) H (w := W.w) (ln := W.ln) (r := r) (by omega) (by omega) (by omega) (by omega) s1
    have hh := holds_call (n := n) H (kind := k) (w := a) (l := b) (o := c) (by simpa using hkk) (okv_mono ha.1 (by decide)) (okv_mono hbb.1 (by decide)) (okv_mono hc.1 (by decide)) (by omega) (by omega) (by omega)
    refine ⟨(s2, some (9, .int k), some (kb, .lst [a, b, c])), trivial, ?_⟩
    rcases hkb with rfl | rfl | rfl <;> cases hfa : a.flat <;> cases hfb : b.flat <;> cases hfc : c.flat <;> (simp! only [Wd.d, ib, ip, ih, hpk, kOf, hb, hfa, hfb, hfc, hh])) (s, o7, o8) trivial
  refine ⟨⟨j2.1, some (0, W.d), o4, o5, o6, j2.2.1, j2.2.2⟩, ?_⟩
  dsimp only
  simp only [List.map_cons, List.map_nil] at e
  unfold Wd.d at e
  (simp! only [lastB, Wd.d, e])
theorem law_call (H : LawH p) (ns : List Int) : p.callN (n + 7) "law" [(0, .arg ns)] = .ok 9 (.bl true) none := by
  have is : p.ino "_law_store" = false := H.store.ino
  have ir : p.ino "_law_rails" = true := H.rails.ino
  have io : p.ino "_law_order" = true := H.order.ino
  have ih : p.ino "_law_holds" = false := H.holds.ino
  have hst := store_call (n := n + 5) H.store ns
  obtain ⟨w1, l1, rs1, s1, e1, a1, a2, a3, a4, a5, a6⟩ := rails_call (n := n + 1) H (Sto.init ns) (least := 1) (by decide) (by decide)
  obtain ⟨w2, l2, rs2, s2, e2, c1, c2, c3, c4, c5, c6⟩ := rails_call (n := n + 1) H s1 (least := 3) (by decide) (by decide)
  have ok1 : Wd.ok ⟨w1, l1, rs1⟩ := ⟨a1, a2, a3, a4, a5, a6⟩
  have ok2 : Wd.ok ⟨w2, l2, rs2⟩ := ⟨c1, c2, c3, c4, c5, c6⟩
  generalize hW1 : (⟨w1, l1, rs1⟩ : Wd) = W1 at ok1
  generalize hW2 : (⟨w2, l2, rs2⟩ : Wd) = W2 at ok2
  have d1 : (.lst [.int w1, .lst (l1.map .int), .lst (rowsD rs1)] : D) = W1.d := by rw [← hW1]; rfl
  have d2 : (.lst [.int w2, .lst (l2.map .int), .lst (rowsD rs2)] : D) = W2.d := by rw [← hW2]; rfl
  rw [d1] at e1
  rw [d2] at e2
  have nf1 : W1.d.flat = false := rfl
  have nf2 : W2.d.flat = false := rfl
  obtain ⟨j1, _, f1⟩ := loop_inv (Γ := p.sm (n + 6)) (g := .name 3) (ss := worldB) (bs := []) (t := .own 0) Wd.d (fun j : J2 => [some (0, .arg ns), some (1, j.s.d), some (1, .lst [W1.d, W2.d]), j.o3, j.o4, j.o5, j.o6, j.o7, j.o8]) (fun _ => True) [W1, W2, W1] (fun W hWm j _ => by
    have hok : W.ok := by
      simp only [List.mem_cons, List.not_mem_nil, or_false] at hWm
      rcases hWm with rfl | rfl | rfl <;> assumption
    obtain ⟨j', e⟩ := world_step (p := p) (n := n) H (e0 := some (0, .arg ns)) (e2 := some (1, .lst [W1.d, W2.d])) hok j
    exact ⟨j', trivial, e⟩) ⟨s2, none, none, none, none, none, none⟩ trivial
  obtain ⟨j2, _, f2⟩ := loop_inv (Γ := p.sm (n + 6)) (g := .name 3) (ss := lastB) (bs := []) (t := .own 0) Wd.d (fun j : J2 => [some (0, .arg ns), some (1, j.s.d), some (1, .lst [W1.d, W2.d]), j.o3, j.o4, j.o5, j.o6, j.o7, j.o8]) (fun _ => True) [W1, W2, W1, W2] (fun W hWm j _ => by
    have hok : W.ok := by
      simp only [List.mem_cons, List.not_mem_nil, or_false] at hWm
      rcases hWm with rfl | rfl | rfl | rfl <;> assumption
    obtain ⟨j', e⟩ := last_step (p := p) (n := n) H (e0 := some (0, .arg ns)) (e2 := some (1, .lst [W1.d, W2.d])) hok j
    exact ⟨j', trivial, e⟩) j1 trivial
  have ho := order_call (n := n + 3) H.order H.take H.shuffle (s := j2.s) (w := 13) (by decide) (by decide)
  have hop := order_perm j2.s 13
  generalize j2.s.order 13 = u at ho hop
  have hul : u.1.length = 13 := by rw [hop.length_eq, rngL_len]; rfl
  have q0 := okv_rowD false u.1 (h := 20) (by decide)
  have q1 : (rowD false u.1).cnt ≤ 1000 := by rw [cnt_rowD]; omega
  have h0 := holds_call (n := n) H (kind := 0) (w := .int 13) (l := rowD false u.1) (o := rowD false u.1) (.inl rfl) (by simp [D.okv]) q0 q0 (by simp [D.cnt]) q1 q1
  have h1 := holds_call (n := n) H (kind := 1) (w := .int 13) (l := rowD false u.1) (o := rowD false u.1) (.inr rfl) (by simp [D.okv]) q0 q0 (by simp [D.cnt]) q1 q1
  simp only [List.map_cons, List.map_nil] at f1 f2
  unfold worldB rowB kindB at f1
  unfold lastB at f2
  have ht1 : List.take 1 [W1.d, W2.d] = [W1.d] := rfl
  have hf1 : D.flats [W1.d] = false := rfl
  refine (H.law.call (n + 6) _ rfl).trans ?_
  simp only [rowD, Bool.false_eq_true, if_false] at h0 h1
  (simp! only [VI25.fdlaw, is, ir, io, ih, hst, e1, e2, nf1, nf2, ht1, hf1, f1, f2, ho, h0, h1])
end
end VI.P
set_option autoImplicit true
set_option Elab.async false
set_option linter.all false
set_option maxRecDepth 100000
set_option maxHeartbeats 0
namespace VI25
open PySem PySem.W PySem.Calls PyProof.Rows VI
theorem lp_ok : lp.ok = true := by kernel_rfl
abbrev R : OpenRow := OpenLaw.row PySem.Challenge.rw_swapsenough_k25_one_peak_or_breaker
abbrev qv : Program := view R.prog [R.prog.main.body.length - 1]
def names : List PySem.Str := (R.prog.main.scope.names.map (·.1)).filter (fun x => !(x == ("law" : PySem.Str)) && !(x == ("__name__" : PySem.Str)))
abbrev hk : Hook := hookS 6 lp.hd
def ob (s : SharedT) : AlS := obsSG 6 lp.hd (HandSHeadRun.getT s)
theorem ob_eq (s : SharedT) : ob s = hk.obs s.abs := obsSG_eq (HandSHeadRun.getT_eq s)
theorem runf (w : World) : HandSHeadRun.RunEq R qv hk ob 20000 names (w.withFollow "special-get-raises" false) := by
  intro os
  kernel_rfl
end VI25
set_option autoImplicit true
set_option Elab.async false
set_option linter.all false
set_option maxRecDepth 100000
set_option maxHeartbeats 0
namespace VI25
open PySem PySem.W PySem.Calls PyProof.Rows VI
theorem runt (w : World) : HandSHeadRun.RunEq R qv hk ob 20000 names (w.withFollow "special-get-raises" true) := by
  intro os
  kernel_rfl
end VI25
set_option autoImplicit false
set_option Elab.async false
set_option linter.all false
set_option maxRecDepth 100000
set_option maxHeartbeats 4000000
set_option autoImplicit false
namespace VI25
open PySem PySem.Spec PyProof.Rows L2 VI VI.P
theorem defV_fd (q : Fd × List Str) : (defV q).fd = q.1 := by
  unfold defV; split <;> rfl
theorem has_ix (i : Nat) {f : Fd} {N : List Str} (h : fdsAll[i]? = some (f, N)) : Has lp.pg f := by
  have m : defV (f, N) ∈ lp.ds := List.mem_map_of_mem (f := defV) (List.mem_of_getElem? h)
  have q := LawP.find lp_ok _ m
  rw [defV_fd] at q
  exact ⟨q.1, q.2⟩
theorem law_mem : defV (fdlaw, nmlaw) ∈ lp.ds := List.mem_map_of_mem (f := defV) (List.mem_of_getElem? (i := 34) rfl)
theorem lp_ext : lp.pg.ext "_law_listed" = some (false, lsC) := rfl
theorem dvl_ok : dvl.ok lp.nm = true := by kernel_rfl
theorem dvl_fd : dvl.fd = lsFd := by unfold dvl; split <;> rfl
theorem dvl_N : dvl.N = VI.lsN := by unfold dvl; split <;> rfl
theorem lawH : LawH lp.pg := {
  whole := has_ix 0 (N := nmis_whole) rfl,
  thing := has_ix 1 (N := nmis_thing) rfl,
  nthings := has_ix 2 (N := nmneed_things) rfl,
  nall := has_ix 3 (N := nmneed_all) rfl,
  peaked := has_ix 4 (N := nmis_peaked) rfl,
  breaker := has_ix 5 (N := nmline_breaker) rfl,
  isint := has_ix 18 (N := nm_law_is_int) rfl,
  isrow := has_ix 19 (N := nm_law_is_row) rfl,
  kindh := has_ix 23 (N := nm_law_kind) rfl,
  same := has_ix 24 (N := nm_law_same) rfl,
  isord := has_ix 25 (N := nm_law_is_order) rfl,
  onepk := has_ix 26 (N := nm_law_one_peak) rfl,
  brk := has_ix 27 (N := nm_law_breaker) rfl,
  due := has_ix 28 (N := nm_law_due) rfl,
  ask := has_ix 29 (N := nm_law_ask) rfl,
  holds := has_ix 30 (N := nm_law_holds) rfl,
  row := has_ix 13 (N := nm_law_row) rfl,
  off := has_ix 12 (N := nm_law_off) rfl,
  value := has_ix 15 (N := nm_law_value) rfl,
  shuffle := has_ix 10 (N := nm_law_shuffle) rfl,
  order := has_ix 20 (N := nm_law_order) rfl,
  store := has_ix 6 (N := nm_law_store) rfl,
  bent := has_ix 21 (N := nm_law_bent_order) rfl,
  peakd := has_ix 22 (N := nm_law_peaked) rfl,
  bumped := has_ix 31 (N := nm_law_bumped) rfl,
  rails := has_ix 32 (N := nm_law_rails) rfl,
  bend := has_ix 33 (N := nm_law_bend) rfl,
  law := has_ix 34 (N := nmlaw) rfl,
  take := has_ix 7 (N := nm_law_take) rfl,
  count := has_ix 8 (N := nm_law_count) rfl,
  pick := has_ix 9 (N := nm_law_pick) rfl,
  signs := has_ix 16 (N := nm_law_signs) rfl,
  far := has_ix 11 (N := nm_law_far) rfl,
  text := has_ix 17 (N := nm_law_text) rfl,
  plain := has_ix 14 (N := nm_law_plain) rfl,
  listed := lp_ext,
  whl := rfl }
theorem lp_row (n : Nat) (e : D) (h : D.plain e = true) : (lp.pg.sm (n + 1)).call "_law_is_row" [(0, e)] = .ok 9 (.bl (rowOf e).isSome) none := is_row_call (n := n) lawH.isrow h
theorem lp_law (ns : List Int) : lp.pg.callN (9 + 1) "law" [(0, .arg ns)] = .ok 9 (.bl true) none := law_call (n := 3) lawH ns
end VI25
set_option autoImplicit true
set_option Elab.async false
set_option linter.all false
set_option maxRecDepth 100000
set_option maxHeartbeats 0
namespace VI25
open PySem PySem.W PySem.Calls PyProof.Rows VI
theorem run (w : World) : HandSHeadRun.RunEq R qv hk ob 20000 names w := byRow2 "special-get-raises" (P := fun w => HandSHeadRun.RunEq R qv hk ob 20000 names w) runf runt w
def li : Nat := R.prog.main.body.length - 1
theorem walk_all {w : World} {mg : PySem.Str → Option Value} {fa : Addr} {h : Heap} (Y : ∃ K : PySem.W.Frag, K.In h ∧ SaysS lp.hd K) (G : h.Ns mainGlobals mg) (hmg : mg ("law" : PySem.Str) = some (.ref fa)) :
    ∃ (K : PySem.W.Frag) (fd : FuncData) (sp : L2.Sp), K.In h ∧ (∀ (s : Shared) (u : Value), BindsTo s fd ⟨[u], []⟩ [("script", u)]) ∧
        (∀ (H : L2.Hp) (a : Addr) (ns : List Int), ns.length ≤ 63 → L2.Only H → L2.SqL K H a (ns.map L2.V.int) → sp [.ref a] H (fun v _ => v = .bl true) fun _ _ _ => False) ∧
        ∀ base : Heap, K.In base → base.Ns mainGlobals mg → L2.FnOk (PySem.Challenge.rw_swapsenough_k25_one_peak_or_breaker).prog w K mg base CXn (9 + 3) fa fd ["script"] sp := by
  have hfl : ((PySem.Challenge.rw_swapsenough_k25_one_peak_or_breaker).prog.main.file : PySem.Str) = lp.fl := by kernel_rfl
  have htop : ((PySem.Challenge.rw_swapsenough_k25_one_peak_or_breaker).prog.main.scope.names.lookup ("super" : PySem.Str)).isSome = false := by kernel_rfl
  refine LawP.walk (q := lp) (N := 9) (n := 63) (d := defV (fdlaw, nmlaw)) lp_ok law_mem (by rw [defV_fd]; rfl) (by kernel_rfl) hfl htop lawH.law.ino ?_ ?_ ?_ Y G hmg
  · exact fun w K mg base X G c => (LawP.listed lp_ok rfl rfl dvl_fd dvl_N dvl_ok hfl htop lp_row lawH.isrow.ino w K mg base X G c).1
  · exact fun w K mg base X G c => (LawP.listed lp_ok rfl rfl dvl_fd dvl_N dvl_ok hfl htop lp_row lawH.isrow.ino w K mg base X G c).2
  · exact fun ns _ => ⟨9, lp_law ns⟩
end VI25
open PySem PySem.W PySem.Calls PyProof.Rows
theorem PySem.Challenge.cw_swapsenough_k25_one_peak_or_breaker_holds : PySem.Challenge.rw_swapsenough_k25_one_peak_or_breaker.Holds := by
  w_on; o_law
  refine HandSHeadRun.head_any (r := OpenLaw.row PySem.Challenge.rw_swapsenough_k25_one_peak_or_breaker) (q := VI25.qv) (H := VI25.hk) (ob := VI25.ob) (M := 20000) (loose := VI25.names) (d := HandSHeadRun.topDef (OpenLaw.row PySem.Challenge.rw_swapsenough_k25_one_peak_or_breaker).prog VI25.li) (kwd := []) VI25.ob_eq
    (by kernel_rfl) (fun s => by kernel_rfl) VI25.run (by kernel_rfl) (by kernel_rfl) (by kernel_rfl) (by rfl) (by first | assumption | decide +kernel) (by decide +kernel) ⟨rfl, rfl, rfl, rfl, rfl, by decide +kernel⟩ ?hw ?hc
  case hw => w_witness2
  case hc =>
    refine L2.walk_ofE (l := PySem.Challenge.rw_swapsenough_k25_one_peak_or_breaker) (n := 63) (k := 9 + 3) (x := "script") (CX := VI.CXn) rfl (by decide) (by kernel_rfl) ⟨rfl, by decide, by decide⟩ ?F (fun _ _ _ _ z => z)
    intro w mg fa h Y G hmg0
    have hmg : mg ("law" : PySem.Str) = some (.ref fa) := by
      have e : (HandSHeadRun.topDef (OpenLaw.row PySem.Challenge.rw_swapsenough_k25_one_peak_or_breaker).prog VI25.li).name = ("law" : PySem.Str) := by kernel_rfl
      rw [← e]
      exact hmg0
    exact VI25.walk_all Y G hmg
