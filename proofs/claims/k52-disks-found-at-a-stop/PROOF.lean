import PyProof.Rows.All
import Wide.All
import OpenK.AllK
import Wide.FinOn
import HandS.ForMost
import HandS.ForExc
import HandS.Defaults
import HandS.Conv
import HandS.IsInst
import HandS.TupMul
import HandS.Zip
import HandS.Style
import KE.KStateDown
import HandS.Codes
import HandS.Head0
import HandS.Head1
import HandS.Head2
import HandS.HeadEnd
import HandS.HeadHook1
import HandS.HeadHook2
import PySem.Challenge.RW_neededfirst_k52_disks_found_at_a_stop
set_option Elab.async false
set_option linter.all false
set_option maxRecDepth 100000
set_option maxHeartbeats 4000000
/-! A small language of values above the hand layer: data, owned lists and dicts, what stands for them in the heap. -/
namespace IL
open PySem PySem.Spec PyProof.Rows L2

/-- data: a value with all that it holds -/
inductive D where
  | non | bl (b : Bool) | int (i : Int) | str (s : Str)
  | tup (xs : List D) | lst (xs : List D) | dic (ks : List (Key × D))
  /-- the script: read, never written -/
  | scr (ns : List Int)
  deriving Inhabited

mutual
inductive RepD (K : PySem.W.Frag) (F : Hp) : V → D → Prop
  | non : RepD K F .non .non
  | bl (b : Bool) : RepD K F (.bl b) (.bl b)
  | int (i : Int) : RepD K F (.int i) (.int i)
  | str (s : Str) : RepD K F (.str s) (.str s)
  | tup {a : Addr} {vs : List V} {ds : List D} : SqT K F a vs → RepDs K F vs ds → RepD K F (.ref a) (.tup ds)
  | lst {a : Addr} {vs : List V} {ds : List D} : F a = some (.lst vs) → RepDs K F vs ds → RepD K F (.ref a) (.lst ds)
  | scr {a : Addr} {ns : List Int} : SqL K F a (ns.map V.int) → RepD K F (.ref a) (.scr ns)
  | dic {a : Addr} {kvs : List (Key × V)} {ks : List (Key × D)} : F a = some (.dK kvs) → RepKs K F kvs ks → RepD K F (.ref a) (.dic ks)
inductive RepDs (K : PySem.W.Frag) (F : Hp) : List V → List D → Prop
  | nil : RepDs K F [] []
  | cons {v : V} {d : D} {vs : List V} {ds : List D} : RepD K F v d → RepDs K F vs ds → RepDs K F (v :: vs) (d :: ds)
inductive RepKs (K : PySem.W.Frag) (F : Hp) : List (Key × V) → List (Key × D) → Prop
  | nil : RepKs K F [] []
  | cons {k : Key} {v : V} {d : D} {vs : List (Key × V)} {ds : List (Key × D)} : RepD K F v d → RepKs K F vs ds → RepKs K F ((k, v) :: vs) ((k, d) :: ds)
end

section
variable {K : PySem.W.Frag} {F F' H H' : Hp}
theorem Rd.mono (e : Same F F') {a : Addr} {u : HO} (h : Rd F a u) : Rd F' a u := by
  rcases h with h | ⟨o, h⟩
  · exact .inl (e _ _ h)
  · exact .inr ⟨o, e _ _ h⟩
theorem sqT_mono (e : Same F F') {a : Addr} {xs : List V} (h : SqT K F a xs) : SqT K F' a xs := by
  rcases h with h | h
  · exact .inl (Rd.mono e h)
  · exact .inr h
theorem sqL_mono (e : Same F F') {a : Addr} {xs : List V} (h : SqL K F a xs) : SqL K F' a xs := by
  rcases h with h | h
  · exact .inl (Rd.mono e h)
  · exact .inr h
mutual
theorem RepD.mono (e : Same F F') : ∀ {v : V} {d : D}, RepD K F v d → RepD K F' v d
  | _, _, .non => .non
  | _, _, .bl b => .bl b
  | _, _, .int b => .int b
  | _, _, .str b => .str b
  | _, _, .tup h r => .tup (sqT_mono e h) (RepDs.mono e r)
  | _, _, .lst h r => .lst (e _ _ h) (RepDs.mono e r)
  | _, _, .scr h => .scr (sqL_mono e h)
  | _, _, .dic h r => .dic (e _ _ h) (RepKs.mono e r)
theorem RepDs.mono (e : Same F F') : ∀ {v : List V} {d : List D}, RepDs K F v d → RepDs K F' v d
  | _, _, .nil => .nil
  | _, _, .cons h r => .cons (RepD.mono e h) (RepDs.mono e r)
theorem RepKs.mono (e : Same F F') : ∀ {v : List (Key × V)} {d : List (Key × D)}, RepKs K F v d → RepKs K F' v d
  | _, _, .nil => .nil
  | _, _, .cons h r => .cons (RepD.mono e h) (RepKs.mono e r)
end
theorem RepDs.length : ∀ {vs : List V} {ds : List D}, RepDs K F vs ds → vs.length = ds.length
  | _, _, .nil => rfl
  | _, _, .cons _ r => congrArg (· + 1) (RepDs.length r)
theorem RepDs.get : ∀ {vs : List V} {ds : List D} {i : Nat} {d : D}, RepDs K F vs ds → ds[i]? = some d → ∃ v, vs[i]? = some v ∧ RepD K F v d
  | _, _, _, _, .nil, h => by simp at h
  | _, _, 0, _, .cons h _, e => by simp at e; subst e; exact ⟨_, rfl, h⟩
  | _, _, i + 1, _, .cons _ r, e => by
    obtain ⟨v, h1, h2⟩ := RepDs.get (i := i) r (by simpa using e)
    exact ⟨v, by simpa using h1, h2⟩
theorem RepDs.get' : ∀ {vs : List V} {ds : List D} {i : Nat} {v : V}, RepDs K F vs ds → vs[i]? = some v → ∃ d, ds[i]? = some d ∧ RepD K F v d
  | _, _, _, _, .nil, h => by simp at h
  | _, _, 0, _, .cons h _, e => by simp at e; subst e; exact ⟨_, rfl, h⟩
  | _, _, i + 1, _, .cons _ r, e => by
    obtain ⟨v, h1, h2⟩ := RepDs.get' (i := i) r (by simpa using e)
    exact ⟨v, by simpa using h1, h2⟩
theorem RepDs.app : ∀ {vs ws : List V} {ds es : List D}, RepDs K F vs ds → RepDs K F ws es → RepDs K F (vs ++ ws) (ds ++ es)
  | _, _, _, _, .nil, r => r
  | _, _, _, _, .cons h t, r => .cons h (RepDs.app t r)
theorem RepDs.take : ∀ {vs : List V} {ds : List D} (n : Nat), RepDs K F vs ds → RepDs K F (vs.take n) (ds.take n)
  | _, _, 0, _ => by simpa using RepDs.nil
  | _, _, n + 1, .nil => by simpa using RepDs.nil
  | _, _, n + 1, .cons h t => by simpa using RepDs.cons h (RepDs.take n t)
theorem RepDs.drop : ∀ {vs : List V} {ds : List D} (n : Nat), RepDs K F vs ds → RepDs K F (vs.drop n) (ds.drop n)
  | _, _, 0, h => by simpa using h
  | _, _, n + 1, .nil => by simpa using RepDs.nil
  | _, _, n + 1, .cons h t => by simpa using RepDs.drop n t
theorem RepDs.set {v : V} {d : D} (h : RepD K F v d) : ∀ {vs : List V} {ds : List D} (n : Nat), RepDs K F vs ds → RepDs K F (vs.set n v) (ds.set n d)
  | _, _, _, .nil => by simpa using RepDs.nil
  | _, _, 0, .cons _ t => by simpa using RepDs.cons h t
  | _, _, n + 1, .cons g t => by simpa using RepDs.cons g (RepDs.set h n t)
theorem RepDs.ints : ∀ (ns : List Int), RepDs K F (ns.map V.int) (ns.map D.int)
  | [] => .nil
  | n :: r => .cons (.int n) (RepDs.ints r)
end

/-- what a name holds: data, or a list or dict that is the name's alone -/
inductive M where
  | val (d : D) | lst (ds : List D) | dic (ks : List (Key × D))
  deriving Inhabited
def M.d : M → D
  | .val d => d
  | .lst ds => .lst ds
  | .dic ks => .dic ks
@[simp] theorem M.d_val (d : D) : (M.val d).d = d := rfl
@[simp] theorem M.d_lst (d : List D) : (M.lst d).d = .lst d := rfl
@[simp] theorem M.d_dic (d : List (Key × D)) : (M.dic d).d = .dic d := rfl

inductive RepM (K : PySem.W.Frag) (F H : Hp) : V → M → List Addr → Prop
  | val {v : V} {d : D} : RepD K F v d → RepM K F H v (.val d) []
  | lst {a : Addr} {vs : List V} {ds : List D} : H a = some (.lst vs) → RepDs K F vs ds → RepM K F H (.ref a) (.lst ds) [a]
  | dic {a : Addr} {kvs : List (Key × V)} {ks : List (Key × D)} : H a = some (.dK kvs) → RepKs K F kvs ks → RepM K F H (.ref a) (.dic ks) [a]

abbrev Env := List (Option M)
inductive SlotOk (K : PySem.W.Frag) (F H : Hp) : Option V → Option M → List Addr → Prop
  | emp {v : Option V} : SlotOk K F H v none []
  | has {v : V} {m : M} {O : List Addr} : RepM K F H v m O → SlotOk K F H (some v) (some m) O
inductive Slots (K : PySem.W.Frag) (F H : Hp) : L2.St → Env → List (List Addr) → Prop
  | nil : Slots K F H [] [] []
  | cons {v : Option V} {m : Option M} {O : List Addr} {σ : L2.St} {env : Env} {Os : List (List Addr)} : SlotOk K F H v m O → Slots K F H σ env Os → Slots K F H (v :: σ) (m :: env) (O :: Os)

/-- from one state to a later one: what is frozen, the heap, what is owned -/
structure Tr (F H : Hp) (O : List Addr) (F' H' : Hp) (O' : List Addr) : Prop where
  ff : Same F F'
  fr : ∀ a o, H a = some o → a ∉ O → H' a = some o
  nw : ∀ a ∈ O', a ∈ O ∨ H a = none
  fn : ∀ a, F' a ≠ none → F a ≠ none ∨ a ∈ O ∨ H a = none
  dm : ∀ a, H' a = none → H a = none
theorem Tr.refl (F H : Hp) (O : List Addr) : Tr F H O F H O := ⟨Same.refl F, fun _ _ h _ => h, fun _ h => .inl h, fun _ h => .inl h, fun _ h => h⟩
theorem Tr.trans {F H F1 H1 F2 H2 : Hp} {O O1 O2 : List Addr} (a : Tr F H O F1 H1 O1) (b : Tr F1 H1 O1 F2 H2 O2) : Tr F H O F2 H2 O2 where
  ff := a.ff.trans b.ff
  fr := fun x o h hx => b.fr x o (a.fr x o h hx) fun hx1 => (a.nw x hx1).elim hx fun q => by rw [h] at q; cases q
  nw := fun x hx => (b.nw x hx).elim (a.nw x) fun q => .inr (a.dm x q)
  fn := fun x hx => (b.fn x hx).elim (a.fn x) fun q => q.elim (fun z => .inr (a.nw x z)) fun z => .inr (.inr (a.dm x z))
  dm := fun x h => a.dm x (b.dm x h)

structure Ok (K : PySem.W.Frag) (F H : Hp) (σ : L2.St) (env : Env) (Os : List (List Addr)) : Prop where
  le : Same F H
  nd : Os.flatten.Nodup
  dj : ∀ a ∈ Os.flatten, F a = none
  sl : Slots K F H σ env Os
section
variable {K : PySem.W.Frag} {F F' H H' : Hp} {σ : L2.St} {env : Env} {Os : List (List Addr)}
theorem Slots.len : ∀ {σ : L2.St} {env : Env} {Os : List (List Addr)}, Slots K F H σ env Os → σ.length = env.length ∧ Os.length = env.length
  | _, _, _, .nil => ⟨rfl, rfl⟩
  | _, _, _, .cons _ t => ⟨congrArg (· + 1) (Slots.len t).1, congrArg (· + 1) (Slots.len t).2⟩
theorem Slots.get : ∀ {σ : L2.St} {env : Env} {Os : List (List Addr)} {i : Nat} {m : M}, Slots K F H σ env Os → env[i]? = some (some m) → ∃ v O, σ[i]? = some (some v) ∧ Os[i]? = some O ∧ RepM K F H v m O
  | _, _, _, _, _, .nil, h => by simp at h
  | _, _, _, 0, _, .cons s _, e => by
    simp at e; subst e
    cases s with
    | has r => exact ⟨_, _, rfl, rfl, r⟩
  | _, _, _, i + 1, _, .cons _ t, e => by
    obtain ⟨v, O, h1, h2, h3⟩ := Slots.get (i := i) t (by simpa using e)
    exact ⟨v, O, by simpa using h1, by simpa using h2, h3⟩
theorem RepM.mono {v : V} {m : M} {O : List Addr} (e : Same F F') (k : ∀ a ∈ O, ∀ o, H a = some o → H' a = some o) (h : RepM K F H v m O) : RepM K F' H' v m O := by
  cases h with
  | val r => exact .val (r.mono e)
  | lst h r => exact .lst (k _ (by simp) _ h) (r.mono e)
  | dic h r => exact .dic (k _ (by simp) _ h) (r.mono e)
theorem SlotOk.mono {v : Option V} {m : Option M} {O : List Addr} (e : Same F F') (k : ∀ a ∈ O, ∀ o, H a = some o → H' a = some o) (h : SlotOk K F H v m O) : SlotOk K F' H' v m O := by
  cases h with
  | emp => exact .emp
  | has r => exact .has (r.mono e k)
theorem Slots.mono (e : Same F F') : ∀ {σ : L2.St} {env : Env} {Os : List (List Addr)}, (∀ a ∈ Os.flatten, ∀ o, H a = some o → H' a = some o) → Slots K F H σ env Os → Slots K F' H' σ env Os
  | _, _, _, _, .nil => .nil
  | _, _, _, k, .cons s t => .cons (s.mono e fun a ha => k a (by simp [ha])) (Slots.mono e (fun a ha => k a (by
      rw [List.flatten_cons]; exact List.mem_append_right _ ha)) t)
theorem RepM.dom {v : V} {m : M} {O : List Addr} (h : RepM K F H v m O) : ∀ a ∈ O, H a ≠ none := by
  cases h with
  | val _ => intro a ha; cases ha
  | lst h _ => intro a ha; rw [List.mem_singleton.mp ha, h]; exact fun z => nomatch z
  | dic h _ => intro a ha; rw [List.mem_singleton.mp ha, h]; exact fun z => nomatch z
theorem Slots.dom : ∀ {σ : L2.St} {env : Env} {Os : List (List Addr)}, Slots K F H σ env Os → ∀ a ∈ Os.flatten, H a ≠ none
  | _, _, _, .nil => fun a ha => by simp at ha
  | _, _, _, .cons s t => fun a ha => by
    rw [List.flatten_cons] at ha
    rcases List.mem_append.mp ha with ha | ha
    · cases s with
      | emp => cases ha
      | has r => exact r.dom a ha
    · exact Slots.dom t a ha
/-- freezing: the objects at O become data -/
def fz (F H : Hp) (O : List Addr) : Hp := fun a => if a ∈ O then H a else F a
theorem fz_same {O : List Addr} (dj : ∀ a ∈ O, F a = none) : Same F (fz F H O) := fun b o h => by
  unfold fz
  by_cases hb : b ∈ O
  · rw [dj b hb] at h; cases h
  · rw [if_neg hb]; exact h
theorem fz_le {O : List Addr} (le : Same F H) : Same (fz F H O) H := fun b o h => by
  unfold fz at h
  by_cases hb : b ∈ O
  · rw [if_pos hb] at h; exact h
  · rw [if_neg hb] at h; exact le _ _ h
theorem fz_nil : fz F H [] = F := by
  funext a; unfold fz; rw [if_neg (by simp)]
theorem RepM.freeze {v : V} {m : M} {O : List Addr} (dj : ∀ a ∈ O, F a = none) (h : RepM K F H v m O) : RepD K (fz F H O) v m.d := by
  have s := fz_same (H := H) dj
  cases h with
  | val r => exact r.mono s
  | lst h r => exact .lst (by unfold fz; rw [if_pos (by simp)]; exact h) (r.mono s)
  | dic h r => exact .dic (by unfold fz; rw [if_pos (by simp)]; exact h) (r.mono s)
theorem Ok.freeze {O : List Addr} (ok : Ok K F H σ env Os) (dj : ∀ a ∈ O, F a = none) (ap : ∀ a ∈ O, a ∉ Os.flatten) : Ok K (fz F H O) H σ env Os :=
  ⟨fz_le ok.le, ok.nd, fun a ha => by
    unfold fz
    rw [if_neg fun z => ap a z ha]
    exact ok.dj a ha, ok.sl.mono (fz_same dj) fun _ _ _ h => h⟩
end
end IL
set_option Elab.async false
set_option linter.all false
set_option maxRecDepth 100000
set_option maxHeartbeats 4000000
/-! the small language: its texts and what they come to -/
namespace IL
open PySem PySem.Spec PyProof.Rows L2

inductive BOp where
  | add | sub | mul | fdiv | mod | pow
  deriving DecidableEq
inductive COp where
  | eq | ne | lt | le | gt | ge | isin | notin
  deriving DecidableEq
inductive Blt where
  | abs | int | len | tuple | list | max1 | min2 | max2 | all | any | str
  deriving DecidableEq
inductive Mth where
  | get1 | get2 | index | count | split | join | partition
  deriving DecidableEq
/-- the classes of the built-in kinds that isinstance asks for -/
inductive Ty where
  | int | bool | str | list | tuple
  deriving DecidableEq

mutual
inductive E where
  | c (d : D)
  | nm (i : Nat)
  | mv (i : Nat)
  | gl (j : Nat)
  | bin (op : BOp) (a b : O)
  | neg (a : O)
  | cmp (op : COp) (a b : O)
  | isN (a : O)
  | notN (a : O)
  | bop (and : Bool) (es : Es)
  | not (a : E)
  | ite (t a b : E)
  | tup (es : Es)
  | lst (es : Es)
  | idx (a i : O)
  | slc (a : O) (lo hi : Oo)
  | call (f : Nat) (as : As)
  | blt (b : Blt) (os : Os)
  | isi (a : O) (ts : List Ty) (tup : Bool)
  | lrng (two : Bool) (a b : O)
  | lc (own : List (Str × Nat)) (tg : Tg) (it : It) (cond : Eo) (elt : E)
inductive O where
  | e (x : E)
  | s (i : Nat)
inductive Es where
  | nil
  | cons (e : E) (r : Es)
inductive Os where
  | nil
  | cons (e : O) (r : Os)
inductive As where
  | nil
  | v (e : E) (r : As)
  | io (i : Nat) (r : As)
  | t (e : E)
inductive Eo where
  | none
  | some (e : E)
inductive Oo where
  | none
  | some (e : O)
inductive Tg where
  | nm (i : Nat)
  | tup (ts : Tgs)
inductive Tgs where
  | nil
  | cons (t : Tg) (r : Tgs)
inductive It where
  | lst (o : O)
  | tup (o : O)
  | rng1 (a : O)
  | rng2 (a b : O)
  | enum (o : O)
  | zip (a b : O)
end
mutual
inductive S where
  | set (i : Nat) (own : Bool) (e : E)
  | setLc (i : Nat) (own : Bool) (e : E)
  | unp (ts : Tgs) (e : E)
  | par2 (i j : Nat) (oi oj : Bool) (a b : E)
  | par3 (i j k : Nat) (oi oj ok : Bool) (a b c : E)
  | sub (i : Nat) (ix e : E)
  | aug (i : Nat) (op : BOp) (e : E)
  | app (i : Nat) (e : E)
  | ext (i : Nat) (e : E)
  | ex (e : E)
  | ret (e : E)
  | iff (t : E) (a b : Ss)
  | whl (t : E) (b : Ss)
  | for_ (tg : Tg) (it : It) (b : Ss)
  | pass
  | cont
  | brk
inductive Ss where
  | nil
  | cons (s : S) (r : Ss)
end

/-! ### operations by values -/
def seqOf : D → Option (List D)
  | .lst ds => some ds
  | .tup ds => some ds
  | _ => none
/-! as the library's data -/
mutual
def toP : D → Option PyData
  | .non => some .none
  | .bl b => some (.bool b)
  | .int i => some (.int i)
  | .str s => some (.str s)
  | .tup ds => (toPs ds).map .tuple
  | .lst ds => (toPs ds).map .list
  | .dic _ => none
  | .scr _ => none
def toPs : List D → Option (List PyData)
  | [] => some []
  | d :: r => match toP d, toPs r with
    | some p, some q => some (p :: q)
    | _, _ => none
end
def eqD (a b : D) : Option Bool := match toP a, toP b with
  | some p, some q => if SeqAt.shaped p = true ∧ SeqAt.shaped q = true then some (PyData.eqv p q) else none
  | _, _ => none
/-- flat data as the layer's value -/
def flatOf : D → Option V
  | .non => some .non
  | .bl b => some (.bl b)
  | .int i => some (.int i)
  | .str s => some (.str s)
  | _ => none
def flatsOf : List D → Option (List V)
  | [] => some []
  | d :: r => match flatOf d, flatsOf r with
    | some p, some q => some (p :: q)
    | _, _ => none
def inD (x y : D) : Option Bool := match flatOf x, seqOf y with
  | some v, some ds => match flatsOf ds with
    | some vs => some (inV v vs)
    | none => none
  | _, _ => none
def binF : BOp → D → D → Option M
  | .add, .int a, .int b => some (.val (.int (a + b)))
  | .add, .str a, .str b => if a.length + b.length ≤ sizeLine then some (.val (.str (a ++ b))) else none
  | .add, .lst a, .lst b => if a.length + b.length ≤ sizeLine then some (.lst (a ++ b)) else none
  | .add, .tup a, .tup b => if a ≠ [] ∧ a.length + b.length ≤ sizeLine then some (.val (.tup (a ++ b))) else none
  | .sub, .int a, .int b => some (.val (.int (a - b)))
  | .mul, .int a, .int b => if (-(2 ^ 64) < a ∧ a < 2 ^ 64) ∨ (-(2 ^ 64) < b ∧ b < 2 ^ 64) then some (.val (.int (a * b))) else none
  | .mul, .lst a, .int k => if -(2 ^ 63) ≤ k ∧ k < 2 ^ 63 ∧ a.length * k.toNat ≤ sizeLine then some (.lst (List.replicate k.toNat a).flatten) else none
  | .mul, .tup a, .int k => if a ≠ [] ∧ 2 ≤ k ∧ k ≤ 1000 ∧ a.length ≤ 1000 then some (.val (.tup (List.replicate k.toNat a).flatten)) else none
  | .fdiv, .int a, .int b => if 0 < b ∧ b < 1073741824 then some (.val (.int (a / b))) else none
  | .mod, .int a, .int b => if 0 < b then some (.val (.int (a % b))) else none
  | .pow, .int a, .int b => if 0 ≤ b ∧ b ≤ 1000000 ∧ a.natAbs < 2 ^ 64 then some (.val (.int (a ^ b.toNat))) else none
  | _, _, _ => none
def cmpF : COp → D → D → Option Bool
  | .eq, a, b => eqD a b
  | .ne, a, b => (eqD a b).map (!·)
  | .lt, .int a, .int b => some (decide (a < b))
  | .le, .int a, .int b => some (decide (a ≤ b))
  | .gt, .int a, .int b => some (decide (a > b))
  | .ge, .int a, .int b => some (decide (a ≥ b))
  | .isin, a, b => inD a b
  | .notin, a, b => (inD a b).map (!·)
  | _, _, _ => none
def idxF : D → D → Option D
  | .lst ds, .int i => (ixN ds.length i).bind fun j => ds[j]?
  | .tup ds, .int i => (ixN ds.length i).bind fun j => ds[j]?
  | .scr ns, .int i => (ixN ns.length i).bind fun j => ns[j]?.map D.int
  | _, _ => none
def optI : Option D → Option (Option Int)
  | none => some none
  | some (.int i) => some (some i)
  | _ => none
def cutD {α : Type} (xs : List α) (lo hi : Option Int) : List α := (xs.drop (HT.sIx xs.length 0 lo)).take (HT.sIx xs.length xs.length hi - HT.sIx xs.length 0 lo)
def slcF : D → Option D → Option D → Option M
  | .lst ds, lo, hi => match optI lo, optI hi with
    | some l, some h => some (.lst (cutD ds l h))
    | _, _ => none
  | .tup ds, lo, hi => match optI lo, optI hi with
    | some l, some h => if HT.sIx ds.length 0 l = 0 ∧ HT.sIx ds.length ds.length h = ds.length then none else some (.val (.tup (cutD ds l h)))
    | _, _ => none
  | .scr ns, lo, hi => match optI lo, optI hi with
    | some l, some h => some (.lst ((cutD ns l h).map D.int))
    | _, _ => none
  | _, _, _ => none
def isTyD : D → Ty → Bool
  | .int _, .int => true
  | .bl _, .int => true
  | .bl _, .bool => true
  | .str _, .str => true
  | .lst _, .list => true
  | .tup _, .tuple => true
  | _, _ => false
def intsOf : List D → Option (List Int)
  | [] => some []
  | .int i :: r => (intsOf r).map (i :: ·)
  | _ :: _ => none
def blsOf : List D → Option (List Bool)
  | [] => some []
  | .bl i :: r => (blsOf r).map (i :: ·)
  | _ :: _ => none
def maxI : List Int → Int
  | [] => 0
  | [x] => x
  | x :: y :: r => if x ≤ maxI (y :: r) then maxI (y :: r) else x
def bltF : Blt → List D → Option M
  | .abs, [.int i] => some (.val (.int (if i < 0 then -i else i)))
  | .int, [.int i] => some (.val (.int i))
  | .int, [.bl k] => some (.val (.int (if k then 1 else 0)))
  | .len, [.lst ds] => some (.val (.int ds.length))
  | .len, [.tup ds] => some (.val (.int ds.length))
  | .len, [.scr ds] => some (.val (.int ds.length))
  | .tuple, [.lst ds] => some (.val (.tup ds))
  | .tuple, [.tup ds] => some (.val (.tup ds))
  | .list, [.lst ds] => some (.lst ds)
  | .list, [.tup ds] => some (.lst ds)
  | .max1, [.lst ds] => match intsOf ds with
    | some (i :: r) => some (.val (.int (maxI (i :: r))))
    | _ => none
  | .min2, [.int i, .int j] => some (.val (.int (if j < i then j else i)))
  | .max2, [.int i, .int j] => some (.val (.int (if j > i then j else i)))
  | .all, [.lst ds] => (blsOf ds).map fun bs => .val (.bl (bs.all id))
  | .any, [.lst ds] => (blsOf ds).map fun bs => .val (.bl (bs.any id))
  | _, _ => none
def rngD (a b : Int) : List D := (List.range (b - a).toNat).map fun i : Nat => D.int (a + (i : Int))

/-! ### operands, targets -/
inductive OV where
  | d (x : D)
  | s (i : Nat)
def ovD (env : Env) : OV → Option D
  | .d x => some x
  | .s i => match env[i]? with
    | some (some m) => some m.d
    | _ => none
def ovDs (env : Env) : List OV → Option (List D)
  | [] => some []
  | o :: r => match ovD env o, ovDs env r with
    | some d, some ds => some (d :: ds)
    | _, _ => none
inductive AV where
  | d (x : D)
  | io (i : Nat)
  | t (m : M)
def M.owned : M → Bool
  | .val _ => false
  | _ => true
/-- the arguments at the call, and what is left of the names -/
def takeA : List AV → Env → Option (List M × Env)
  | [], env => some ([], env)
  | .d x :: r, env => match takeA r env with
    | some (ms, e) => some (.val x :: ms, e)
    | none => none
  | .t m :: r, env => if m.owned = true then match takeA r env with
    | some (ms, e) => some (m :: ms, e)
    | none => none else none
  | .io i :: r, env => match env[i]? with
    | some (some m) => if m.owned = true then match takeA r (env.set i none) with
      | some (ms, e) => some (m :: ms, e)
      | none => none else none
    | _ => none
/-- what the callee leaves of them -/
def giveA : List AV → List M → Env → Option Env
  | [], [], env => some env
  | .d _ :: r, fs, env => giveA r fs env
  | .t _ :: r, _ :: fs, env => giveA r fs env
  | .io i :: r, f :: fs, env => if f.owned = true then giveA r fs (env.set i (some f)) else none
  | _, _, _ => none
mutual
def asg : Tg → D → Env → Option Env
  | .nm i, d, env => if i < env.length then some (env.set i (some (.val d))) else none
  | .tup ts, .tup ds, env => asgs ts ds env
  | .tup _, _, _ => none
def asgs : Tgs → List D → Env → Option Env
  | .nil, [], env => some env
  | .cons t r, d :: ds, env => match asg t d env with
    | some env' => asgs r ds env'
    | none => none
  | _, _, _ => none
end
mutual
/-- the slots that a target stores -/
def tgSl : Tg → List Nat
  | .nm i => [i]
  | .tup ts => tgsSl ts
def tgsSl : Tgs → List Nat
  | .nil => []
  | .cons t r => tgSl t ++ tgsSl r
end
def wipeE : Env → List Nat → Env
  | env, [] => env
  | env, v :: vs => (wipeE env vs).set v none
/-- behind a comprehension its own names are as they were -/
def backE (env0 env : Env) : List Nat → Env
  | [] => env
  | v :: vs => (backE env0 env vs).set v (match env0[v]? with
    | some (some (.val d)) => some (.val d)
    | _ => none)

/-! ### what an expression comes to -/
section
variable (gv : Nat → D) (cal : Nat → List M → Option (M × List M))
/-- the turns of a comprehension -/
def lcLoop (tg : Tg) (test elt : Env → Option (D × Env)) (own : List Nat) : List D → Env → Option (List D × Env)
  | [], env => some ([], env)
  | x :: r, env => match asg tg x (wipeE env own) with
    | none => none
    | some e1 => match test e1 with
      | some (.bl true, e2) => match elt e2 with
        | some (d, e3) => match lcLoop tg test elt own r e3 with
          | some (ds, e4) => some (d :: ds, e4)
          | none => none
        | none => none
      | some (.bl false, e2) => lcLoop tg test elt own r e2
      | _ => none
def fzR : Option (M × Env) → Option (D × Env)
  | some (m, e) => some (m.d, e)
  | none => none
mutual
def evE : E → Env → Option (M × Env)
  | .c d, env => some (.val d, env)
  | .nm i, env => match env[i]? with
    | some (some m) => some (.val m.d, env.set i (some (.val m.d)))
    | _ => none
  | .mv i, env => match env[i]? with
    | some (some m) => some (m, env.set i none)
    | _ => none
  | .gl j, env => some (.val (gv j), env)
  | .bin op a b, env => match evO a env with
    | some (x, e1) => match evO b e1 with
      | some (y, e2) => match ovD e2 x, ovD e2 y with
        | some p, some q => match binF op p q with
          | some m => some (m, e2)
          | none => none
        | _, _ => none
      | none => none
    | none => none
  | .neg a, env => match evO a env with
    | some (x, e1) => match ovD e1 x with
      | some (.int i) => some (.val (.int (-i)), e1)
      | _ => none
    | none => none
  | .cmp op a b, env => match evO a env with
    | some (x, e1) => match evO b e1 with
      | some (y, e2) => match ovD e2 x, ovD e2 y with
        | some p, some q => match cmpF op p q with
          | some k => some (.val (.bl k), e2)
          | none => none
        | _, _ => none
      | none => none
    | none => none
  | .isN a, env => match evO a env with
    | some (x, e1) => match ovD e1 x with
      | some .non => some (.val (.bl true), e1)
      | some _ => some (.val (.bl false), e1)
      | none => none
    | none => none
  | .notN a, env => match evO a env with
    | some (x, e1) => match ovD e1 x with
      | some .non => some (.val (.bl false), e1)
      | some _ => some (.val (.bl true), e1)
      | none => none
    | none => none
  | .bop k es, env => evB k es env
  | .not a, env => match fzR (evE a env) with
    | some (.bl b, e1) => some (.val (.bl (!b)), e1)
    | _ => none
  | .ite t a b, env => match fzR (evE t env) with
    | some (.bl true, e1) => match fzR (evE a e1) with
      | some (d, e2) => some (.val d, e2)
      | none => none
    | some (.bl false, e1) => match fzR (evE b e1) with
      | some (d, e2) => some (.val d, e2)
      | none => none
    | _ => none
  | .tup es, env => match evEs es env with
    | some (ds, e1) => if ds.length ≤ sizeLine then some (.val (.tup ds), e1) else none
    | none => none
  | .lst es, env => match evEs es env with
    | some (ds, e1) => if ds.length ≤ sizeLine then some (.lst ds, e1) else none
    | none => none
  | .idx a b, env => match evO a env with
    | some (x, e1) => match evO b e1 with
      | some (y, e2) => match ovD e2 x, ovD e2 y with
        | some p, some q => match idxF p q with
          | some d => some (.val d, e2)
          | none => none
        | _, _ => none
      | none => none
    | none => none
  | .slc a lo hi, env => match evO a env with
    | some (x, e1) => match evOo lo e1 with
      | some (l, e2) => match evOo hi e2 with
        | some (h, e3) => match ovD e3 x with
          | some p => match slcF p l h with
            | some m => some (m, e3)
            | none => none
          | none => none
        | none => none
      | none => none
    | none => none
  | .call f as, env => match evAs as env with
    | some (avs, e1) => match takeA avs e1 with
      | some (ms, e2) => match cal f ms with
        | some (r, fs) => match giveA avs fs e2 with
          | some e3 => some (r, e3)
          | none => none
        | none => none
      | none => none
    | none => none
  | .blt b os, env => match evOs os env with
    | some (xs, e1) => match ovDs e1 xs with
      | some ds => match bltF b ds with
        | some m => some (m, e1)
        | none => none
      | none => none
    | none => none
  | .isi a ts _, env => match evO a env with
    | some (x, e1) => match ovD e1 x with
      | some d => match d with
        | .scr _ => none
        | d => some (.val (.bl (ts.any (isTyD d))), e1)
      | none => none
    | none => none
  | .lrng two a b, env => match evO a env with
    | some (x, e1) => if two = true then match evO b e1 with
        | some (y, e2) => match ovD e2 x, ovD e2 y with
          | some (.int i), some (.int j) => if -(2 ^ 62) ≤ i ∧ i < 2 ^ 62 ∧ -(2 ^ 62) ≤ j ∧ j < 2 ^ 62 ∧ j - i ≤ 1000000 then some (.lst (rngD i j), e2) else none
          | _, _ => none
        | none => none
      else match ovD e1 x with
        | some (.int j) => if -(2 ^ 62) ≤ j ∧ j ≤ 1000000 then some (.lst (rngD 0 j), e1) else none
        | _ => none
    | none => none
  | .lc own tg it cond elt, env => match evIt it env with
    | some (ds, e1) => match lcLoop tg (evC cond) (fun e => fzR (evE elt e)) (own.map (·.2)) ds e1 with
      | some (rs, e2) => if ds.length ≤ 1000000 then some (.lst rs, backE e1 e2 (own.map (·.2))) else none
      | none => none
    | none => none
def evC : Eo → Env → Option (D × Env)
  | .none, env => some (.bl true, env)
  | .some e, env => fzR (evE e env)
def evB : Bool → Es → Env → Option (M × Env)
  | _, .nil, _ => none
  | _, .cons e .nil, env => match fzR (evE e env) with
    | some (d, e1) => some (.val d, e1)
    | none => none
  | k, .cons e r, env => match fzR (evE e env) with
    | some (.bl b, e1) => if b = k then evB k r e1 else some (.val (.bl b), e1)
    | _ => none
def evEs : Es → Env → Option (List D × Env)
  | .nil, env => some ([], env)
  | .cons e r, env => match fzR (evE e env) with
    | some (d, e1) => match evEs r e1 with
      | some (ds, e2) => some (d :: ds, e2)
      | none => none
    | none => none
def evO : O → Env → Option (OV × Env)
  | .e x, env => match fzR (evE x env) with
    | some (d, e1) => some (.d d, e1)
    | none => none
  | .s i, env => match env[i]? with
    | some (some _) => some (.s i, env)
    | _ => none
def evOs : Os → Env → Option (List OV × Env)
  | .nil, env => some ([], env)
  | .cons o r, env => match evO o env with
    | some (x, e1) => match evOs r e1 with
      | some (xs, e2) => some (x :: xs, e2)
      | none => none
    | none => none
def evOo : Oo → Env → Option (Option D × Env)
  | .none, env => some (none, env)
  | .some o, env => match evO o env with
    | some (.d d, e1) => some (some d, e1)
    | _ => none
def evAs : As → Env → Option (List AV × Env)
  | .nil, env => some ([], env)
  | .v e r, env => match fzR (evE e env) with
    | some (d, e1) => match evAs r e1 with
      | some (xs, e2) => some (.d d :: xs, e2)
      | none => none
    | none => none
  | .io i r, env => match env[i]? with
    | some (some _) => match evAs r env with
      | some (xs, e2) => some (.io i :: xs, e2)
      | none => none
    | _ => none
  | .t e, env => match evE e env with
    | some (m, e1) => some ([.t m], e1)
    | none => none
def evIt : It → Env → Option (List D × Env)
  | .lst o, env => match evO o env with
    | some (.d (.lst ds), e1) => some (ds, e1)
    | some (.d (.tup ds), e1) => some (ds, e1)
    | _ => none
  | .tup o, env => match evO o env with
    | some (.d (.tup ds), e1) => some (ds, e1)
    | _ => none
  | .rng1 a, env => match evO a env with
    | some (x, e1) => match ovD e1 x with
      | some (.int j) => if -(2 ^ 62) ≤ j ∧ j < 2 ^ 62 then some (rngD 0 j, e1) else none
      | _ => none
    | none => none
  | .rng2 a b, env => match evO a env with
    | some (x, e1) => match evO b e1 with
      | some (y, e2) => match ovD e2 x, ovD e2 y with
        | some (.int i), some (.int j) => if -(2 ^ 62) ≤ i ∧ i < 2 ^ 62 ∧ -(2 ^ 62) ≤ j ∧ j < 2 ^ 62 then some (rngD i j, e2) else none
        | _, _ => none
      | none => none
    | none => none
  | .enum o, env => match evO o env with
    | some (.d (.lst ds), e1) => some (ds.mapIdx fun i d => .tup [.int i, d], e1)
    | _ => none
  | .zip a b, env => match evO a env with
    | some (.d x, e1) => match evO b e1 with
      | some (.d y, e2) => match x, y with
        | .lst ds, .lst es => some ((ds.zip es).map fun p => .tup [p.1, p.2], e2)
        | .tup ds, .tup es => some ((ds.zip es).map fun p => .tup [p.1, p.2], e2)
        | _, _ => none
      | _ => none
    | _ => none
end

/-! ### statements -/
inductive Fl where
  | nx (e : Env)
  | rt (m : M) (e : Env)
  | bk (e : Env)
  | ct (e : Env)
def stow (pin : List Nat) (i : Nat) (own : Bool) (m : M) (env : Env) : Option Env :=
  if i ∈ pin ∨ ¬ i < env.length then none else some (env.set i (some (if own = true then m else .val m.d)))
def tgOk (pin : List Nat) (t : Tg) : Bool := (tgSl t).all fun i => !pin.contains i
def tgsOk (pin : List Nat) (t : Tgs) : Bool := (tgsSl t).all fun i => !pin.contains i
/-- the turns of a for -/
def forLoop (pin : List Nat) (tg : Tg) (body : Env → Option Fl) : List D → Env → Option Fl
  | [], env => some (.nx env)
  | x :: r, env => match asg tg x env with
    | none => none
    | some e1 => match body e1 with
      | some (.nx e2) => forLoop pin tg body r e2
      | some (.ct e2) => forLoop pin tg body r e2
      | some (.bk e2) => some (.nx e2)
      | some (.rt m e2) => some (.rt m e2)
      | none => none
def whlLoop (test : Env → Option (D × Env)) (body : Env → Option Fl) : Nat → Env → Option Fl
  | 0, _ => none
  | n + 1, env => match test env with
    | some (.bl true, e1) => match body e1 with
      | some (.nx e2) => whlLoop test body n e2
      | some (.ct e2) => whlLoop test body n e2
      | some (.bk e2) => some (.nx e2)
      | some (.rt m e2) => some (.rt m e2)
      | none => none
    | some (.bl false, e1) => some (.nx e1)
    | _ => none
variable (fuel : Nat) (pin : List Nat)
mutual
def evS : S → Env → Option Fl
  | .set i own e, env => match evE gv cal e env with
    | some (m, e1) => (stow pin i own m e1).map .nx
    | none => none
  | .setLc i own e, env => match evE gv cal e env with
    | some (m, e1) => (stow pin i own m e1).map .nx
    | none => none
  | .unp ts e, env => if tgsOk pin ts = true then match fzR (evE gv cal e env) with
    | some (.tup ds, e1) => (asgs ts ds e1).map .nx
    | _ => none else none
  | .par2 i j oi oj a b, env => match evE gv cal a env with
    | some (x, e1) => match evE gv cal b e1 with
      | some (y, e2) => match stow pin i oi x e2 with
        | some e3 => (stow pin j oj y e3).map .nx
        | none => none
      | none => none
    | none => none
  | .par3 i j k oi oj ok a b c, env => match evE gv cal a env with
    | some (x, e1) => match evE gv cal b e1 with
      | some (y, e2) => match evE gv cal c e2 with
        | some (z, e3) => match stow pin i oi x e3 with
          | some e4 => match stow pin j oj y e4 with
            | some e5 => (stow pin k ok z e5).map .nx
            | none => none
          | none => none
        | none => none
      | none => none
    | none => none
  | .sub i ix e, env => match fzR (evE gv cal e env) with
    | some (d, e1) => match e1[i]? with
      | some (some (.lst _)) => match fzR (evE gv cal ix e1) with
        | some (.int k, e2) => match e2[i]? with
          | some (some (.lst ds)) => match ixN ds.length k with
            | some j => some (.nx (e2.set i (some (.lst (ds.set j d)))))
            | none => none
          | _ => none
        | _ => none
      | _ => none
    | none => none
  | .aug i op e, env => if i ∈ pin then none else match env[i]? with
    | some (some (.val x)) => match fzR (evE gv cal e env) with
      | some (.int b, e1) => match x with
        | .int a => match op with
            | .add => some (.nx (e1.set i (some (.val (.int (a + b))))))
            | .sub => some (.nx (e1.set i (some (.val (.int (a - b))))))
            | _ => none
        | _ => none
      | _ => none
    | _ => none
  | .app i e, env => match env[i]? with
    | some (some (.lst _)) => match fzR (evE gv cal e env) with
      | some (d, e1) => match e1[i]? with
        | some (some (.lst ds)) => if ds.length < sizeLine then some (.nx (e1.set i (some (.lst (ds ++ [d]))))) else none
        | _ => none
      | none => none
    | _ => none
  | .ext i e, env => match env[i]? with
    | some (some (.lst _)) => match fzR (evE gv cal e env) with
      | some (.lst es, e1) => match e1[i]? with
        | some (some (.lst ds)) => if ds.length + es.length ≤ sizeLine then some (.nx (e1.set i (some (.lst (ds ++ es))))) else none
        | _ => none
      | _ => none
    | _ => none
  | .ex e, env => match evE gv cal e env with
    | some (_, e1) => some (.nx e1)
    | none => none
  | .ret e, env => match evE gv cal e env with
    | some (m, e1) => some (.rt m e1)
    | none => none
  | .iff t a b, env => match fzR (evE gv cal t env) with
    | some (.bl true, e1) => evSs a e1
    | some (.bl false, e1) => evSs b e1
    | _ => none
  | .whl t b, env => whlLoop (fun e => fzR (evE gv cal t e)) (evSs b) fuel env
  | .for_ tg it b, env => if tgOk pin tg = true then match evIt gv cal it env with
    | some (ds, e1) => forLoop pin tg (evSs b) ds e1
    | none => none else none
  | .pass, env => some (.nx env)
  | .cont, env => some (.ct env)
  | .brk, env => some (.bk env)
def evSs : Ss → Env → Option Fl
  | .nil, env => some (.nx env)
  | .cons s r, env => match evS s env with
    | some (.nx e1) => evSs r e1
    | x => x
end
end

/-! ### defs -/
structure FnD where
  name : Str
  ps : List Str
  N : List Str
  io : List Bool
  body : Ss
def pins : List Bool → Nat → List Nat
  | [], _ => []
  | true :: r, n => n :: pins r (n + 1)
  | false :: r, n => pins r (n + 1)
def ownedAs : List Bool → List M → Bool
  | [], [] => true
  | b :: r, m :: ms => (b == m.owned) && ownedAs r ms
  | _, _ => false
/-- what the names of the pinned slots hold at the end -/
def finals : List Nat → Env → Option (List M)
  | [], _ => some []
  | i :: r, env => match env[i]? with
    | some (some m) => if m.owned = true then match finals r env with
      | some ms => some (m :: ms)
      | none => none else none
    | _ => none
def startE (n : Nat) (ms : List M) : Env := ms.map some ++ List.replicate (n - ms.length) none
def runF (gv : Nat → D) (cal : Nat → List M → Option (M × List M)) (fuel : Nat) (fd : FnD) (ms : List M) : Option (M × List M) :=
  if ownedAs fd.io ms = true ∧ fd.io.length = fd.ps.length ∧ fd.ps.length ≤ fd.N.length then
    match evSs gv cal fuel (pins fd.io 0) fd.body (startE fd.N.length ms) with
    | some (.rt m e) => (finals (pins fd.io 0) e).map fun fs => (m, fs)
    | some (.nx e) => (finals (pins fd.io 0) e).map fun fs => (.val .non, fs)
    | _ => none
  else none
def callF (gv : Nat → D) (fns : List FnD) (fuel : Nat) : Nat → Nat → List M → Option (M × List M)
  | 0, _, _ => none
  | n + 1, f, ms => match fns[f]? with
    | some fd => runF gv (callF gv fns fuel n) fuel fd ms
    | none => none
end IL
set_option Elab.async false
set_option linter.all false
set_option maxRecDepth 100000
set_option maxHeartbeats 4000000
/-! the operations are kept by the model -/
namespace IL
open PySem PySem.Spec PyProof.Rows L2

/-- a value that may be read now: its top in the heap, what it holds frozen -/
inductive View (K : PySem.W.Frag) (F H : Hp) : V → D → Prop
  | d {v : V} {d : D} : RepD K F v d → View K F H v d
  | l {a : Addr} {vs : List V} {ds : List D} : H a = some (.lst vs) → RepDs K F vs ds → View K F H (.ref a) (.lst ds)
  | k {a : Addr} {kvs : List (Key × V)} {ks : List (Key × D)} : H a = some (.dK kvs) → RepKs K F kvs ks → View K F H (.ref a) (.dic ks)
/-- what an operation gives -/
def Rs (K : PySem.W.Frag) (F H : Hp) (m : M) (v : V) (H' : Hp) : Prop := match m with
  | .val d => ∃ F', Same F F' ∧ Same F' H' ∧ Same H H' ∧ (∀ a, F' a ≠ none → F a ≠ none ∨ H a = none) ∧ RepD K F' v d
  | .lst ds => ∃ a vs, v = .ref a ∧ H a = none ∧ H' = upd H a (.lst vs) ∧ RepDs K F vs ds
  | .dic ks => ∃ a kvs, v = .ref a ∧ H a = none ∧ H' = upd H a (.dK kvs) ∧ RepKs K F kvs ks
section
variable {K : PySem.W.Frag} {F H : Hp}
theorem same_new {H : Hp} {p : Addr} {o : HO} (h : H p = none) : Same H (upd H p o) := fun b x e => by
  rw [upd_ne (ne_of_none e h)]
  exact e
theorem Rs.same {v : V} {d : D} (le : Same F H) (r : RepD K F v d) : Rs K F H (.val d) v H := ⟨F, Same.refl F, le, Same.refl H, fun _ h => .inl h, r⟩
theorem Rs.tup {a : Addr} {vs : List V} {ds : List D} (le : Same F H) (hn : H a = none) (r : RepDs K F vs ds) : Rs K F H (.val (.tup ds)) (.ref a) (upd H a (.tup vs)) := by
  have hF : F a = none := by
    cases q : F a with
    | none => rfl
    | some o => rw [le a o q] at hn; cases hn
  refine ⟨upd F a (.tup vs), same_new hF, fun b o e => ?_, same_new hn, fun b hb => ?_, .tup (SqT.of upd_same) (r.mono (same_new hF))⟩
  · by_cases h : b = a
    · subst h; rw [upd_same] at e ⊢; exact e
    · rw [upd_ne h] at e ⊢; exact le _ _ e
  · by_cases h : b = a
    · subst h; exact .inr hn
    · rw [upd_ne h] at hb; exact .inl hb
theorem Rs.lst {a : Addr} {vs : List V} {ds : List D} (hn : H a = none) (r : RepDs K F vs ds) : Rs K F H (.lst ds) (.ref a) (upd H a (.lst vs)) := ⟨a, vs, rfl, hn, rfl, r⟩
theorem View.int {v : V} {i : Int} (h : View K F H v (.int i)) : v = .int i := by
  cases h with | d r => cases r; rfl
theorem View.bl {v : V} {i : Bool} (h : View K F H v (.bl i)) : v = .bl i := by
  cases h with | d r => cases r; rfl
theorem View.str {v : V} {i : Str} (h : View K F H v (.str i)) : v = .str i := by
  cases h with | d r => cases r; rfl
theorem View.non {v : V} (h : View K F H v .non) : v = .non := by
  cases h with | d r => cases r; rfl
theorem View.lst (le : Same F H) {v : V} {ds : List D} (h : View K F H v (.lst ds)) : ∃ a vs, v = .ref a ∧ H a = some (.lst vs) ∧ RepDs K F vs ds := by
  cases h with
  | d r => cases r with | lst e r => exact ⟨_, _, rfl, le _ _ e, r⟩
  | l e r => exact ⟨_, _, rfl, e, r⟩
theorem View.tup (le : Same F H) {v : V} {ds : List D} (h : View K F H v (.tup ds)) : ∃ a vs, v = .ref a ∧ SqT K F a vs ∧ SqT K H a vs ∧ RepDs K F vs ds := by
  cases h with
  | d r => cases r with | tup e r => exact ⟨_, _, rfl, e, sqT_mono le e, r⟩
theorem View.scr (le : Same F H) {v : V} {ds : List Int} (h : View K F H v (.scr ds)) : ∃ a, v = .ref a ∧ SqL K H a (ds.map V.int) := by
  cases h with
  | d r => cases r with | scr e => exact ⟨_, rfl, sqL_mono le e⟩
/-- the frozen one -/
theorem View.tupD {v : V} {ds : List D} (h : View K F H v (.tup ds)) : RepD K F v (.tup ds) := by
  cases h with | d r => exact r

/-! ### as the library's data -/
mutual
theorem toP_dp (le : Same F H) : ∀ {d : D} {p : PyData} {v : V}, toP d = some p → RepD K F v d → Dp K H v p
  | .non, p, _, e, .non => by simp [toP] at e; subst e; exact .non
  | .bl b, p, _, e, .bl _ => by simp [toP] at e; subst e; exact .bl b
  | .int b, p, _, e, .int _ => by simp [toP] at e; subst e; exact .int b
  | .str b, p, _, e, .str _ => by simp [toP] at e; subst e; exact .str b
  | .tup ds, p, _, e, .tup h r => by
    simp only [toP, Option.map_eq_some_iff] at e
    obtain ⟨q, e, rfl⟩ := e
    exact .tup (sqT_mono le h) (toPs_dp le e r)
  | .lst ds, p, _, e, .lst h r => by
    simp only [toP, Option.map_eq_some_iff] at e
    obtain ⟨q, e, rfl⟩ := e
    exact .lst (SqL.of (le _ _ h)) (toPs_dp le e r)
  | .dic _, _, _, e, _ => by simp [toP] at e
  | .scr _, _, _, e, _ => by simp [toP] at e
theorem toPs_dp (le : Same F H) : ∀ {d : List D} {p : List PyData} {v : List V}, toPs d = some p → RepDs K F v d → DpAll K H v p
  | [], p, _, e, .nil => by simp [toPs] at e; subst e; exact .nil
  | d :: r, p, _, e, .cons h t => by
    simp only [toPs] at e
    cases e1 : toP d with
    | none => rw [e1] at e; simp at e
    | some p1 =>
      cases e2 : toPs r with
      | none => rw [e1, e2] at e; simp at e
      | some p2 =>
        rw [e1, e2] at e
        simp at e; subst e
        exact .cons (toP_dp le e1 h) (toPs_dp le e2 t)
end
theorem View.dp (le : Same F H) {d : D} {p : PyData} {v : V} (e : toP d = some p) (h : View K F H v d) : Dp K H v p := by
  cases h with
  | d r => exact toP_dp le e r
  | l h r =>
    simp only [toP, Option.map_eq_some_iff] at e
    obtain ⟨q, e, rfl⟩ := e
    exact .lst (SqL.of h) (toPs_dp le e r)
  | k h r => simp [toP] at e
/-! ### flat data -/
theorem flat_rep {d : D} {x : V} {v : V} (e : flatOf d = some x) (r : RepD K F v d) : v = x ∧ flatV v = true := by
  cases r <;> simp [flatOf] at e <;> subst e <;> exact ⟨rfl, rfl⟩
theorem View.flat {d : D} {x : V} {v : V} (e : flatOf d = some x) (h : View K F H v d) : v = x ∧ flatV v = true := by
  cases h with
  | d r => exact flat_rep e r
  | l _ _ => simp [flatOf] at e
  | k _ _ => simp [flatOf] at e
theorem flats_rep : ∀ {d : List D} {x v : List V}, flatsOf d = some x → RepDs K F v d → v = x ∧ v.all flatV = true
  | [], x, _, e, .nil => by simp [flatsOf] at e; subst e; exact ⟨rfl, rfl⟩
  | d :: r, x, _, e, .cons h t => by
    simp only [flatsOf] at e
    cases e1 : flatOf d with
    | none => rw [e1] at e; simp at e
    | some p1 =>
      cases e2 : flatsOf r with
      | none => rw [e1, e2] at e; simp at e
      | some p2 =>
        rw [e1, e2] at e
        simp at e; subst e
        obtain ⟨h1, h2⟩ := flat_rep e1 h
        obtain ⟨h3, h4⟩ := flats_rep e2 t
        subst h1 h3
        exact ⟨rfl, by simp [h2, h4]⟩
theorem View.seq (le : Same F H) {d : D} {ds : List D} {v : V} (e : seqOf d = some ds) (h : View K F H v d) : ∃ p vs, v = .ref p ∧ (SqL K H p vs ∨ SqT K H p vs) ∧ RepDs K F vs ds := by
  cases d with
  | lst es =>
    simp [seqOf] at e; subst e
    obtain ⟨a, vs, e1, e2, e3⟩ := h.lst le
    exact ⟨a, vs, e1, .inl (SqL.of e2), e3⟩
  | tup es =>
    simp [seqOf] at e; subst e
    obtain ⟨a, vs, e1, _, e2, e3⟩ := h.tup le
    exact ⟨a, vs, e1, .inr e2, e3⟩
  | _ => simp [seqOf] at e
theorem ints_rep : ∀ {d : List D} {x : List Int} {v : List V}, intsOf d = some x → RepDs K F v d → v = x.map V.int
  | [], x, _, e, .nil => by simp [intsOf] at e; subst e; rfl
  | .int i :: r, x, _, e, .cons h t => by
    simp only [intsOf, Option.map_eq_some_iff] at e
    obtain ⟨q, e, rfl⟩ := e
    cases h
    rw [ints_rep e t]; rfl
  | .non :: _, _, _, e, _ => by simp [intsOf] at e
  | .bl _ :: _, _, _, e, _ => by simp [intsOf] at e
  | .str _ :: _, _, _, e, _ => by simp [intsOf] at e
  | .tup _ :: _, _, _, e, _ => by simp [intsOf] at e
  | .lst _ :: _, _, _, e, _ => by simp [intsOf] at e
  | .dic _ :: _, _, _, e, _ => by simp [intsOf] at e
  | .scr _ :: _, _, _, e, _ => by simp [intsOf] at e
theorem bls_rep : ∀ {d : List D} {x : List Bool} {v : List V}, blsOf d = some x → RepDs K F v d → v = x.map V.bl
  | [], x, _, e, .nil => by simp [blsOf] at e; subst e; rfl
  | .bl i :: r, x, _, e, .cons h t => by
    simp only [blsOf, Option.map_eq_some_iff] at e
    obtain ⟨q, e, rfl⟩ := e
    cases h
    rw [bls_rep e t]; rfl
  | .non :: _, _, _, e, _ => by simp [blsOf] at e
  | .int _ :: _, _, _, e, _ => by simp [blsOf] at e
  | .str _ :: _, _, _, e, _ => by simp [blsOf] at e
  | .tup _ :: _, _, _, e, _ => by simp [blsOf] at e
  | .lst _ :: _, _, _, e, _ => by simp [blsOf] at e
  | .dic _ :: _, _, _, e, _ => by simp [blsOf] at e
  | .scr _ :: _, _, _, e, _ => by simp [blsOf] at e
theorem RepDs.rep {vs : List V} {ds : List D} (h : RepDs K F vs ds) : ∀ n : Nat, RepDs K F (List.replicate n vs).flatten (List.replicate n ds).flatten
  | 0 => by simpa using RepDs.nil
  | n + 1 => by
    rw [List.replicate_succ, List.replicate_succ, List.flatten_cons, List.flatten_cons]
    exact h.app (RepDs.rep h n)
end

/-! ### two-place operations -/
theorem OpR.or {X : Cx} {f : Value → Value → Sem Value} {r1 r2 : R2} (h1 : OpR X f r1) (h2 : OpR X f r2) : OpR X f (fun x y H Q => r1 x y H Q ∨ r2 x y H Q) := fun pins s σ H x y v u Q I rx ry h =>
  h.elim (h1 pins s σ H x y v u Q I rx ry) (h2 pins s σ H x y v u Q I rx ry)
def bopPy : BOp → Operator
  | .add => .Add
  | .sub => .Sub
  | .mul => .Mult
  | .fdiv => .FloorDiv
  | .mod => .Mod
  | .pow => .Pow
def rStr : R2 := fun x y H Q => ∃ i j, x = .str i ∧ y = .str j ∧ i.length + j.length ≤ sizeLine ∧ Q (.str (i ++ j)) H
def rBin (K : PySem.W.Frag) : BOp → R2
  | .add => fun x y H Q => rI0 (fun i j => .int (i + j)) x y H Q ∨ (rStr x y H Q ∨ (rCat x y H Q ∨ rCatT K x y H Q))
  | .sub => rI0 fun i j => .int (i - j)
  | .mul => fun x y H Q => rI CMul (fun i j => .int (i * j)) x y H Q ∨ (rRep x y H Q ∨ rRepT K x y H Q)
  | .fdiv => rI CDiv fun i j => .int (i / j)
  | .mod => rI (fun _ j => 0 < j) fun i j => .int (i % j)
  | .pow => rI CPow fun i j => .int (i ^ j.toNat)
theorem or_bin {X : Cx} (op : BOp) : OpR X (binaryOp (bopPy op)) (rBin X.K op) := by
  cases op with
  | add => exact OpR.or op_add (OpR.or op_add_str (OpR.or op_cat op_catT))
  | sub => exact op_sub
  | mul => exact OpR.or op_mul (OpR.or op_rep op_repT)
  | fdiv => exact op_fdiv
  | mod => exact op_mod
  | pow => exact op_pow
section
variable {K : PySem.W.Frag} {F H : Hp} {Q : VK}
theorem bin_ok {op : BOp} {p q : D} {x y : V} {m : M} (le : Same F H) (hx : View K F H x p) (hy : View K F H y q) (e : binF op p q = some m) (k : ∀ v H', Rs K F H m v H' → Q v H') : rBin K op x y H Q := by
  unfold binF at e
  split at e
  · cases e; exact .inl ⟨_, _, hx.int, hy.int, k _ _ (.same le (.int _))⟩
  · split at e
    · rename_i hz
      cases e; exact .inr (.inl ⟨_, _, hx.str, hy.str, hz, k _ _ (.same le (.str _))⟩)
    · cases e
  · split at e
    · rename_i hz
      cases e
      obtain ⟨a, vs, rfl, h1, h2⟩ := hx.lst le
      obtain ⟨b, ws, rfl, h3, h4⟩ := hy.lst le
      refine .inr (.inr (.inl ⟨a, b, vs, ws, rfl, rfl, h1, h3, by rw [h2.length, h4.length]; exact hz, fun c hc => k _ _ (.lst hc (h2.app h4))⟩))
    · cases e
  · split at e
    · rename_i hz
      cases e
      obtain ⟨a, vs, rfl, f1, h1, h2⟩ := hx.tup le
      obtain ⟨b, ws, rfl, f3, h3, h4⟩ := hy.tup le
      refine .inr (.inr (.inr ⟨a, b, vs, ws, rfl, rfl, h1, h3, fun z => ?_, by rw [h2.length, h4.length]; exact hz.2, fun z => ?_, fun _ c hc => k _ _ (.tup le hc (h2.app h4))⟩))
      · subst z
        have := h2.length
        exact hz.1 (List.length_eq_zero_iff.mp this.symm)
      · subst z
        have e2 := h4.length
        have e3 := List.length_eq_zero_iff.mp e2.symm
        subst e3
        rw [List.append_nil] at k
        exact k _ _ (.same le (.tup f1 h2))
    · cases e
  · cases e; exact ⟨_, _, hx.int, hy.int, k _ _ (.same le (.int _))⟩
  · split at e
    · rename_i hz
      cases e; exact .inl ⟨_, _, hx.int, hy.int, hz, k _ _ (.same le (.int _))⟩
    · cases e
  · split at e
    · rename_i hz
      cases e
      obtain ⟨a, vs, rfl, h1, h2⟩ := hx.lst le
      have ey := hy.int
      subst ey
      refine .inr (.inl ⟨a, _, vs, rfl, rfl, h1, hz.1, hz.2.1, by rw [h2.length]; exact hz.2.2, fun c hc => k _ _ (.lst hc (h2.rep _))⟩)
    · cases e
  · split at e
    · rename_i hz
      cases e
      obtain ⟨a, vs, rfl, f1, h1, h2⟩ := hx.tup le
      have ey := hy.int
      subst ey
      refine .inr (.inr ⟨a, _, vs, rfl, rfl, h1, fun z => ?_, hz.2.1, hz.2.2.1, by rw [h2.length]; exact hz.2.2.2, fun c hc => k _ _ (.tup le hc (h2.rep _))⟩)
      subst z
      exact hz.1 (List.length_eq_zero_iff.mp h2.length.symm)
    · cases e
  · split at e
    · rename_i hz
      cases e; exact ⟨_, _, hx.int, hy.int, hz, k _ _ (.same le (.int _))⟩
    · cases e
  · split at e
    · rename_i hz
      cases e; exact ⟨_, _, hx.int, hy.int, hz, k _ _ (.same le (.int _))⟩
    · cases e
  · split at e
    · rename_i hz
      cases e; exact ⟨_, _, hx.int, hy.int, hz, k _ _ (.same le (.int _))⟩
    · cases e
  · cases e
end
def copPy : COp → CmpOp
  | .eq => .Eq
  | .ne => .NotEq
  | .lt => .Lt
  | .le => .LtE
  | .gt => .Gt
  | .ge => .GtE
  | .isin => .In
  | .notin => .NotIn
def rCmp (K : PySem.W.Frag) : COp → R2
  | .eq => rEqD K
  | .ne => rNeD K
  | .lt => rI0 fun i j => .bl (decide (i < j))
  | .le => rI0 fun i j => .bl (decide (i ≤ j))
  | .gt => rI0 fun i j => .bl (decide (i > j))
  | .ge => rI0 fun i j => .bl (decide (i ≥ j))
  | .isin => rIn K false
  | .notin => rIn K true
theorem or_cmp {X : Cx} (hu : X.A.units + 64 < cLine) (op : COp) : OpR X (compareOp (copPy op)) (rCmp X.K op) := by
  cases op with
  | eq => exact op_eqD hu
  | ne => exact op_neD hu
  | lt => exact op_lt
  | le => exact op_le
  | gt => exact op_gt
  | ge => exact op_ge
  | isin => exact op_in_seq
  | notin => exact op_notIn_seq
section
variable {K : PySem.W.Frag} {F H : Hp} {Q : VK}
theorem eq_ok {p q : D} {x y : V} {b : Bool} (le : Same F H) (hx : View K F H x p) (hy : View K F H y q) (e : eqD p q = some b) : ∃ d e, Dp K H x d ∧ Dp K H y e ∧ SeqAt.shaped d = true ∧ SeqAt.shaped e = true ∧ PyData.eqv d e = b := by
  unfold eqD at e
  split at e
  · rename_i p1 p2 h1 h2
    split at e
    · rename_i hz
      cases e
      exact ⟨p1, p2, hx.dp le h1, hy.dp le h2, hz.1, hz.2, rfl⟩
    · cases e
  · cases e
theorem in_ok {p q : D} {x y : V} {b : Bool} (le : Same F H) (hx : View K F H x p) (hy : View K F H y q) (e : inD p q = some b) : ∃ a xs, y = .ref a ∧ (SqL K H a xs ∨ SqT K H a xs) ∧ flatV x = true ∧ xs.all flatV = true ∧ inV x xs = b := by
  unfold inD at e
  split at e
  · rename_i v ds h1 h2
    split at e
    · rename_i vs h3
      cases e
      obtain ⟨a, ws, e1, e2, e3⟩ := hy.seq le h2
      obtain ⟨e4, e5⟩ := hx.flat h1
      obtain ⟨e6, e7⟩ := flats_rep h3 e3
      exact ⟨a, ws, e1, e2, e5, e7, by rw [e4, e6]⟩
    · cases e
  · cases e
theorem cmp_ok {op : COp} {p q : D} {x y : V} {b : Bool} (le : Same F H) (hx : View K F H x p) (hy : View K F H y q) (e : cmpF op p q = some b) (k : Q (.bl b) H) : rCmp K op x y H Q := by
  unfold cmpF at e
  split at e
  · obtain ⟨d, e', h1, h2, h3, h4, h5⟩ := eq_ok le hx hy e
    exact ⟨d, e', h1, h2, h3, h4, by rw [h5]; exact k⟩
  · rw [Option.map_eq_some_iff] at e
    obtain ⟨c, e, rfl⟩ := e
    obtain ⟨d, e', h1, h2, h3, h4, h5⟩ := eq_ok le hx hy e
    exact ⟨d, e', h1, h2, h3, h4, by rw [h5]; exact k⟩
  · cases e; exact ⟨_, _, hx.int, hy.int, k⟩
  · cases e; exact ⟨_, _, hx.int, hy.int, k⟩
  · cases e; exact ⟨_, _, hx.int, hy.int, k⟩
  · cases e; exact ⟨_, _, hx.int, hy.int, k⟩
  · obtain ⟨a, xs, h1, h2, h3, h4, h5⟩ := in_ok le hx hy e
    exact ⟨a, xs, h1, h2, h3, h4, by rw [if_neg Bool.false_ne_true, h5]; exact k⟩
  · rw [Option.map_eq_some_iff] at e
    obtain ⟨c, e, rfl⟩ := e
    obtain ⟨a, xs, h1, h2, h3, h4, h5⟩ := in_ok le hx hy e
    exact ⟨a, xs, h1, h2, h3, h4, by rw [if_pos rfl, h5]; exact k⟩
  · cases e
end
/-! ### an item, a slice -/
theorem IxR.or {X : Cx} {r1 r2 : R2} (h1 : IxR X r1) (h2 : IxR X r2) : IxR X (fun x y H Q => r1 x y H Q ∨ r2 x y H Q) := fun value slice pins s σ H x y v u Q I rx ry h hs =>
  h.elim (fun z => h1 value slice pins s σ H x y v u Q I rx ry z hs) fun z => h2 value slice pins s σ H x y v u Q I rx ry z hs
def rIdx (K : PySem.W.Frag) : R2 := fun x y H Q => rIxL K x y H Q ∨ rIxT K x y H Q
theorem or_idx {X : Cx} : IxR X (rIdx X.K) := IxR.or ix_list ix_tup
section
variable {K : PySem.W.Frag} {F H : Hp} {Q : VK}
theorem at_rep {vs : List V} {ds : List D} {i : Int} {d : D} (h : RepDs K F vs ds) (e : ((ixN ds.length i).bind fun j => ds[j]?) = some d) : ∃ v, atI vs i = some v ∧ RepD K F v d := by
  rw [← h.length] at e
  unfold atI
  cases q : ixN vs.length i with
  | none => rw [q] at e; simp at e
  | some j =>
    rw [q] at e
    exact h.get (i := j) e
theorem idx_ok {p q d : D} {x y : V} (le : Same F H) (hx : View K F H x p) (hy : View K F H y q) (e : idxF p q = some d) (k : ∀ v, RepD K F v d → Q v H) : rIdx K x y H Q := by
  unfold idxF at e
  split at e
  · obtain ⟨a, vs, rfl, h1, h2⟩ := hx.lst le
    obtain ⟨v, h3, h4⟩ := at_rep h2 e
    exact .inl ⟨a, vs, _, v, rfl, hy.int, SqL.of h1, h3, k v h4⟩
  · obtain ⟨a, vs, rfl, f1, h1, h2⟩ := hx.tup le
    obtain ⟨v, h3, h4⟩ := at_rep h2 e
    exact .inr ⟨a, vs, _, v, rfl, hy.int, h1, h3, k v h4⟩
  · rename_i ns i
    obtain ⟨a, rfl, h1⟩ := hx.scr le
    have e2 : ((ixN (ns.map D.int).length i).bind fun j => (ns.map D.int)[j]?) = some d := by
      rw [List.length_map]
      simpa only [List.getElem?_map] using e
    obtain ⟨v, h3, h4⟩ := at_rep (RepDs.ints (K := K) (F := F) ns) e2
    exact .inl ⟨a, _, _, v, rfl, hy.int, h1, h3, k v h4⟩
  · cases e
end
def rSlc (K : PySem.W.Frag) : V → Option Int → Option Int → Hp → VK → Prop := fun x lo hi H Q => rSlL K x lo hi H Q ∨ rSlT K x lo hi H Q
theorem or_slc {X : Cx} : SlR X (rSlc X.K) := SlR.or sl_list sl_tup
section
variable {K : PySem.W.Frag} {F H : Hp} {Q : VK}
theorem RepDs.cut {vs : List V} {ds : List D} (h : RepDs K F vs ds) (lo hi : Option Int) : RepDs K F (cutV vs lo hi) (cutD ds lo hi) := by
  unfold cutV cutD
  rw [h.length]
  exact (h.drop _).take _
theorem slc_scr {ns : List Int} {l u : Option Int} {x : V} (le : Same F H) (hx : View K F H x (.scr ns)) (k : ∀ v H', Rs K F H (.lst ((cutD ns l u).map D.int)) v H' → Q v H') : rSlc K x l u H Q := by
  obtain ⟨a, rfl, h1⟩ := hx.scr le
  refine .inl ⟨a, _, rfl, h1, fun c hc => k _ _ (.lst hc ?_)⟩
  have h2 := (RepDs.ints (K := K) (F := F) ns).cut l u
  have h3 : cutD (ns.map D.int) l u = (cutD ns l u).map D.int := by
    unfold cutD
    rw [List.length_map, List.map_take, List.map_drop]
  rw [h3] at h2
  exact h2
theorem slc_ok {p : D} {lo hi : Option D} {l u : Option Int} {x : V} {m : M} (le : Same F H) (hx : View K F H x p) (hl : optI lo = some l) (hu : optI hi = some u) (e : slcF p lo hi = some m) (k : ∀ v H', Rs K F H m v H' → Q v H') : rSlc K x l u H Q := by
  unfold slcF at e
  split at e
  · rw [hl, hu] at e
    cases e
    obtain ⟨a, vs, rfl, h1, h2⟩ := hx.lst le
    exact .inl ⟨a, vs, rfl, SqL.of h1, fun c hc => k _ _ (.lst hc (h2.cut l u))⟩
  · rw [hl, hu] at e
    simp only at e
    split at e
    · cases e
    · rename_i hz
      cases e
      obtain ⟨a, vs, rfl, f1, h1, h2⟩ := hx.tup le
      exact .inr ⟨a, vs, rfl, h1, by rw [h2.length]; exact hz, fun c hc => k _ _ (.tup le hc (h2.cut l u))⟩
  · rw [hl, hu] at e
    cases e
    exact slc_scr le hx k
  · cases e
end
/-! ### isinstance -/
def tyD : D → String
  | .non => "NoneType"
  | .bl _ => "bool"
  | .int _ => "int"
  | .str _ => "str"
  | .tup _ => "tuple"
  | .lst _ => "list"
  | .dic _ => "dict"
  | .scr _ => "list"
def tyT : Ty → String
  | .int => "int"
  | .bool => "bool"
  | .str => "str"
  | .list => "list"
  | .tuple => "tuple"
theorem sqT_ty {K : PySem.W.Frag} {H : Hp} {a : Addr} {vs : List V} (h : SqT K H a vs) : TyX K H (.ref a) (.type "tuple") := by
  rcases h with (h | ⟨o, h⟩) | ⟨o, its, n, h1, h2, _⟩
  · exact .base (.tup h)
  · exact .fTuple h
  · exact .kTuple h1 h2
theorem View.ty {K : PySem.W.Frag} {F H : Hp} (le : Same F H) {v : V} {d : D} (h : View K F H v d) (hs : ∀ ns, d ≠ .scr ns) : TyX K H v (.type (tyD d)) := by
  cases d with
  | non => rw [h.non]; exact .base .non
  | bl b => rw [h.bl]; exact .base (.bl b)
  | int b => rw [h.int]; exact .base (.int b)
  | str b => rw [h.str]; exact .base (.str b)
  | tup ds =>
    obtain ⟨a, vs, rfl, _, h1, _⟩ := h.tup le
    exact sqT_ty h1
  | lst ds =>
    obtain ⟨a, vs, rfl, h1, _⟩ := h.lst le
    exact .base (.lst h1)
  | dic ks =>
    cases h with
    | d r => cases r with | dic e _ => exact .base (.dK (le _ _ e))
    | k e _ => exact .base (.dK e)
  | scr ns => exact absurd rfl (hs ns)
theorem kit1 {K : PySem.W.Frag} (d : D) (t : Ty) (hs : ∀ ns, d ≠ .scr ns) : PySem.W.kitOne K (.type (tyD d)) (.type (tyT t)) = some (isTyD d t) := by
  cases d with
  | non => cases t with
    | int => exact kit_ty (a := "NoneType") (b := "int") (r := false) (by decide +kernel)
    | bool => exact kit_ty (a := "NoneType") (b := "bool") (r := false) (by decide +kernel)
    | str => exact kit_ty (a := "NoneType") (b := "str") (r := false) (by decide +kernel)
    | list => exact kit_ty (a := "NoneType") (b := "list") (r := false) (by decide +kernel)
    | tuple => exact kit_ty (a := "NoneType") (b := "tuple") (r := false) (by decide +kernel)
  | bl b => cases t with
    | int => exact kit_ty (a := "bool") (b := "int") (r := true) (by decide +kernel)
    | bool => exact kit_ty (a := "bool") (b := "bool") (r := true) (by decide +kernel)
    | str => exact kit_ty (a := "bool") (b := "str") (r := false) (by decide +kernel)
    | list => exact kit_ty (a := "bool") (b := "list") (r := false) (by decide +kernel)
    | tuple => exact kit_ty (a := "bool") (b := "tuple") (r := false) (by decide +kernel)
  | int b => cases t with
    | int => exact kit_ty (a := "int") (b := "int") (r := true) (by decide +kernel)
    | bool => exact kit_ty (a := "int") (b := "bool") (r := false) (by decide +kernel)
    | str => exact kit_ty (a := "int") (b := "str") (r := false) (by decide +kernel)
    | list => exact kit_ty (a := "int") (b := "list") (r := false) (by decide +kernel)
    | tuple => exact kit_ty (a := "int") (b := "tuple") (r := false) (by decide +kernel)
  | str b => cases t with
    | int => exact kit_ty (a := "str") (b := "int") (r := false) (by decide +kernel)
    | bool => exact kit_ty (a := "str") (b := "bool") (r := false) (by decide +kernel)
    | str => exact kit_ty (a := "str") (b := "str") (r := true) (by decide +kernel)
    | list => exact kit_ty (a := "str") (b := "list") (r := false) (by decide +kernel)
    | tuple => exact kit_ty (a := "str") (b := "tuple") (r := false) (by decide +kernel)
  | tup b => cases t with
    | int => exact kit_ty (a := "tuple") (b := "int") (r := false) (by decide +kernel)
    | bool => exact kit_ty (a := "tuple") (b := "bool") (r := false) (by decide +kernel)
    | str => exact kit_ty (a := "tuple") (b := "str") (r := false) (by decide +kernel)
    | list => exact kit_ty (a := "tuple") (b := "list") (r := false) (by decide +kernel)
    | tuple => exact kit_ty (a := "tuple") (b := "tuple") (r := true) (by decide +kernel)
  | lst b => cases t with
    | int => exact kit_ty (a := "list") (b := "int") (r := false) (by decide +kernel)
    | bool => exact kit_ty (a := "list") (b := "bool") (r := false) (by decide +kernel)
    | str => exact kit_ty (a := "list") (b := "str") (r := false) (by decide +kernel)
    | list => exact kit_ty (a := "list") (b := "list") (r := true) (by decide +kernel)
    | tuple => exact kit_ty (a := "list") (b := "tuple") (r := false) (by decide +kernel)
  | dic b => cases t with
    | int => exact kit_ty (a := "dict") (b := "int") (r := false) (by decide +kernel)
    | bool => exact kit_ty (a := "dict") (b := "bool") (r := false) (by decide +kernel)
    | str => exact kit_ty (a := "dict") (b := "str") (r := false) (by decide +kernel)
    | list => exact kit_ty (a := "dict") (b := "list") (r := false) (by decide +kernel)
    | tuple => exact kit_ty (a := "dict") (b := "tuple") (r := false) (by decide +kernel)
  | scr ns => exact (hs ns rfl).elim
theorem kits {K : PySem.W.Frag} (d : D) (hs : ∀ ns, d ≠ .scr ns) : ∀ ts : List Ty, PySem.W.kitAny K (.type (tyD d)) (ts.map fun t => Value.type (tyT t)) = some (ts.any (isTyD d))
  | [] => rfl
  | t :: r => by
    rw [List.map_cons, List.any_cons]
    unfold PySem.W.kitAny
    rw [kit1 d t hs]
    cases h : isTyD d t with
    | true => rfl
    | false =>
      show PySem.W.kitAny K _ _ = _
      rw [kits d hs r]; rfl
end IL
set_option Elab.async false
set_option linter.all false
set_option maxRecDepth 100000
set_option maxHeartbeats 4000000
/-! built-ins by name -/
namespace IL
open PySem PySem.Spec PyProof.Rows L2

theorem CallR.or {X : Cx} {f : Value} {r1 r2 : List V → Hp → VK → Prop} (h1 : CallR X f r1) (h2 : CallR X f r2) : CallR X f (fun x H Q => r1 x H Q ∨ r2 x H Q) := fun pins s σ H xs us Q I rx h =>
  h.elim (h1 pins s σ H xs us Q I rx) (h2 pins s σ H xs us Q I rx)
def bltN : Blt → Str
  | .abs => "abs"
  | .int => "int"
  | .len => "len"
  | .tuple => "tuple"
  | .list => "list"
  | .max1 => "max"
  | .min2 => "min"
  | .max2 => "max"
  | .all => "all"
  | .any => "any"
  | .str => "str"
def bltV : Blt → Value
  | .abs => .builtin "abs"
  | .int => .type "int"
  | .len => .builtin "len"
  | .tuple => .type "tuple"
  | .list => .type "list"
  | .max1 => .builtin "max"
  | .min2 => .builtin "min"
  | .max2 => .builtin "max"
  | .all => .builtin "all"
  | .any => .builtin "any"
  | .str => .type "str"
theorem blt_boot (b : Blt) : bootBuiltins (bltN b) = some (bltV b) := by cases b <;> decide +kernel
abbrev RC := List V → Hp → VK → Prop
def cAbs : RC := fun xs H Q => ∃ i, xs = [.int i] ∧ Q (.int (if i < 0 then -i else i)) H
def cInt : RC := fun xs H Q => (∃ i, xs = [.int i] ∧ Q (.int i) H) ∨ ∃ k, xs = [.bl k] ∧ Q (.int (if k then 1 else 0)) H
def cLen (K : PySem.W.Frag) : RC := fun xs H Q => ∃ p ys, xs = [.ref p] ∧ (SqL K H p ys ∨ SqT K H p ys) ∧ Q (.int (ys.length : Nat)) H
def cTup (K : PySem.W.Frag) : RC := fun xs H Q => ∃ p ys, xs = [.ref p] ∧ ((SqL K H p ys ∧ ∀ l, H l = none → Q (.ref l) (upd H l (.tup ys))) ∨ (SqT K H p ys ∧ Q (.ref p) H))
def cLst (K : PySem.W.Frag) : RC := fun xs H Q => ∃ p ys, xs = [.ref p] ∧ (SqL K H p ys ∨ SqT K H p ys) ∧ ∀ l, H l = none → Q (.ref l) (upd H l (.lst ys))
def cMin2 : RC := fun xs H Q => ∃ i j, xs = [.int i, .int j] ∧ Q (.int (if j < i then j else i)) H
def cMax2 : RC := fun xs H Q => ∃ i j, xs = [.int i, .int j] ∧ Q (.int (if j > i then j else i)) H
def cStr : RC := fun _ _ _ => False
def rBlt (K : PySem.W.Frag) : Blt → RC
  | .abs => cAbs
  | .int => cInt
  | .len => cLen K
  | .tuple => cTup K
  | .list => cLst K
  | .max1 => rMax K
  | .min2 => cMin2
  | .max2 => cMax2
  | .all => rAll K
  | .any => rAny K
  | .str => cStr
theorem or_blt {X : Cx} (hc : X.calm = true) (b : Blt) : CallR X (bltV b) (rBlt X.K b) := by
  cases b with
  | abs => exact call_abs
  | int => exact call_int1
  | len => exact call_len_seq
  | tuple => exact call_tuple_of
  | list => exact call_list_of
  | max1 => exact cr_max hc
  | min2 => exact call_min2 hc
  | max2 => exact call_max2 hc
  | all => exact cr_all hc
  | any => exact cr_any hc
  | str => exact fun _ _ _ _ _ _ _ _ _ h => h.elim
theorem maxI_spec : ∀ (x : Int) (r : List Int), maxI (x :: r) ∈ x :: r ∧ ∀ y ∈ x :: r, y ≤ maxI (x :: r)
  | x, [] => ⟨by simp [maxI], by simp [maxI]⟩
  | x, z :: r => by
    obtain ⟨h1, h2⟩ := maxI_spec z r
    unfold maxI
    split
    · rename_i h
      refine ⟨List.mem_cons_of_mem _ h1, fun y hy => ?_⟩
      rcases List.mem_cons.mp hy with rfl | hy
      · exact h
      · exact h2 y hy
    · rename_i h
      refine ⟨List.mem_cons_self, fun y hy => ?_⟩
      rcases List.mem_cons.mp hy with rfl | hy
      · exact Int.le_refl _
      · have := h2 y hy
        omega
theorem maxI_uniq {x m : Int} {r : List Int} (h1 : m ∈ x :: r) (h2 : ∀ y ∈ x :: r, y ≤ m) : m = maxI (x :: r) := by
  obtain ⟨h3, h4⟩ := maxI_spec x r
  have a := h2 _ h3
  have b := h4 _ h1
  omega
inductive Views (K : PySem.W.Frag) (F H : Hp) : List V → List D → Prop
  | nil : Views K F H [] []
  | cons {v : V} {d : D} {vs : List V} {ds : List D} : View K F H v d → Views K F H vs ds → Views K F H (v :: vs) (d :: ds)
section
variable {K : PySem.W.Frag} {F H : Hp} {Q : VK}
theorem views1 {vs : List V} {d : D} (h : Views K F H vs [d]) : ∃ v, vs = [v] ∧ View K F H v d := by
  cases h with | cons h t => cases t; exact ⟨_, rfl, h⟩
theorem views2 {vs : List V} {d e : D} (h : Views K F H vs [d, e]) : ∃ v u, vs = [v, u] ∧ View K F H v d ∧ View K F H u e := by
  cases h with | cons h t => cases t with | cons h2 t => cases t; exact ⟨_, _, rfl, h, h2⟩
theorem len_scr {ns : List Int} {v : V} (le : Same F H) (h : View K F H v (.scr ns)) (k : Q (.int (ns.length : Nat)) H) : cLen K [v] H Q := by
  obtain ⟨a, rfl, h1⟩ := h.scr le
  exact ⟨a, _, rfl, .inl h1, by rw [List.length_map]; exact k⟩
theorem blt_ok {b : Blt} {ds : List D} {vs : List V} {m : M} (le : Same F H) (hv : Views K F H vs ds) (e : bltF b ds = some m) (k : ∀ v H', Rs K F H m v H' → Q v H') : rBlt K b vs H Q := by
  unfold bltF at e
  split at e
  · obtain ⟨v, rfl, h⟩ := views1 hv
    cases e
    exact ⟨_, by rw [h.int], k _ _ (.same le (.int _))⟩
  · obtain ⟨v, rfl, h⟩ := views1 hv
    cases e
    exact .inl ⟨_, by rw [h.int], k _ _ (.same le (.int _))⟩
  · obtain ⟨v, rfl, h⟩ := views1 hv
    cases e
    exact .inr ⟨_, by rw [h.bl], k _ _ (.same le (.int _))⟩
  · obtain ⟨v, rfl, h⟩ := views1 hv
    cases e
    obtain ⟨a, vs, rfl, h1, h2⟩ := h.lst le
    exact ⟨a, vs, rfl, .inl (SqL.of h1), by rw [h2.length]; exact k _ _ (.same le (.int _))⟩
  · obtain ⟨v, rfl, h⟩ := views1 hv
    cases e
    obtain ⟨a, vs, rfl, _, h1, h2⟩ := h.tup le
    exact ⟨a, vs, rfl, .inr h1, by rw [h2.length]; exact k _ _ (.same le (.int _))⟩
  · obtain ⟨v, rfl, h⟩ := views1 hv
    cases e
    exact len_scr le h (k _ _ (.same le (.int _)))
  · obtain ⟨v, rfl, h⟩ := views1 hv
    cases e
    obtain ⟨a, vs, rfl, h1, h2⟩ := h.lst le
    exact ⟨a, vs, rfl, .inl ⟨SqL.of h1, fun c hc => k _ _ (.tup le hc h2)⟩⟩
  · obtain ⟨v, rfl, h⟩ := views1 hv
    cases e
    obtain ⟨a, vs, rfl, f1, h1, h2⟩ := h.tup le
    exact ⟨a, vs, rfl, .inr ⟨h1, k _ _ (.same le (.tup f1 h2))⟩⟩
  · obtain ⟨v, rfl, h⟩ := views1 hv
    cases e
    obtain ⟨a, vs, rfl, h1, h2⟩ := h.lst le
    exact ⟨a, vs, rfl, .inl (SqL.of h1), fun c hc => k _ _ (.lst hc h2)⟩
  · obtain ⟨v, rfl, h⟩ := views1 hv
    cases e
    obtain ⟨a, vs, rfl, _, h1, h2⟩ := h.tup le
    exact ⟨a, vs, rfl, .inr h1, fun c hc => k _ _ (.lst hc h2)⟩
  · obtain ⟨v, rfl, h⟩ := views1 hv
    split at e
    · rename_i i r hi
      cases e
      obtain ⟨a, vs, rfl, h1, h2⟩ := h.lst le
      have e2 := ints_rep hi h2
      subst e2
      refine ⟨a, i :: r, rfl, SqL.of h1, by simp, fun m hm hle => ?_⟩
      rw [maxI_uniq hm hle]
      exact k _ _ (.same le (.int _))
    · cases e
  · obtain ⟨v, u, rfl, h, h2⟩ := views2 hv
    cases e
    exact ⟨_, _, by rw [h.int, h2.int], k _ _ (.same le (.int _))⟩
  · obtain ⟨v, u, rfl, h, h2⟩ := views2 hv
    cases e
    exact ⟨_, _, by rw [h.int, h2.int], k _ _ (.same le (.int _))⟩
  · obtain ⟨v, rfl, h⟩ := views1 hv
    rw [Option.map_eq_some_iff] at e
    obtain ⟨bs, e, rfl⟩ := e
    obtain ⟨a, vs, rfl, h1, h2⟩ := h.lst le
    have e2 := bls_rep e h2
    subst e2
    exact ⟨a, bs, rfl, SqL.of h1, k _ _ (.same le (.bl _))⟩
  · obtain ⟨v, rfl, h⟩ := views1 hv
    rw [Option.map_eq_some_iff] at e
    obtain ⟨bs, e, rfl⟩ := e
    obtain ⟨a, vs, rfl, h1, h2⟩ := h.lst le
    have e2 := bls_rep e h2
    subst e2
    exact ⟨a, bs, rfl, SqL.of h1, k _ _ (.same le (.bl _))⟩
  · cases e
end
end IL
set_option Elab.async false
set_option linter.all false
set_option maxRecDepth 100000
set_option maxHeartbeats 4000000
/-! what is asked of the context, and the look that a text is a program's -/
namespace IL
open PySem PySem.Spec PyProof.Rows L2

/-- the arguments that are handed in to be changed -/
def sel {α : Type} : List Bool → List α → List α
  | true :: r, v :: vs => v :: sel r vs
  | false :: r, _ :: vs => sel r vs
  | _, _ => []
/-- what a def promises: what the small language comes to -/
def spF (K : PySem.W.Frag) (gv : Nat → D) (fns : List FnD) (fuel n f : Nat) (fd : FnD) : Sp := fun vs H Q _ =>
  ∃ F ms Os, Ok K F H (vs.map some) (ms.map some) Os ∧ vs.length = fd.ps.length ∧ ∃ r fs, callF gv fns fuel n f ms = some (r, fs) ∧
    ∀ v F' H' O Os', Tr F H Os.flatten F' H' (O ++ Os'.flatten) → (O ++ Os'.flatten).Nodup → (∀ a ∈ O, F' a = none) → RepM K F' H' v r O →
      Ok K F' H' ((sel fd.io vs).map some) (fs.map some) Os' → Q v H'

/-- the built-ins that the texts name -/
def bltNames : List Str := ["abs", "int", "len", "tuple", "list", "max", "min", "all", "any", "str", "range", "enumerate", "zip", "isinstance", "bool"]
structure Facts (P : Program) (w : World) (K : PySem.W.Frag) (mg : Str → Option Value) (base : Heap) (gn : List Str) (gv : Nat → D) (fns : List FnD) (fuel k : Nat) : Prop where
  fn : ∀ f fd, fns[f]? = some fd → ∃ (a : Addr) (fdt : FuncData), mg fd.name = some (.ref a) ∧ PySem.W.keepIn K (.ref a) = true ∧ Binds K fdt fd.ps [] ∧ FnOk P w K mg base CX0 k a fdt fd.ps (spF K gv fns fuel k f fd)
  blt : ∀ x, bltNames.contains x = true → mg x = none
  gl : ∀ j x, gn[j]? = some x → ∃ v u, mg x = some u ∧ RelV v u ∧ ∀ F, RepD K F v (gv j)

structure CtxOk (X : Cx) (gn : List Str) (gv : Nat → D) (fns : List FnD) (fuel k : Nat) : Prop where
  calm : X.calm = true
  nd : X.N.Nodup
  room : Room k X.A
  facts : Facts X.prog X.w X.K X.mg X.base gn gv fns fuel k
/-- the scope that is looked at, and the one that runs -/
structure ScOk (X : Cx) (sc : Scope) : Prop where
  kind : X.env.scope.kind = .function
  keep : ∀ x k, k ≠ .free → sc.names.lookup x = some k → X.env.scope.names.lookup x = some k
  free : ∀ x, sc.names.lookup x = some .free → X.env.scope.names.lookup x = some .cell ∨ X.env.scope.names.lookup x = some .free
  fn : ∀ x, sc.names.lookup x = some .cell → X.fn x = true
/-! ### the looks -/
structure CK where
  N : List Str
  gn : List Str
  fnn : List Str
def rdOk (C : CK) (sc : Scope) (i : Nat) (x : Str) : Bool :=
  decide (C.N[i]? = some x) && (match sc.names.lookup x with | some .local => true | some .cell => true | some .free => true | _ => false) && !(x == ("__debug__" : Str)) && !(x == ("__classdict__" : Str))
def wrOk (C : CK) (sc : Scope) (i : Nat) (x : Str) : Bool :=
  decide (C.N[i]? = some x) && (match sc.names.lookup x with | some .local => true | some .cell => true | _ => false)
def glOk (sc : Scope) (x : Str) : Bool := (match sc.names.lookup x with | some .globalImplicit => true | _ => false) && !(x == ("__debug__" : Str))
def bltOk (sc : Scope) (x y : Str) : Bool := decide (x = y) && glOk sc x && bltNames.contains x && !(x == ("__name__" : Str))
def bopIs : BOp → Operator → Bool
  | .add, .Add => true
  | .sub, .Sub => true
  | .mul, .Mult => true
  | .fdiv, .FloorDiv => true
  | .mod, .Mod => true
  | .pow, .Pow => true
  | _, _ => false
theorem bopIs_ok {a : BOp} {b : Operator} (h : bopIs a b = true) : b = bopPy a := by cases a <;> cases b <;> first | rfl | cases h
def copIs : COp → CmpOp → Bool
  | .eq, .Eq => true
  | .ne, .NotEq => true
  | .lt, .Lt => true
  | .le, .LtE => true
  | .gt, .Gt => true
  | .ge, .GtE => true
  | .isin, .In => true
  | .notin, .NotIn => true
  | _, _ => false
theorem copIs_ok {a : COp} {b : CmpOp} (h : copIs a b = true) : b = copPy a := by cases a <;> cases b <;> first | rfl | cases h
/-- no star, no slice, no display of a set: the plain expressions -/
def plainE : Expr → Bool
  | .Starred .. => false
  | .Slice .. => false
  | .Set .. => false
  | .Tuple .. => false
  | _ => true
def noStar : Expr → Bool
  | .Starred .. => false
  | _ => true
def noSet : Expr → Bool
  | .Set .. => false
  | _ => true
def noComp : Expr → Bool
  | .ListComp .. => false
  | .SetComp .. => false
  | .DictComp .. => false
  | _ => true
def tyIs (t : Ty) (x : Str) : Bool := decide (x = (tyT t : Str))
/-- whether a comprehension's store goes into its block -/
def swapB (sc : Scope) (scope : Scope) (cpos : Pos) (y : Str) (py : Pos) : Bool :=
  (match sc.names.lookup y with | some .local => true | _ => false) && (py.line == cpos.line) && !(scope.names.any fun (n, k) => n == y && (k == .local || k == .cell))
mutual
/-- may stand as a test -/
def tOk : E → Bool
  | .ite _ _ _ => false
  | .not a => tOk a
  | .bop _ es => tOks es
  | _ => true
def tOks : Es → Bool
  | .nil => true
  | .cons e r => tOk e && tOks r
end
mutual
def chkE (C : CK) : Scope → E → Expr → Bool
  | sc, .c z0, ex => match z0, ex with
    | .non, .Constant .none _ _ => true
    | (.bl b), .Constant (.bool b') _ _ => b == b'
    | (.int b), .Constant (.int b') _ _ => decide (b = b')
    | (.str b), .Constant (.str b') _ _ => decide (b = b')
    | _, _ => false
  | sc, .nm i, ex => match ex with
    | .Name x _ => rdOk C sc i x
    | _ => false
  | sc, .mv i, ex => match ex with
    | .Name x _ => rdOk C sc i x
    | _ => false
  | sc, .gl j, ex => match ex with
    | .Name x _ => decide (C.gn[j]? = some x) && glOk sc x
    | _ => false
  | sc, .bin op a b, ex => match ex with
    | .BinOp l o r _ => bopIs op o && chkO C sc a l && chkO C sc b r
    | _ => false
  | sc, .neg a, ex => match ex with
    | .UnaryOp .USub e _ => chkO C sc a e
    | _ => false
  | sc, .cmp op a b, ex => match ex with
    | .Compare l [o] [r] _ => copIs op o && chkO C sc a l && chkO C sc b r && noSet r
    | _ => false
  | sc, .isN a, ex => match ex with
    | .Compare l [.Is] [.Constant .none _ _] _ => chkO C sc a l
    | _ => false
  | sc, .notN a, ex => match ex with
    | .Compare l [.IsNot] [.Constant .none _ _] _ => chkO C sc a l
    | _ => false
  | sc, .bop z0 es, ex => match z0, ex with
    | true, .BoolOp .And vs _ => chkEs C sc es vs
    | false, .BoolOp .Or vs _ => chkEs C sc es vs
    | _, _ => false
  | sc, .not a, ex => match ex with
    | .UnaryOp .Not e _ => chkE C sc a e
    | _ => false
  | sc, .ite t a b, ex => match ex with
    | .IfExp c x y _ => tOk t && chkE C sc t c && chkE C sc a x && chkE C sc b y
    | _ => false
  | sc, .tup es, ex => match ex with
    | .Tuple xs _ _ => chkEs C sc es xs
    | _ => false
  | sc, .lst es, ex => match ex with
    | .List xs _ => chkEs C sc es xs
    | _ => false
  | sc, .idx a i, ex => match ex with
    | .Subscript o s _ => chkO C sc a o && chkO C sc i s && plainE s
    | _ => false
  | sc, .slc a lo hi, ex => match ex with
    | .Subscript o (.Slice l h none _) _ => chkO C sc a o && chkOo C sc lo l && chkOo C sc hi h
    | _ => false
  | sc, .call f as, ex => match ex with
    | .Call (.Name x _) es [] _ => decide (C.fnn[f]? = some x) && glOk sc x && chkAs C sc as es
    | _ => false
  | sc, .blt b os, ex => match ex with
    | .Call (.Name x _) es [] _ => bltOk sc x (bltN b) && chkOs C sc os es && !es.isEmpty
    | _ => false
  | sc, .isi a z1 z2, ex => match z1, z2, ex with
    | [t], false, .Call (.Name x _) [e, .Name y _] [] _ => bltOk sc x "isinstance" && chkO C sc a e && noStar e && bltOk sc y (tyT t)
    | ts, true, .Call (.Name x _) [e, .Tuple ys _ _] [] _ => bltOk sc x "isinstance" && chkO C sc a e && noStar e && chkTys sc ts ys && decide (ts.length ≤ 10)
    | _, _, _ => false
  | sc, .lrng z0 a z2, ex => match z0, z2, ex with
    | false, _, .Call (.Name x _) [.Call (.Name y _) [e] [] _] [] _ => bltOk sc x "list" && bltOk sc y "range" && chkO C sc a e && noStar e
    | true, b, .Call (.Name x _) [.Call (.Name y _) [e, g] [] _] [] _ => bltOk sc x "list" && bltOk sc y "range" && chkO C sc a e && noStar e && chkO C sc b g && noStar g
    | _, _, _ => false
  | sc, .lc own tg it cond elt, ex => match ex with
    | .ListComp x [⟨t, i, ifs, 0⟩] scope _ => blkC C.N sc scope own && chkTg C scope tg t && chkIt C sc it t i && noSet i && chkIfs C scope cond ifs && chkE C scope elt x && (tgSl tg).all (fun j => (own.map (·.2)).contains j)
    | _ => false
def chkTys : Scope → List Ty → List Expr → Bool
  | _, [], [] => true
  | sc, t :: ts, .Name y _ :: ys => bltOk sc y (tyT t) && chkTys sc ts ys
  | _, _, _ => false
def chkIfs (C : CK) : Scope → Eo → List Expr → Bool
  | _, .none, [] => true
  | sc, .some e, [x] => tOk e && chkE C sc e x
  | _, _, _ => false
def chkO (C : CK) : Scope → O → Expr → Bool
  | sc, .e a, x => chkE C sc a x
  | sc, .s i, .Name x _ => rdOk C sc i x
  | _, _, _ => false
def chkEs (C : CK) : Scope → Es → List Expr → Bool
  | _, .nil, [] => true
  | sc, .cons e r, x :: xs => chkE C sc e x && noStar x && chkEs C sc r xs
  | _, _, _ => false
def chkOs (C : CK) : Scope → Os → List Expr → Bool
  | _, .nil, [] => true
  | sc, .cons e r, x :: xs => chkO C sc e x && noStar x && chkOs C sc r xs
  | _, _, _ => false
def chkOo (C : CK) : Scope → Oo → Option Expr → Bool
  | _, .none, none => true
  | sc, .some o, some x => chkO C sc o x
  | _, _, _ => false
def chkAs (C : CK) : Scope → As → List Expr → Bool
  | _, .nil, [] => true
  | sc, .v e r, x :: xs => chkE C sc e x && noStar x && chkAs C sc r xs
  | sc, .io i r, .Name x _ :: xs => rdOk C sc i x && chkAs C sc r xs
  | sc, .t e, [x] => chkE C sc e x && noStar x
  | _, _, _ => false
def chkTg (C : CK) : Scope → Tg → Expr → Bool
  | sc, .nm i, .Name x _ => wrOk C sc i x
  | sc, .tup ts, .Tuple xs _ _ => chkTgs C sc ts xs
  | _, _, _ => false
def chkTgs (C : CK) : Scope → Tgs → List Expr → Bool
  | _, .nil, [] => true
  | sc, .cons t r, x :: xs => chkTg C sc t x && noStar x && chkTgs C sc r xs
  | _, _, _ => false
/-- what a for walks; the target too (a tuple where tuples are made) -/
def chkIt (C : CK) : Scope → It → Expr → Expr → Bool
  | sc, .lst o, _, x => chkO C sc o x
  | sc, .tup o, _, x => chkO C sc o x
  | sc, .rng1 a, _, ex => match ex with
    | .Call (.Name x _) [e] [] _ => bltOk sc x "range" && chkO C sc a e && noStar e
    | _ => false
  | sc, .rng2 a b, _, ex => match ex with
    | .Call (.Name x _) [e, g] [] _ => bltOk sc x "range" && chkO C sc a e && noStar e && chkO C sc b g && noStar g
    | _ => false
  | sc, .enum o, tg, ex => match tg, ex with
    | .Tuple _ _ _, .Call (.Name x _) [e] [] _ => bltOk sc x "enumerate" && chkO C sc o e && noStar e
    | _, _ => false
  | sc, .zip a b, tg, ex => match tg, ex with
    | .Tuple _ _ _, .Call (.Name x _) [e, g] [] _ => bltOk sc x "zip" && chkO C sc a e && noStar e && chkO C sc b g && noStar g
    | _, _ => false
end
mutual
def chkS (C : CK) : Scope → S → Stmt → Bool
  | sc, .set i _ e, ex => match ex with
    | .Assign [.Name y py] v _ => wrOk C sc i y && chkE C sc e v && (match v with
      | .ListComp _ _ scope cpos => !swapB sc scope cpos y py
      | x => noComp x)
    | _ => false
  | sc, .setLc i _ e, ex => match ex with
    | .Assign [.Name y py] v _ => wrOk C sc i y && chkE C sc e v && (match v with
      | .ListComp _ _ scope cpos => swapB sc scope cpos y py
      | _ => false)
    | _ => false
  | sc, .unp ts e, ex => match ex with
    | .Assign [.Tuple xs _ _] v _ => chkTgs C sc ts xs && chkE C sc e v && noComp v && (match v with
      | .Tuple .. => false
      | _ => true)
    | _ => false
  | sc, .par2 i j _ _ a b, ex => match ex with
    | .Assign [.Tuple [.Name x px, .Name y py] _ _] (.Tuple [v, u] _ _) _ => wrOk C sc i x && wrOk C sc j y && decide (sc.names.lookup x = some .local) && decide (sc.names.lookup y = some .local) && decide (i ≠ j) && chkE C sc a v && chkE C sc b u && noStar v && noStar u &&
      px.line == py.line && !(foldedForSure 8 v && foldedForSure 8 u) && !(constantsAlone 8 v && constantsAlone 8 u) && !(x == y)
    | _ => false
  | sc, .sub i ix e, ex => match ex with
    | .Assign [.Subscript (.Name x _) s _] v _ => rdOk C sc i x && chkE C sc ix s && chkE C sc e v && plainE s && noComp v
    | _ => false
  | sc, .aug i op e, ex => match ex with
    | .AugAssign (.Name x _) o v _ => wrOk C sc i x && bopIs op o && (match op with | .add => true | .sub => true | _ => false) && chkE C sc e v
    | _ => false
  | sc, .app i e, ex => match ex with
    | .Expr (.Call (.Attribute (.Name x _) m ap) [v] [] cp) _ => rdOk C sc i x && decide (m = ("append" : Str)) && chkE C sc e v && noStar v && ap.endLine == cp.line
    | _ => false
  | sc, .ext i e, ex => match ex with
    | .Expr (.Call (.Attribute (.Name x _) m ap) [v] [] cp) _ => rdOk C sc i x && decide (m = ("extend" : Str)) && chkE C sc e v && noStar v && ap.endLine == cp.line
    | _ => false
  | sc, .ex e, ex => match ex with
    | .Expr v _ => chkE C sc e v && noComp v
    | _ => false
  | sc, .ret e, ex => match ex with
    | .Return (some v) _ => chkE C sc e v
    | .Return none _ => (match e with | .c .non => true | _ => false)
    | _ => false
  | sc, .iff t a b, ex => match ex with
    | .If c x y _ => tOk t && chkE C sc t c && chkSs C sc a x && chkSs C sc b y
    | _ => false
  | sc, .whl t b, ex => match ex with
    | .While c x [] _ => tOk t && chkE C sc t c && chkSs C sc b x
    | _ => false
  | sc, .for_ tg it b, ex => match ex with
    | .For t i x [] _ => chkTg C sc tg t && chkIt C sc it t i && noSet i && chkSs C sc b x
    | _ => false
  | _, .pass, ex => match ex with
    | .Pass _ => true
    | .Expr (.Constant (.str _) _ _) _ => true
    | _ => false
  | _, .cont, ex => match ex with
    | .Continue _ => true
    | _ => false
  | _, .brk, ex => match ex with
    | .Break _ => true
    | _ => false
  | sc, .par3 i j k _ _ _ a b c, ex => match ex with
    | .Assign [.Tuple [.Name x px, .Name y py, .Name z pz] _ _] (.Tuple [v, u, t] _ _) _ => wrOk C sc i x && wrOk C sc j y && wrOk C sc k z && decide (sc.names.lookup x = some .local) && decide (sc.names.lookup y = some .local) && decide (sc.names.lookup z = some .local) && decide (i ≠ j) && decide (i ≠ k) && decide (j ≠ k) &&
      chkE C sc a v && chkE C sc b u && chkE C sc c t && noStar v && noStar u && noStar t &&
      px.line == py.line && pz.line == px.line && !(foldedForSure 8 v && foldedForSure 8 u && foldedForSure 8 t) && !(constantsAlone 8 v && constantsAlone 8 u && constantsAlone 8 t) && !(x == y) && !(x == z) && !(y == z)
    | _ => false
def chkSs (C : CK) : Scope → Ss → List Stmt → Bool
  | _, .nil, [] => true
  | sc, .cons s r, x :: xs => chkS C sc s x && chkSs C sc r xs
  | _, _, _ => false
end
end IL
set_option Elab.async false
set_option linter.all false
set_option maxRecDepth 100000
set_option maxHeartbeats 4000000
/-! the looks, read back -/
namespace IL
open PySem PySem.Spec PyProof.Rows L2
section
variable {C : CK} {sc : Scope} {ex : Expr}
theorem i_c {d : D} (h : chkE C sc (.c d) ex = true) : (d = .non ∧ ∃ j p, ex = .Constant .none j p) ∨ (∃ b j p, d = .bl b ∧ ex = .Constant (.bool b) j p) ∨ (∃ b j p, d = .int b ∧ ex = .Constant (.int b) j p) ∨ (∃ b j p, d = .str b ∧ ex = .Constant (.str b) j p) := by
  unfold chkE at h
  split at h
  · exact .inl ⟨rfl, _, _, rfl⟩
  · rw [eq_of_beq h]; exact .inr (.inl ⟨_, _, _, rfl, rfl⟩)
  · rw [of_decide_eq_true h]; exact .inr (.inr (.inl ⟨_, _, _, rfl, rfl⟩))
  · rw [of_decide_eq_true h]; exact .inr (.inr (.inr ⟨_, _, _, rfl, rfl⟩))
  · cases h
theorem i_nm {i : Nat} (h : chkE C sc (.nm i) ex = true) : ∃ x p, ex = .Name x p ∧ rdOk C sc i x = true := by
  unfold chkE at h
  split at h
  · exact ⟨_, _, rfl, h⟩
  · cases h
theorem i_mv {i : Nat} (h : chkE C sc (.mv i) ex = true) : ∃ x p, ex = .Name x p ∧ rdOk C sc i x = true := by
  unfold chkE at h
  split at h
  · exact ⟨_, _, rfl, h⟩
  · cases h
theorem i_gl {i : Nat} (h : chkE C sc (.gl i) ex = true) : ∃ x p, ex = .Name x p ∧ C.gn[i]? = some x ∧ glOk sc x = true := by
  unfold chkE at h
  split at h
  · simp only [Bool.and_eq_true, decide_eq_true_eq] at h; exact ⟨_, _, rfl, h.1, h.2⟩
  · cases h
theorem i_bin {op : BOp} {a b : O} (h : chkE C sc (.bin op a b) ex = true) : ∃ l r p, ex = .BinOp l (bopPy op) r p ∧ chkO C sc a l = true ∧ chkO C sc b r = true := by
  unfold chkE at h
  split at h
  · simp only [Bool.and_eq_true] at h
    rw [bopIs_ok h.1.1]
    exact ⟨_, _, _, rfl, h.1.2, h.2⟩
  · cases h
theorem i_neg {a : O} (h : chkE C sc (.neg a) ex = true) : ∃ l p, ex = .UnaryOp .USub l p ∧ chkO C sc a l = true := by
  unfold chkE at h
  split at h
  · exact ⟨_, _, rfl, h⟩
  · cases h
theorem i_cmp {op : COp} {a b : O} (h : chkE C sc (.cmp op a b) ex = true) : ∃ l r p, ex = .Compare l [copPy op] [r] p ∧ chkO C sc a l = true ∧ chkO C sc b r = true ∧ noSet r = true := by
  unfold chkE at h
  split at h
  · simp only [Bool.and_eq_true] at h
    rw [copIs_ok h.1.1.1]
    exact ⟨_, _, _, rfl, h.1.1.2, h.1.2, h.2⟩
  · cases h
theorem i_isN {a : O} (h : chkE C sc (.isN a) ex = true) : ∃ l j q p, ex = .Compare l [.Is] [.Constant .none j q] p ∧ chkO C sc a l = true := by
  unfold chkE at h
  split at h
  · exact ⟨_, _, _, _, rfl, h⟩
  · cases h
theorem i_notN {a : O} (h : chkE C sc (.notN a) ex = true) : ∃ l j q p, ex = .Compare l [.IsNot] [.Constant .none j q] p ∧ chkO C sc a l = true := by
  unfold chkE at h
  split at h
  · exact ⟨_, _, _, _, rfl, h⟩
  · cases h
theorem i_bop {b : Bool} {es : Es} (h : chkE C sc (.bop b es) ex = true) : ∃ vs p, ex = .BoolOp (if b = true then .And else .Or) vs p ∧ chkEs C sc es vs = true := by
  unfold chkE at h
  split at h
  · exact ⟨_, _, rfl, h⟩
  · exact ⟨_, _, rfl, h⟩
  · cases h
theorem i_not {a : E} (h : chkE C sc (.not a) ex = true) : ∃ l p, ex = .UnaryOp .Not l p ∧ chkE C sc a l = true := by
  unfold chkE at h
  split at h
  · exact ⟨_, _, rfl, h⟩
  · cases h
theorem i_ite {t a b : E} (h : chkE C sc (.ite t a b) ex = true) : ∃ c x y p, ex = .IfExp c x y p ∧ tOk t = true ∧ chkE C sc t c = true ∧ chkE C sc a x = true ∧ chkE C sc b y = true := by
  unfold chkE at h
  split at h
  · simp only [Bool.and_eq_true] at h; exact ⟨_, _, _, _, rfl, h.1.1.1, h.1.1.2, h.1.2, h.2⟩
  · cases h
theorem i_tup {es : Es} (h : chkE C sc (.tup es) ex = true) : ∃ xs n p, ex = .Tuple xs n p ∧ chkEs C sc es xs = true := by
  unfold chkE at h
  split at h
  · exact ⟨_, _, _, rfl, h⟩
  · cases h
theorem i_lst {es : Es} (h : chkE C sc (.lst es) ex = true) : ∃ xs p, ex = .List xs p ∧ chkEs C sc es xs = true := by
  unfold chkE at h
  split at h
  · exact ⟨_, _, rfl, h⟩
  · cases h
theorem i_idx {a b : O} (h : chkE C sc (.idx a b) ex = true) : ∃ l r p, ex = .Subscript l r p ∧ chkO C sc a l = true ∧ chkO C sc b r = true ∧ plainE r = true := by
  unfold chkE at h
  split at h
  · simp only [Bool.and_eq_true] at h; exact ⟨_, _, _, rfl, h.1.1, h.1.2, h.2⟩
  · cases h
theorem i_slc {a : O} {lo hi : Oo} (h : chkE C sc (.slc a lo hi) ex = true) : ∃ o l u p2 p, ex = .Subscript o (.Slice l u none p2) p ∧ chkO C sc a o = true ∧ chkOo C sc lo l = true ∧ chkOo C sc hi u = true := by
  unfold chkE at h
  split at h
  · simp only [Bool.and_eq_true] at h; exact ⟨_, _, _, _, _, rfl, h.1.1, h.1.2, h.2⟩
  · cases h
theorem i_call {f : Nat} {as : As} (h : chkE C sc (.call f as) ex = true) : ∃ x p es p2, ex = .Call (.Name x p) es [] p2 ∧ C.fnn[f]? = some x ∧ glOk sc x = true ∧ chkAs C sc as es = true := by
  unfold chkE at h
  split at h
  · simp only [Bool.and_eq_true, decide_eq_true_eq] at h; exact ⟨_, _, _, _, rfl, h.1.1, h.1.2, h.2⟩
  · cases h
theorem i_blt {b : Blt} {os : Os} (h : chkE C sc (.blt b os) ex = true) : ∃ x p es p2, ex = .Call (.Name x p) es [] p2 ∧ bltOk sc x (bltN b) = true ∧ chkOs C sc os es = true ∧ es ≠ [] := by
  unfold chkE at h
  split at h
  · simp only [Bool.and_eq_true] at h; exact ⟨_, _, _, _, rfl, h.1.1, h.1.2, fun z => by subst z; cases h.2⟩
  · cases h
theorem i_isi {a : O} {ts : List Ty} {b : Bool} (h : chkE C sc (.isi a ts b) ex = true) : (∃ t x p e y q p2, ts = [t] ∧ b = false ∧ ex = .Call (.Name x p) [e, .Name y q] [] p2 ∧ bltOk sc x "isinstance" = true ∧ chkO C sc a e = true ∧ noStar e = true ∧ bltOk sc y (tyT t) = true) ∨
    (∃ x p e ys n q p2, b = true ∧ ex = .Call (.Name x p) [e, .Tuple ys n q] [] p2 ∧ bltOk sc x "isinstance" = true ∧ chkO C sc a e = true ∧ noStar e = true ∧ chkTys sc ts ys = true ∧ ts.length ≤ 10) := by
  unfold chkE at h
  split at h
  · simp only [Bool.and_eq_true] at h; exact .inl ⟨_, _, _, _, _, _, _, rfl, rfl, rfl, h.1.1.1, h.1.1.2, h.1.2, h.2⟩
  · simp only [Bool.and_eq_true, decide_eq_true_eq] at h; exact .inr ⟨_, _, _, _, _, _, _, rfl, rfl, h.1.1.1.1, h.1.1.1.2, h.1.1.2, h.1.2, h.2⟩
  · cases h
theorem i_lrng {two : Bool} {a b : O} (h : chkE C sc (.lrng two a b) ex = true) : (∃ x p y q e r p2, two = false ∧ ex = .Call (.Name x p) [.Call (.Name y q) [e] [] r] [] p2 ∧ bltOk sc x "list" = true ∧ bltOk sc y "range" = true ∧ chkO C sc a e = true ∧ noStar e = true) ∨
    (∃ x p y q e g r p2, two = true ∧ ex = .Call (.Name x p) [.Call (.Name y q) [e, g] [] r] [] p2 ∧ bltOk sc x "list" = true ∧ bltOk sc y "range" = true ∧ chkO C sc a e = true ∧ noStar e = true ∧ chkO C sc b g = true ∧ noStar g = true) := by
  unfold chkE at h
  split at h
  · simp only [Bool.and_eq_true] at h; exact .inl ⟨_, _, _, _, _, _, _, rfl, rfl, h.1.1.1, h.1.1.2, h.1.2, h.2⟩
  · simp only [Bool.and_eq_true] at h; exact .inr ⟨_, _, _, _, _, _, _, _, rfl, rfl, h.1.1.1.1.1, h.1.1.1.1.2, h.1.1.1.2, h.1.1.2, h.1.2, h.2⟩
  · cases h
theorem i_lc {own : List (Str × Nat)} {tg : Tg} {it : It} {cond : Eo} {elt : E} (h : chkE C sc (.lc own tg it cond elt) ex = true) : ∃ x t i ifs scope p, ex = .ListComp x [⟨t, i, ifs, 0⟩] scope p ∧ blkC C.N sc scope own = true ∧ chkTg C scope tg t = true ∧ chkIt C sc it t i = true ∧ noSet i = true ∧ chkIfs C scope cond ifs = true ∧ chkE C scope elt x = true ∧ (tgSl tg).all (fun j => (own.map (·.2)).contains j) = true := by
  unfold chkE at h
  split at h
  · simp only [Bool.and_eq_true] at h; exact ⟨_, _, _, _, _, _, rfl, h.1.1.1.1.1.1, h.1.1.1.1.1.2, h.1.1.1.1.2, h.1.1.1.2, h.1.1.2, h.1.2, h.2⟩
  · cases h
theorem i_C0 {ifs : List Expr} (h : chkIfs C sc .none ifs = true) : ifs = [] := by
  unfold chkIfs at h
  split at h <;> first | rfl | cases h | contradiction
theorem i_C1 {e : E} {ifs : List Expr} (h : chkIfs C sc (.some e) ifs = true) : ∃ x, ifs = [x] ∧ tOk e = true ∧ chkE C sc e x = true := by
  cases ifs with
  | nil => unfold chkIfs at h; cases h
  | cons x r => cases r with
    | nil => unfold chkIfs at h; simp only [Bool.and_eq_true] at h; exact ⟨x, rfl, h.1, h.2⟩
    | cons _ _ => unfold chkIfs at h; cases h
theorem i_Oe {a : E} (h : chkO C sc (.e a) ex = true) : chkE C sc a ex = true := by
  unfold chkO at h
  exact h
theorem i_Os {i : Nat} (h : chkO C sc (.s i) ex = true) : ∃ x p, ex = .Name x p ∧ rdOk C sc i x = true := by
  cases ex with
  | Name x p => unfold chkO at h; exact ⟨_, _, rfl, h⟩
  | _ => unfold chkO at h; cases h
theorem i_Oo0 {x : Option Expr} (h : chkOo C sc .none x = true) : x = none := by
  cases x with
  | none => rfl
  | some _ => unfold chkOo at h; cases h
theorem i_Oo1 {o : O} {x : Option Expr} (h : chkOo C sc (.some o) x = true) : ∃ y, x = some y ∧ chkO C sc o y = true := by
  cases x with
  | none => unfold chkOo at h; cases h
  | some y => unfold chkOo at h; exact ⟨y, rfl, h⟩
theorem i_Es0 {xs : List Expr} (h : chkEs C sc .nil xs = true) : xs = [] := by
  cases xs with
  | nil => rfl
  | cons _ _ => unfold chkEs at h; cases h
theorem i_Es1 {e : E} {r : Es} {xs : List Expr} (h : chkEs C sc (.cons e r) xs = true) : ∃ y ys, xs = y :: ys ∧ chkE C sc e y = true ∧ noStar y = true ∧ chkEs C sc r ys = true := by
  cases xs with
  | nil => unfold chkEs at h; cases h
  | cons y ys => unfold chkEs at h; simp only [Bool.and_eq_true] at h; exact ⟨y, ys, rfl, h.1.1, h.1.2, h.2⟩
theorem i_Os0 {xs : List Expr} (h : chkOs C sc .nil xs = true) : xs = [] := by
  cases xs with
  | nil => rfl
  | cons _ _ => unfold chkOs at h; cases h
theorem i_Os1 {e : O} {r : Os} {xs : List Expr} (h : chkOs C sc (.cons e r) xs = true) : ∃ y ys, xs = y :: ys ∧ chkO C sc e y = true ∧ noStar y = true ∧ chkOs C sc r ys = true := by
  cases xs with
  | nil => unfold chkOs at h; cases h
  | cons y ys => unfold chkOs at h; simp only [Bool.and_eq_true] at h; exact ⟨y, ys, rfl, h.1.1, h.1.2, h.2⟩
theorem i_As0 {xs : List Expr} (h : chkAs C sc .nil xs = true) : xs = [] := by
  cases xs with
  | nil => rfl
  | cons _ _ => unfold chkAs at h; cases h
theorem i_Asv {e : E} {r : As} {xs : List Expr} (h : chkAs C sc (.v e r) xs = true) : ∃ y ys, xs = y :: ys ∧ chkE C sc e y = true ∧ noStar y = true ∧ chkAs C sc r ys = true := by
  cases xs with
  | nil => unfold chkAs at h; cases h
  | cons y ys => unfold chkAs at h; simp only [Bool.and_eq_true] at h; exact ⟨y, ys, rfl, h.1.1, h.1.2, h.2⟩
theorem i_Asio {i : Nat} {r : As} {xs : List Expr} (h : chkAs C sc (.io i r) xs = true) : ∃ x p ys, xs = .Name x p :: ys ∧ rdOk C sc i x = true ∧ chkAs C sc r ys = true := by
  cases xs with
  | nil => unfold chkAs at h; cases h
  | cons y ys => cases y with
    | Name x p => unfold chkAs at h; simp only [Bool.and_eq_true] at h; exact ⟨x, p, ys, rfl, h.1, h.2⟩
    | _ => unfold chkAs at h; cases h
theorem i_Ast {e : E} {xs : List Expr} (h : chkAs C sc (.t e) xs = true) : ∃ x, xs = [x] ∧ chkE C sc e x = true ∧ noStar x = true := by
  cases xs with
  | nil => unfold chkAs at h; cases h
  | cons y ys => cases ys with
    | nil => unfold chkAs at h; simp only [Bool.and_eq_true] at h; exact ⟨y, rfl, h.1, h.2⟩
    | cons _ _ => unfold chkAs at h; cases h
theorem i_Il {o : O} {tg : Expr} (h : chkIt C sc (.lst o) tg ex = true) : chkO C sc o ex = true := by
  unfold chkIt at h
  exact h
theorem i_It {o : O} {tg : Expr} (h : chkIt C sc (.tup o) tg ex = true) : chkO C sc o ex = true := by
  unfold chkIt at h
  exact h
theorem i_I1 {a : O} {tg : Expr} (h : chkIt C sc (.rng1 a) tg ex = true) : ∃ x p e p2, ex = .Call (.Name x p) [e] [] p2 ∧ bltOk sc x "range" = true ∧ chkO C sc a e = true ∧ noStar e = true := by
  unfold chkIt at h
  split at h
  · simp only [Bool.and_eq_true] at h; exact ⟨_, _, _, _, rfl, h.1.1, h.1.2, h.2⟩
  · cases h
theorem i_I2 {a b : O} {tg : Expr} (h : chkIt C sc (.rng2 a b) tg ex = true) : ∃ x p e g p2, ex = .Call (.Name x p) [e, g] [] p2 ∧ bltOk sc x "range" = true ∧ chkO C sc a e = true ∧ noStar e = true ∧ chkO C sc b g = true ∧ noStar g = true := by
  unfold chkIt at h
  split at h
  · simp only [Bool.and_eq_true] at h; exact ⟨_, _, _, _, _, rfl, h.1.1.1.1, h.1.1.1.2, h.1.1.2, h.1.2, h.2⟩
  · cases h
theorem i_Ie {a : O} {tg : Expr} (h : chkIt C sc (.enum a) tg ex = true) : ∃ ts n tp x p e p2, tg = .Tuple ts n tp ∧ ex = .Call (.Name x p) [e] [] p2 ∧ bltOk sc x "enumerate" = true ∧ chkO C sc a e = true ∧ noStar e = true := by
  unfold chkIt at h
  split at h
  · simp only [Bool.and_eq_true] at h; exact ⟨_, _, _, _, _, _, _, rfl, rfl, h.1.1, h.1.2, h.2⟩
  · cases h
theorem i_Iz {a b : O} {tg : Expr} (h : chkIt C sc (.zip a b) tg ex = true) : ∃ ts n tp x p e g p2, tg = .Tuple ts n tp ∧ ex = .Call (.Name x p) [e, g] [] p2 ∧ bltOk sc x "zip" = true ∧ chkO C sc a e = true ∧ noStar e = true ∧ chkO C sc b g = true ∧ noStar g = true := by
  unfold chkIt at h
  split at h
  · simp only [Bool.and_eq_true] at h; exact ⟨_, _, _, _, _, _, _, _, rfl, rfl, h.1.1.1.1, h.1.1.1.2, h.1.1.2, h.1.2, h.2⟩
  · cases h
end
end IL
set_option Elab.async false
set_option linter.all false
set_option maxRecDepth 100000
set_option maxHeartbeats 4000000
/-! readings of the small language, and how they are joined -/
namespace IL
open PySem PySem.Spec PyProof.Rows L2

theorem peW {X : Cx} {e : Expr} {t t' : TE} (h : PE X e t) (w : ∀ σ H Q, t' σ H Q → t σ H Q) : PE X e t' := ⟨fun pins s σ H Q I hq => h.run pins s σ H Q I (w σ H Q hq)⟩
theorem ptW {X : Cx} {e : Expr} {t t' : TT} (h : PT X e t) (w : ∀ σ H Q, t' σ H Q → t σ H Q) : PT X e t' := ⟨fun pins s σ H Q I hq => h.run pins s σ H Q I (w σ H Q hq)⟩
theorem paW {X : Cx} {e : List Expr} {t t' : TA} (h : PA X e t) (w : ∀ σ H Q, t' σ H Q → t σ H Q) : PA X e t' := ⟨fun pos pins s σ H Q I hq => h.run pos pins s σ H Q I (w σ H Q hq)⟩
theorem psW {X : Cx} {e : Stmt} {t t' : TS} (h : PS X e t) (w : ∀ D σ H, t' D σ H → t D σ H) : PS X e t' := ⟨fun pins s σ H D I hq => h.run pins s σ H D I (w D σ H hq)⟩
theorem pssW {X : Cx} {e : List Stmt} {t t' : TS} (h : PSs X e t) (w : ∀ D σ H, t' D σ H → t D σ H) : PSs X e t' := ⟨fun pins s σ H D I hq => h.run pins s σ H D I (w D σ H hq)⟩

section
variable (K : PySem.W.Frag)
def tM (ev : Env → Option (M × Env)) : TE := fun σ H Q => ∃ F env Os, Ok K F H σ env Os ∧ ∃ m e1, ev env = some (m, e1) ∧
  ∀ v F' H' O Os', Ok K F' H' σ e1 Os' → Tr F H Os.flatten F' H' (O ++ Os'.flatten) → (O ++ Os'.flatten).Nodup → (∀ a ∈ O, F' a = none) → RepM K F' H' v m O → Q v H'
def tD (ev : Env → Option (D × Env)) : TE := fun σ H Q => ∃ F env Os, Ok K F H σ env Os ∧ ∃ d e1, ev env = some (d, e1) ∧
  ∀ v F' H' Os', Ok K F' H' σ e1 Os' → Tr F H Os.flatten F' H' Os'.flatten → RepD K F' v d → Q v H'
def tT (ev : Env → Option (D × Env)) : TT := fun σ H Q => ∃ F env Os, Ok K F H σ env Os ∧ ∃ b e1, ev env = some (.bl b, e1) ∧
  ∀ F' H' Os', Ok K F' H' σ e1 Os' → Tr F H Os.flatten F' H' Os'.flatten → Q b H'
def OVok (F : Hp) (σ : L2.St) (v : V) : OV → Prop
  | .d d => RepD K F v d
  | .s i => σ[i]? = some (some v)
def tOv (ev : Env → Option (OV × Env)) : TE := fun σ H Q => ∃ F env Os, Ok K F H σ env Os ∧ ∃ x e1, ev env = some (x, e1) ∧
  ∀ v F' H' Os', Ok K F' H' σ e1 Os' → Tr F H Os.flatten F' H' Os'.flatten → OVok K F' σ v x → Q v H'
inductive OVsok (F : Hp) (σ : L2.St) : List V → List OV → Prop
  | nil : OVsok F σ [] []
  | cons {v : V} {x : OV} {vs : List V} {xs : List OV} : OVok K F σ v x → OVsok F σ vs xs → OVsok F σ (v :: vs) (x :: xs)
def tOvs (ev : Env → Option (List OV × Env)) : TA := fun σ H Q => ∃ F env Os, Ok K F H σ env Os ∧ ∃ xs e1, ev env = some (xs, e1) ∧
  ∀ vs F' H' Os', Ok K F' H' σ e1 Os' → Tr F H Os.flatten F' H' Os'.flatten → OVsok K F' σ vs xs → Q vs H'
def tDs (ev : Env → Option (List D × Env)) : TA := fun σ H Q => ∃ F env Os, Ok K F H σ env Os ∧ ∃ ds e1, ev env = some (ds, e1) ∧
  ∀ vs F' H' Os', Ok K F' H' σ e1 Os' → Tr F H Os.flatten F' H' Os'.flatten → RepDs K F' vs ds → Q vs H'
end
section
variable {K : PySem.W.Frag} {F F' H H' : Hp} {σ : L2.St} {env : Env} {Os : List (List Addr)}
theorem OVok.mono (e : Same F F') {v : V} {x : OV} (h : OVok K F σ v x) : OVok K F' σ v x := by
  cases x with
  | d d => exact RepD.mono e h
  | s i => exact h
theorem OVsok.mono (e : Same F F') : ∀ {v : List V} {x : List OV}, OVsok K F σ v x → OVsok K F' σ v x
  | _, _, .nil => .nil
  | _, _, .cons h t => .cons (h.mono e) (OVsok.mono e t)
theorem RepM.view {v : V} {m : M} {O : List Addr} (h : RepM K F H v m O) : View K F H v m.d := by
  cases h with
  | val r => exact .d r
  | lst h r => exact .l h r
  | dic h r => exact .k h r
theorem OVok.view (ok : Ok K F H σ env Os) {v : V} {x : OV} {d : D} (h : OVok K F σ v x) (e : ovD env x = some d) : View K F H v d := by
  cases x with
  | d d' => simp [ovD] at e; subst e; exact .d h
  | s i =>
    simp only [ovD] at e
    split at e
    · rename_i m hm
      cases e
      obtain ⟨v', O, h1, _, h3⟩ := ok.sl.get hm
      have : v' = v := by
        have h : σ[i]? = some (some v) := h
        rw [h1] at h; simpa using h
      subst this
      exact h3.view
    · cases e
theorem OVsok.views (ok : Ok K F H σ env Os) : ∀ {v : List V} {x : List OV} {d : List D}, OVsok K F σ v x → ovDs env x = some d → Views K F H v d
  | _, _, d, .nil, e => by simp [ovDs] at e; subst e; exact .nil
  | _, _, d, .cons h t, e => by
    simp only [ovDs] at e
    split at e
    · rename_i d1 ds1 h1 h2
      cases e
      exact .cons (h.view ok h1) (OVsok.views ok t h2)
    · cases e
theorem same_le {F H : Hp} (h : Same F H) {a : Addr} (hn : H a = none) : F a = none := by
  cases q : F a with
  | none => rfl
  | some o => rw [h a o q] at hn; cases hn
/-- an operation's outcome: the state goes on -/
theorem Ok.rs (ok : Ok K F H σ env Os) {m : M} {v : V} (h : Rs K F H m v H') : ∃ F' O, Ok K F' H' σ env Os ∧ Tr F H Os.flatten F' H' (O ++ Os.flatten) ∧ (O ++ Os.flatten).Nodup ∧ (∀ a ∈ O, F' a = none) ∧ RepM K F' H' v m O := by
  have dom := ok.sl.dom
  cases m with
  | val d =>
    obtain ⟨F', h1, h2, h3, h4, h5⟩ := h
    refine ⟨F', [], ⟨h2, ok.nd, fun a ha => ?_, ok.sl.mono h1 fun a _ o e => h3 a o e⟩, ⟨h1, fun a o e _ => h3 a o e, fun a ha => .inl (by simpa using ha), fun a ha => (h4 a ha).imp id .inr, fun a ha => ?_⟩, by simpa using ok.nd, fun a ha => (nomatch ha), .val h5⟩
    · cases q : F' a with
      | none => rfl
      | some o =>
        rcases h4 a (by rw [q]; exact fun z => nomatch z) with z | z
        · exact absurd (ok.dj a ha) z
        · exact absurd z (dom a ha)
    · cases q : H a with
      | none => rfl
      | some o => rw [h3 a o q] at ha; cases ha
  | lst ds =>
    obtain ⟨a, vs, rfl, h1, rfl, h2⟩ := h
    have s := same_new (o := HO.lst vs) h1
    have na : a ∉ Os.flatten := fun z => dom a z h1
    refine ⟨F, [a], ⟨ok.le.trans s, ok.nd, ok.dj, ok.sl.mono (Same.refl F) fun b _ o e => s b o e⟩, ⟨Same.refl F, fun b o e _ => s b o e, fun b hb => ?_, fun b hb => .inl hb, fun b hb => ?_⟩, ?_, fun b hb => ?_, .lst upd_same h2⟩
    · rcases List.mem_append.mp hb with z | z
      · rw [List.mem_singleton.mp z]; exact .inr h1
      · exact .inl z
    · cases q : H b with
      | none => rfl
      | some o => rw [s b o q] at hb; cases hb
    · rw [List.singleton_append]; exact List.nodup_cons.mpr ⟨na, ok.nd⟩
    · rw [List.mem_singleton.mp hb]; exact same_le ok.le h1
  | dic ds =>
    obtain ⟨a, vs, rfl, h1, rfl, h2⟩ := h
    have s := same_new (o := HO.dK vs) h1
    have na : a ∉ Os.flatten := fun z => dom a z h1
    refine ⟨F, [a], ⟨ok.le.trans s, ok.nd, ok.dj, ok.sl.mono (Same.refl F) fun b _ o e => s b o e⟩, ⟨Same.refl F, fun b o e _ => s b o e, fun b hb => ?_, fun b hb => .inl hb, fun b hb => ?_⟩, ?_, fun b hb => ?_, .dic upd_same h2⟩
    · rcases List.mem_append.mp hb with z | z
      · rw [List.mem_singleton.mp z]; exact .inr h1
      · exact .inl z
    · cases q : H b with
      | none => rfl
      | some o => rw [s b o q] at hb; cases hb
    · rw [List.singleton_append]; exact List.nodup_cons.mpr ⟨na, ok.nd⟩
    · rw [List.mem_singleton.mp hb]; exact same_le ok.le h1
/-- what is owned and new is frozen -/
theorem Ok.fzTr {F0 H0 : Hp} {O0 O : List Addr} (ok : Ok K F H σ env Os) (tr : Tr F0 H0 O0 F H (O ++ Os.flatten)) (nd : (O ++ Os.flatten).Nodup) (dj : ∀ a ∈ O, F a = none) : Ok K (fz F H O) H σ env Os ∧ Tr F0 H0 O0 (fz F H O) H Os.flatten := by
  have ap : ∀ a ∈ O, a ∉ Os.flatten := fun a h1 h2 => (List.nodup_append.mp nd).2.2 a h1 a h2 rfl
  refine ⟨ok.freeze dj ap, tr.ff.trans (fz_same dj), tr.fr, fun a ha => tr.nw a (List.mem_append_right _ ha), fun a ha => ?_, tr.dm⟩
  by_cases h : a ∈ O
  · exact .inr (tr.nw a (List.mem_append_left _ h))
  · unfold fz at ha
    rw [if_neg h] at ha
    exact tr.fn a ha
theorem Tr.drop {F0 H0 F H : Hp} {O0 O1 O2 : List Addr} (tr : Tr F0 H0 O0 F H (O1 ++ O2)) : Tr F0 H0 O0 F H O2 := ⟨tr.ff, tr.fr, fun a ha => tr.nw a (List.mem_append_right _ ha), tr.fn, tr.dm⟩
end
section
variable {X : Cx} {K : PySem.W.Frag} {e : Expr}
/-- as data -/
theorem peD {ev : Env → Option (M × Env)} (h : PE X e (tM X.K ev)) : PE X e (tD X.K fun env => fzR (ev env)) := by
  refine peW h fun σ H Q ⟨F, env, Os, ok, d, e1, he, k⟩ => ?_
  simp only [fzR] at he
  split at he
  · rename_i m e2 hm
    cases he
    refine ⟨F, env, Os, ok, m, _, hm, fun v F' H' O Os' ok' tr nd dj r => ?_⟩
    obtain ⟨ok2, tr2⟩ := ok'.fzTr tr nd dj
    exact k v _ _ Os' ok2 tr2 (r.freeze dj)
  · cases he
/-- from data -/
theorem peM {ev : Env → Option (D × Env)} {ev' : Env → Option (M × Env)} (h : PE X e (tD X.K ev)) (he : ∀ env m e1, ev' env = some (m, e1) → ∃ d, m = .val d ∧ ev env = some (d, e1)) : PE X e (tM X.K ev') := by
  refine peW h fun σ H Q ⟨F, env, Os, ok, m, e1, hm, k⟩ => ?_
  obtain ⟨d, rfl, h2⟩ := he env m e1 hm
  exact ⟨F, env, Os, ok, d, e1, h2, fun v F' H' Os' ok' tr r => k v F' H' [] Os' ok' tr ok'.nd (fun a z => (nomatch z)) (.val r)⟩
theorem peTc {v : V} {d : D} (h : PE X e (tC v)) (r : ∀ F, RepD X.K F v d) : PE X e (tM X.K fun env => some (.val d, env)) := by
  refine peW h fun σ H Q ⟨F, env, Os, ok, m, e1, hm, k⟩ => ?_
  cases hm
  exact k v F H [] Os ok (by simpa using Tr.refl F H Os.flatten) (by simpa using ok.nd) (fun a z => (nomatch z)) (.val (r F))
end
end IL
set_option Elab.async false
set_option linter.all false
set_option maxRecDepth 100000
set_option maxHeartbeats 4000000
/-! names, slots, calls -/
namespace IL
open PySem PySem.Spec PyProof.Rows L2

section
variable {K : PySem.W.Frag} {F F' H H' : Hp}
theorem Slots.put {v : Option V} {m : Option M} {O : List Addr} (s : SlotOk K F H v m O) : ∀ {σ : L2.St} {env : Env} {Os : List (List Addr)} {i : Nat}, Slots K F H σ env Os → σ[i]? = some v → Slots K F H σ (env.set i m) (Os.set i O)
  | _, _, _, _, .nil, h => by simp at h
  | _, _, _, 0, .cons _ t, h => by simp at h; subst h; exact .cons s t
  | _, _, _, i + 1, .cons g t, h => .cons g (Slots.put s (i := i) t (by simpa using h))
theorem Slots.put2 {v : Option V} {m : Option M} {O : List Addr} (s : SlotOk K F H v m O) : ∀ {σ : L2.St} {env : Env} {Os : List (List Addr)} {i : Nat}, Slots K F H σ env Os → Slots K F H (σ.set i v) (env.set i m) (Os.set i O)
  | _, _, _, _, .nil => .nil
  | _, _, _, 0, .cons _ t => .cons s t
  | _, _, _, i + 1, .cons g t => .cons g (Slots.put2 s (i := i) t)
theorem flat_set : ∀ {Os : List (List Addr)} {i : Nat} {O : List Addr}, Os[i]? = some O → Os.flatten.Perm (O ++ (Os.set i []).flatten)
  | [], _, _, h => by simp at h
  | O :: r, 0, _, h => by simp at h; subst h; simp
  | P :: r, i + 1, O, h => by
    have ih := flat_set (Os := r) (i := i) (O := O) (by simpa using h)
    rw [List.set_cons_succ, List.flatten_cons, List.flatten_cons]
    exact (List.Perm.append_left P ih).trans (by rw [← List.append_assoc, ← List.append_assoc]; exact List.Perm.append_right _ List.perm_append_comm)
theorem flat_put : ∀ {Os : List (List Addr)} {i : Nat} {O : List Addr}, i < Os.length → (Os.set i O).flatten.Perm (O ++ (Os.set i []).flatten) := fun {Os i O} h => by
  have := flat_set (Os := Os.set i O) (i := i) (O := O) (by simp [h])
  rwa [List.set_set] at this
theorem nodup_perm {l l' : List Addr} (h : l.Perm l') (n : l.Nodup) : l'.Nodup := h.nodup_iff.mp n
end
section
variable {K : PySem.W.Frag} {F F' H H' : Hp} {σ : L2.St} {env : Env} {Os : List (List Addr)}
/-- a name's value is taken out -/
theorem Ok.out (ok : Ok K F H σ env Os) {i : Nat} {m : M} (e : env[i]? = some (some m)) : ∃ v O, σ[i]? = some (some v) ∧ Os[i]? = some O ∧ RepM K F H v m O ∧ Ok K F H σ (env.set i none) (Os.set i []) ∧ (O ++ (Os.set i []).flatten).Nodup ∧ (∀ a ∈ O, F a = none) ∧ Tr F H Os.flatten F H (O ++ (Os.set i []).flatten) := by
  obtain ⟨v, O, h1, h2, h3⟩ := ok.sl.get e
  have p := flat_set h2
  have nd := nodup_perm p ok.nd
  refine ⟨v, O, h1, h2, h3, ⟨ok.le, (List.nodup_append.mp nd).2.1, fun a ha => ok.dj a (p.mem_iff.mpr (List.mem_append_right _ ha)), ok.sl.put .emp h1⟩, nd, fun a ha => ok.dj a (p.mem_iff.mpr (List.mem_append_left _ ha)), ?_⟩
  exact ⟨Same.refl F, fun _ _ h _ => h, fun a ha => .inl (p.mem_iff.mpr ha), fun _ h => .inl h, fun _ h => h⟩
/-- .. and put back -/
theorem Ok.back (ok : Ok K F H σ env Os) {i : Nat} {m : M} {v : V} {O : List Addr} (e : env[i]? = some none) (hv : σ[i]? = some (some v)) (ho : Os[i]? = some []) (r : RepM K F H v m O) (nd : (O ++ Os.flatten).Nodup) (dj : ∀ a ∈ O, F a = none) :
    Ok K F H σ (env.set i (some m)) (Os.set i O) ∧ (Os.set i O).flatten.Perm (O ++ Os.flatten) := by
  have hi : i < Os.length := (List.getElem?_eq_some_iff.mp ho).1
  have p := flat_put (O := O) hi
  have e0 : Os.set i [] = Os := by
    apply List.ext_getElem?
    intro j
    by_cases hj : i = j
    · subst hj; rw [List.getElem?_set_self hi, ho]
    · rw [List.getElem?_set_ne hj]
  rw [e0] at p
  refine ⟨⟨ok.le, nodup_perm p.symm nd, fun a ha => ?_, ok.sl.put (.has r) hv⟩, p⟩
  rcases List.mem_append.mp (p.mem_iff.mp ha) with z | z
  · exact dj a z
  · exact ok.dj a z
end

/-! ### names -/
section
variable {X : Cx} {sc : Scope} {C : CK} {gv : Nat → D} {cal : Nat → List M → Option (M × List M)}
theorem ScOk.vis (s : ScOk X sc) {x : Str} (h : sc.names.lookup x = some .local ∨ sc.names.lookup x = some .cell ∨ sc.names.lookup x = some .free) : Vis X.env.scope x := by
  rcases h with h | h | h
  · exact .inl (s.keep _ _ (by decide) h)
  · exact .inr (.inl (s.keep _ _ (by decide) h))
  · exact .inr (s.free _ h)
theorem rd_pe (hN : C.N = X.N) (s : ScOk X sc) {i : Nat} {x : Str} {p : Pos} (h : rdOk C sc i x = true) : PE X (.Name x p) (tVar i) := by
  unfold rdOk at h
  simp only [Bool.and_eq_true, decide_eq_true_eq, Bool.not_eq_true'] at h
  obtain ⟨⟨⟨h1, h2⟩, h3⟩, h4⟩ := h
  refine pe_var (by rw [← hN]; exact h1) (s.vis ?_) h3 h4
  split at h2
  · exact .inl (by assumption)
  · exact .inr (.inl (by assumption))
  · exact .inr (.inr (by assumption))
  · cases h2
theorem wr_pg (hN : C.N = X.N) (nd : X.N.Nodup) (s : ScOk X sc) {i : Nat} {x : Str} (h : wrOk C sc i x = true) : X.N[i]? = some x ∧ Loc X.env.scope x ∧ (X.fn x = true ∨ X.env.scope.names.lookup x = some .local) := by
  unfold wrOk at h
  simp only [Bool.and_eq_true, decide_eq_true_eq] at h
  obtain ⟨h1, h2⟩ := h
  refine ⟨by rw [← hN]; exact h1, ?_⟩
  split at h2
  · rename_i q
    exact ⟨.inl (s.keep _ _ (by decide) q), .inr (s.keep _ _ (by decide) q)⟩
  · rename_i q
    exact ⟨.inr (s.keep _ _ (by decide) q), .inl (s.fn _ q)⟩
  · cases h2
theorem gl_ok (s : ScOk X sc) {x : Str} (h : glOk sc x = true) : Gl X x ∧ (x == ("__debug__" : Str)) = false := by
  unfold glOk at h
  simp only [Bool.and_eq_true, Bool.not_eq_true'] at h
  obtain ⟨h1, h2⟩ := h
  refine ⟨?_, h2⟩
  split at h1
  · rename_i q
    exact s.keep _ _ (by decide) q
  · cases h1
theorem blt_gl {gn : List Str} {gv : Nat → D} {fns : List FnD} {fuel k : Nat} (cx : CtxOk X gn gv fns fuel k) (s : ScOk X sc) {x y : Str} (h : bltOk sc x y = true) : x = y ∧ Gl X x ∧ X.mg x = none ∧ x ≠ "__name__" ∧ (x == ("__debug__" : Str)) = false := by
  unfold bltOk at h
  simp only [Bool.and_eq_true, decide_eq_true_eq, Bool.not_eq_true'] at h
  obtain ⟨⟨⟨h1, h2⟩, h3⟩, h4⟩ := h
  obtain ⟨g1, g2⟩ := gl_ok s h2
  refine ⟨h1, g1, cx.facts.blt x h3, fun e => ?_, g2⟩
  subst e
  simp at h4
theorem nm_pe (hN : C.N = X.N) (s : ScOk X sc) {i : Nat} {x : Str} {p : Pos} (h : rdOk C sc i x = true) : PE X (.Name x p) (tM X.K (evE gv cal (.nm i))) := by
  refine peW (rd_pe hN s h) fun σ H Q ⟨F, env, Os, ok, m, e1, hm, k⟩ => ?_
  simp only [evE] at hm
  split at hm
  · rename_i m' he
    cases hm
    obtain ⟨v, O, h1, h2, h3, h4, h5, h6, h7⟩ := ok.out he
    obtain ⟨h8, h9⟩ := h4.fzTr h7 h5 h6
    have hi : i < Os.length := (List.getElem?_eq_some_iff.mp h2).1
    have hr := h3.freeze h6
    obtain ⟨b1, b2⟩ := h8.back (i := i) (m := .val m'.d) (v := v) (O := []) (by
      rw [List.getElem?_set_self (by rw [← ok.sl.len.2]; exact hi)]) h1 (by rw [List.getElem?_set_self hi]) (.val hr) (by simpa using h8.nd) (fun a z => (nomatch z))
    rw [List.set_set, List.set_set] at b1
    rw [List.set_set] at b2
    refine ⟨v, h1, k v (fz F H O) H [] (Os.set i []) b1 ?_ (by simpa using h8.nd) (fun a z => (nomatch z)) (.val hr)⟩
    simpa using h9
  · cases hm
theorem mv_pe (hN : C.N = X.N) (s : ScOk X sc) {i : Nat} {x : Str} {p : Pos} (h : rdOk C sc i x = true) : PE X (.Name x p) (tM X.K (evE gv cal (.mv i))) := by
  refine peW (rd_pe hN s h) fun σ H Q ⟨F, env, Os, ok, m, e1, hm, k⟩ => ?_
  simp only [evE] at hm
  split at hm
  · rename_i m' he
    cases hm
    obtain ⟨v, O, h1, h2, h3, h4, h5, h6, h7⟩ := ok.out he
    exact ⟨v, h1, k v F H O (Os.set i []) h4 h7 h5 h6 h3⟩
  · cases hm
theorem sl_pe (hN : C.N = X.N) (s : ScOk X sc) {i : Nat} {x : Str} {p : Pos} (h : rdOk C sc i x = true) : PE X (.Name x p) (tOv X.K (evO gv cal (.s i))) := by
  refine peW (rd_pe hN s h) fun σ H Q ⟨F, env, Os, ok, x, e1, hm, k⟩ => ?_
  simp only [evO] at hm
  split at hm
  · rename_i m' he
    cases hm
    obtain ⟨v, O, h1, _⟩ := ok.sl.get he
    exact ⟨v, h1, k v F H Os ok (Tr.refl _ _ _) h1⟩
  · cases hm
end

/-! ### calls -/
inductive AVs (K : PySem.W.Frag) (F H : Hp) (σ : L2.St) : List V → List AV → List Addr → Prop
  | nil : AVs K F H σ [] [] []
  | d {v : V} {d : D} {vs : List V} {xs : List AV} {O : List Addr} : RepD K F v d → AVs K F H σ vs xs O → AVs K F H σ (v :: vs) (.d d :: xs) O
  | io {v : V} {i : Nat} {vs : List V} {xs : List AV} {O : List Addr} : σ[i]? = some (some v) → AVs K F H σ vs xs O → AVs K F H σ (v :: vs) (.io i :: xs) O
  | t {v : V} {m : M} {O : List Addr} : RepM K F H v m O → AVs K F H σ [v] [.t m] O
def tAs (K : PySem.W.Frag) (ev : Env → Option (List AV × Env)) : TA := fun σ H Q => ∃ F env Os, Ok K F H σ env Os ∧ ∃ avs e1, ev env = some (avs, e1) ∧
  ∀ vs F' H' O Os', Ok K F' H' σ e1 Os' → Tr F H Os.flatten F' H' (O ++ Os'.flatten) → (O ++ Os'.flatten).Nodup → (∀ a ∈ O, F' a = none) → AVs K F' H' σ vs avs O → Q vs H'
/-- the values of the arguments that are the callee's -/
def selA : List AV → List V → List V
  | .d _ :: r, _ :: vs => selA r vs
  | .io _ :: r, v :: vs => v :: selA r vs
  | .t _ :: r, v :: vs => v :: selA r vs
  | _, _ => []
section
variable {K : PySem.W.Frag} {F F' H H' : Hp} {σ : L2.St}
theorem take_ok : ∀ {vs : List V} {avs : List AV} {O : List Addr} {env : Env} {Os : List (List Addr)} {ms : List M} {e2 : Env}, AVs K F H σ vs avs O → Ok K F H σ env Os → (O ++ Os.flatten).Nodup → (∀ a ∈ O, F a = none) → takeA avs env = some (ms, e2) →
    ∃ Oc Os2, Slots K F H (vs.map some) (ms.map some) Oc ∧ Ok K F H σ e2 Os2 ∧ (O ++ Os.flatten).Perm (Oc.flatten ++ Os2.flatten)
  | _, _, _, env, Os, ms, e2, .nil, ok, nd, dj, e => by
    simp [takeA] at e
    obtain ⟨rfl, rfl⟩ := e
    exact ⟨[], Os, .nil, ok, by simp⟩
  | _, _, O, env, Os, ms, e2, .d r t, ok, nd, dj, e => by
    simp only [takeA] at e
    split at e
    · rename_i ms' e' he
      cases e
      obtain ⟨Oc, Os2, h1, h2, h3⟩ := take_ok t ok nd dj he
      exact ⟨[] :: Oc, Os2, .cons (.has (.val r)) h1, h2, by simpa using h3⟩
    · cases e
  | _, _, O, env, Os, ms, e2, .t (v := v) (m := m) r, ok, nd, dj, e => by
    simp only [takeA] at e
    split at e
    · simp at e
      obtain ⟨rfl, rfl⟩ := e
      exact ⟨[O], Os, .cons (.has r) .nil, ok, by simp⟩
    · cases e
  | _, _, O, env, Os, ms, e2, .io (i := i) (v := v) hv t, ok, nd, dj, e => by
    simp only [takeA] at e
    split at e
    · rename_i m hm
      split at e
      · split at e
        · rename_i ms' e' he
          cases e
          obtain ⟨v', O1, h1, h2, h3, h4, h5, h6, h7⟩ := ok.out hm
          have ev : v' = v := by rw [h1] at hv; simpa using hv
          subst ev
          have p := flat_set h2
          have nd2 : (O ++ (Os.set i []).flatten).Nodup := by
            have q : (O ++ Os.flatten).Perm (O1 ++ (O ++ (Os.set i []).flatten)) :=
              (List.Perm.append_left O p).trans (by rw [← List.append_assoc, ← List.append_assoc]; exact List.Perm.append_right _ List.perm_append_comm)
            exact (List.nodup_append.mp (nodup_perm q nd)).2.1
          obtain ⟨Oc, Os2, g1, g2, g3⟩ := take_ok t h4 nd2 dj he
          refine ⟨O1 :: Oc, Os2, .cons (.has h3) g1, g2, ?_⟩
          rw [List.flatten_cons, List.append_assoc]
          refine (List.Perm.append_left O p).trans ?_
          refine (show (O ++ (O1 ++ (Os.set i []).flatten)).Perm (O1 ++ (O ++ (Os.set i []).flatten)) from by rw [← List.append_assoc, ← List.append_assoc]; exact List.Perm.append_right _ List.perm_append_comm).trans ?_
          exact List.Perm.append_left O1 g3
        · cases e
      · cases e
    · cases e
theorem sel_selA : ∀ {vs : List V} {avs : List AV} {O : List Addr} {io : List Bool} {env : Env} {ms : List M} {e2 : Env}, AVs K F H σ vs avs O → takeA avs env = some (ms, e2) → ownedAs io ms = true → sel io vs = selA avs vs
  | _, _, _, io, env, ms, e2, .nil, e, h => by
    simp [takeA] at e
    obtain ⟨rfl, rfl⟩ := e
    cases io with
    | nil => rfl
    | cons b r => simp [ownedAs] at h
  | _, _, O, io, env, ms, e2, .d r t, e, h => by
    simp only [takeA] at e
    split at e
    · rename_i ms' e' he
      cases e
      cases io with
      | nil => simp [ownedAs] at h
      | cons b r =>
        simp only [ownedAs, M.owned, Bool.and_eq_true, beq_iff_eq] at h
        obtain ⟨rfl, h⟩ := h
        show sel r _ = selA _ _
        exact sel_selA t he h
    · cases e
  | _, _, O, io, env, ms, e2, .t r, e, h => by
    simp only [takeA] at e
    split at e
    · rename_i hm
      simp at e
      obtain ⟨rfl, rfl⟩ := e
      cases io with
      | nil => simp [ownedAs] at h
      | cons b r =>
        simp only [ownedAs, hm, Bool.and_eq_true, beq_iff_eq] at h
        obtain ⟨rfl, h⟩ := h
        cases r with
        | nil => rfl
        | cons _ _ => simp [ownedAs] at h
    · cases e
  | _, _, O, io, env, ms, e2, .io (i := i) (v := v) hv t, e, h => by
    simp only [takeA] at e
    split at e
    · split at e
      · rename_i hm
        split at e
        · rename_i ms' e' he
          cases e
          cases io with
          | nil => simp [ownedAs] at h
          | cons b r =>
            simp only [ownedAs, hm, Bool.and_eq_true, beq_iff_eq] at h
            obtain ⟨rfl, h⟩ := h
            show v :: sel r _ = v :: selA _ _
            rw [sel_selA t he h]
        · cases e
      · cases e
    · cases e
theorem RepM.owned_some {v : V} {m : M} {O : List Addr} (h : RepM K F H v m O) : True := trivial
/-- behind the call: what the callee leaves is put back -/
theorem give_ok {F0 H0 : Hp} : ∀ {vs : List V} {avs : List AV} {O : List Addr} {env : Env} {Os : List (List Addr)} {fs : List M} {Os1 : List (List Addr)} {e3 : Env}, AVs K F0 H0 σ vs avs O → Ok K F H σ env Os → Slots K F H ((selA avs vs).map some) (fs.map some) Os1 →
    (Os1.flatten ++ Os.flatten).Nodup → (∀ a ∈ Os1.flatten, F a = none) → (∀ i, AV.io i ∈ avs → env[i]? = some none ∧ Os[i]? = some []) → (avs.filterMap fun | .io i => some i | _ => none).Nodup → giveA avs fs env = some e3 →
    ∃ Os3, Ok K F H σ e3 Os3 ∧ ∀ a ∈ Os3.flatten, a ∈ Os1.flatten ∨ a ∈ Os.flatten
  | _, _, _, env, Os, fs, Os1, e3, .nil, ok, sl, nd, dj, he, hd, e => by
    cases fs with
    | nil =>
      simp [giveA] at e
      subst e
      exact ⟨Os, ok, fun a ha => .inr ha⟩
    | cons _ _ => simp [giveA] at e
  | _, _, O, env, Os, fs, Os1, e3, .d r t, ok, sl, nd, dj, he, hd, e => by
    simp only [giveA] at e
    exact give_ok t ok sl nd dj (fun i hi => he i (List.mem_cons_of_mem _ hi)) (by simpa using hd) e
  | _, _, O, env, Os, fs, Os1, e3, .t r, ok, sl, nd, dj, he, hd, e => by
    cases fs with
    | nil => simp [giveA] at e
    | cons f fs =>
      cases fs with
      | nil =>
        simp [giveA] at e
        subst e
        exact ⟨Os, ok, fun a ha => .inr ha⟩
      | cons _ _ => simp [giveA] at e
  | _, _, O, env, Os, fs, Os1, e3, .io (i := i) (v := v) (vs := vs) (xs := xs) hv t, ok, sl, nd, dj, he, hd, e => by
    cases fs with
    | nil => simp [giveA] at e
    | cons f fs =>
      simp only [giveA] at e
      split at e
      · have sl : Slots K F H (some v :: (selA xs vs).map some) (some f :: fs.map some) Os1 := sl
        cases sl with
        | @cons _ _ Oi _ _ Os1' s sl2 =>
          cases s with
          | has r =>
            obtain ⟨h1, h2⟩ := he i List.mem_cons_self
            rw [List.flatten_cons, List.append_assoc] at nd
            have nd2 := List.nodup_append.mp nd
            have nOi : (Oi ++ Os.flatten).Nodup := by
              refine List.nodup_append.mpr ⟨nd2.1, (List.nodup_append.mp nd2.2.1).2.1, fun a ha b hb => nd2.2.2 a ha b (List.mem_append_right _ hb)⟩
            obtain ⟨b1, b2⟩ := ok.back h1 hv h2 r nOi (fun a ha => dj a (by rw [List.flatten_cons]; exact List.mem_append_left _ ha))
            have hd2 : i ∉ (xs.filterMap fun | .io i => some i | _ => none) ∧ (xs.filterMap fun | .io i => some i | _ => none).Nodup := by
              simpa using hd
            obtain ⟨Os3, g1, g2⟩ := give_ok t b1 sl2 (by
              have q : (Os1'.flatten ++ (Os.set i Oi).flatten).Perm (Oi ++ (Os1'.flatten ++ Os.flatten)) :=
                (List.Perm.append_left _ b2).trans (by rw [← List.append_assoc, ← List.append_assoc]; exact List.Perm.append_right _ List.perm_append_comm)
              exact nodup_perm q.symm nd) (fun a ha => dj a (by rw [List.flatten_cons]; exact List.mem_append_right _ ha)) (fun j hj => by
              have hij : i ≠ j := fun z => by
                subst z
                exact hd2.1 (List.mem_filterMap.mpr ⟨_, hj, rfl⟩)
              obtain ⟨h3, h4⟩ := he j (List.mem_cons_of_mem _ hj)
              rw [List.getElem?_set_ne hij, List.getElem?_set_ne hij]
              exact ⟨h3, h4⟩) hd2.2 e
            refine ⟨Os3, g1, fun a ha => ?_⟩
            rcases g2 a ha with z | z
            · exact .inl (by rw [List.flatten_cons]; exact List.mem_append_right _ z)
            · rcases List.mem_append.mp (b2.mem_iff.mp z) with z | z
              · exact .inl (by rw [List.flatten_cons]; exact List.mem_append_left _ z)
              · exact .inr z
      · cases e
/-- what taking leaves at the names that are handed in -/
theorem take_left : ∀ {vs : List V} {avs : List AV} {O : List Addr} {env : Env} {Os : List (List Addr)} {ms : List M} {e2 : Env}, AVs K F H σ vs avs O → Ok K F H σ env Os → takeA avs env = some (ms, e2) →
    (∀ i : Nat, AV.io i ∈ avs → e2[i]? = some none) ∧ (∀ i : Nat, env[i]? = some none → e2[i]? = some none) ∧ (avs.filterMap fun | .io i => some i | _ => none).Nodup ∧ (∀ i : Nat, env[i]? = some none → AV.io i ∉ avs)
  | _, _, _, env, Os, ms, e2, .nil, ok, e => by
    simp [takeA] at e
    obtain ⟨rfl, rfl⟩ := e
    exact ⟨fun i h => (nomatch h), fun i h => h, by simp, fun i _ h => (nomatch h)⟩
  | _, _, O, env, Os, ms, e2, .d r t, ok, e => by
    simp only [takeA] at e
    split at e
    · rename_i ms' e' he
      cases e
      obtain ⟨h1, h2, h3, h4⟩ := take_left t ok he
      refine ⟨fun i h => h1 i (by simpa using h), h2, by simpa using h3, fun i h z => h4 i h (by simpa using z)⟩
    · cases e
  | _, _, O, env, Os, ms, e2, .t r, ok, e => by
    simp only [takeA] at e
    split at e
    · simp at e
      obtain ⟨rfl, rfl⟩ := e
      exact ⟨fun i h => by simp at h, fun i h => h, by simp, fun i _ h => by simp at h⟩
    · cases e
  | _, _, O, env, Os, ms, e2, .io (i := i) (v := v) (vs := vs) (xs := xs) hv t, ok, e => by
    simp only [takeA] at e
    split at e
    · rename_i m hm
      split at e
      · split at e
        · rename_i ms' e' he
          cases e
          obtain ⟨v', O1, g1, g2, g3, g4, _⟩ := ok.out hm
          obtain ⟨h1, h2, h3, h4⟩ := take_left t g4 he
          have hi : i < env.length := (List.getElem?_eq_some_iff.mp hm).1
          have hs : (env.set i none)[i]? = some none := by rw [List.getElem?_set_self hi]
          refine ⟨fun j hj => ?_, fun j hj => h2 j ?_, ?_, fun j hj z => ?_⟩
          · rcases List.mem_cons.mp hj with z | z
            · cases z; exact h2 i hs
            · exact h1 j z
          · by_cases q : i = j
            · subst q; exact hs
            · rw [List.getElem?_set_ne q]; exact hj
          · have : i ∉ (xs.filterMap fun | AV.io i => some i | _ => none) := fun z => by
              obtain ⟨x, hx, hy⟩ := List.mem_filterMap.mp z
              cases x with
              | io j => simp at hy; subst hy; exact h4 _ hs hx
              | d _ => simp at hy
              | t _ => simp at hy
            rw [List.filterMap_cons]
            exact List.nodup_cons.mpr ⟨this, h3⟩
          · rcases List.mem_cons.mp z with y | y
            · cases y; rw [hm] at hj; cases hj
            · refine h4 j ?_ y
              by_cases q : i = j
              · subst q; exact hs
              · rw [List.getElem?_set_ne q]; exact hj
        · cases e
      · cases e
    · cases e
theorem slots_none : ∀ {σ : L2.St} {env : Env} {Os : List (List Addr)} {i : Nat}, Slots K F H σ env Os → env[i]? = some none → Os[i]? = some []
  | _, _, _, _, .nil, h => by simp at h
  | _, _, _, 0, .cons s _, h => by
    simp at h; subst h
    cases s with
    | emp => rfl
  | _, _, _, i + 1, .cons _ t, h => by simpa using slots_none (i := i) t (by simpa using h)
end
end IL
set_option Elab.async false
set_option linter.all false
set_option maxRecDepth 100000
set_option maxHeartbeats 4000000
/-! a call, as the small language has it -/
namespace IL
open PySem PySem.Spec PyProof.Rows L2

section
variable {X : Cx} {sc : Scope} {C : CK} {gn : List Str} {gv : Nat → D} {fns : List FnD} {fuel k : Nat}
/-- owned ones apart from what the callee changed stay -/
theorem Ok.stay {K : PySem.W.Frag} {F F' H H' : Hp} {σ : L2.St} {env : Env} {Os : List (List Addr)} {Oc O' : List Addr} (ok : Ok K F H σ env Os) (tr : Tr F H Oc F' H' O') (ap : ∀ a ∈ Os.flatten, a ∉ Oc) (le : Same F' H') : Ok K F' H' σ env Os :=
  ⟨le, ok.nd, fun a ha => by
    cases q : F' a with
    | none => rfl
    | some o =>
      rcases tr.fn a (by rw [q]; exact fun z => (nomatch z)) with z | z | z
      · exact absurd (ok.dj a ha) z
      · exact absurd z (ap a ha)
      · exact absurd z (ok.sl.dom a ha), ok.sl.mono tr.ff fun a ha o e => tr.fr a o e (ap a ha)⟩
/-- the call's outcome from the callee's promise -/
theorem call_done {K : PySem.W.Frag} {F H F1 H1 : Hp} {σ : L2.St} {Of : List Addr} {vs : List V} {avs : List AV} {O : List Addr} {e1 e2 e3 : Env} {Os1 Oc Os2 : List (List Addr)} {ms fs : List M} {io : List Bool} {r : M}
    (ok1 : Ok K F1 H1 σ e1 Os1) (tr1 : Tr F H Of F1 H1 (O ++ Os1.flatten)) (nd1 : (O ++ Os1.flatten).Nodup) (dj1 : ∀ a ∈ O, F1 a = none) (av : AVs K F1 H1 σ vs avs O) (ht : takeA avs e1 = some (ms, e2)) (hg : giveA avs fs e2 = some e3) (hio : ownedAs io ms = true)
    (ok2 : Ok K F1 H1 σ e2 Os2) (pm : (O ++ Os1.flatten).Perm (Oc.flatten ++ Os2.flatten))
    {v : V} {F' H' : Hp} {Or : List Addr} {Os' : List (List Addr)} (tr : Tr F1 H1 Oc.flatten F' H' (Or ++ Os'.flatten)) (nd : (Or ++ Os'.flatten).Nodup) (dj : ∀ a ∈ Or, F' a = none) (rm : RepM K F' H' v r Or) (fin : Ok K F' H' ((sel io vs).map some) (fs.map some) Os') :
    ∃ Os3, Ok K F' H' σ e3 Os3 ∧ Tr F H Of F' H' (Or ++ Os3.flatten) ∧ (Or ++ Os3.flatten).Nodup := by
  have ndp := nodup_perm pm nd1
  have ap : ∀ a ∈ Os2.flatten, a ∉ Oc.flatten := fun a ha hb => (List.nodup_append.mp ndp).2.2 a hb a ha rfl
  have ok2' := ok2.stay tr ap fin.le
  have es := sel_selA av ht hio
  have sl' : Slots K F' H' ((selA avs vs).map some) (fs.map some) Os' := by rw [← es]; exact fin.sl
  obtain ⟨l1, l2, l3, l4⟩ := take_left av ok1 ht
  have d2 := ok2.sl.dom
  -- what the callee gives back and what stayed are apart
  have apart : ∀ a ∈ Or ++ Os'.flatten, ∀ b ∈ Os2.flatten, a ≠ b := fun a ha b hb z => by
    subst z
    rcases tr.nw a ha with q | q
    · exact ap a hb q
    · exact d2 a hb q
  have ndG : (Os'.flatten ++ Os2.flatten).Nodup := List.nodup_append.mpr ⟨(List.nodup_append.mp nd).2.1, ok2.nd, fun a ha b hb => apart a (List.mem_append_right _ ha) b hb⟩
  obtain ⟨Os3, g1, g2⟩ := give_ok (F0 := F1) (H0 := H1) av ok2' sl' ndG fin.dj (fun i hi => ⟨l1 i hi, slots_none ok2'.sl (l1 i hi)⟩) l3 hg
  refine ⟨Os3, g1, ?_, ?_⟩
  · have t2 : Tr F1 H1 (O ++ Os1.flatten) F' H' (Or ++ Os3.flatten) := by
      refine ⟨tr.ff, fun a o e hn => tr.fr a o e fun z => hn (pm.mem_iff.mpr (List.mem_append_left _ z)), fun a ha => ?_, fun a ha => ?_, tr.dm⟩
      · have up : ∀ b, b ∈ Or ++ Os'.flatten → b ∈ O ++ Os1.flatten ∨ H1 b = none := fun b hb => (tr.nw b hb).imp (fun z => pm.mem_iff.mpr (List.mem_append_left _ z)) id
        rcases List.mem_append.mp ha with z | z
        · exact up a (List.mem_append_left _ z)
        · rcases g2 a z with q | q
          · exact up a (List.mem_append_right _ q)
          · exact .inl (pm.mem_iff.mpr (List.mem_append_right _ q))
      · exact (tr.fn a ha).imp id fun z => z.imp (fun q => pm.mem_iff.mpr (List.mem_append_left _ q)) id
    exact tr1.trans t2
  · refine List.nodup_append.mpr ⟨(List.nodup_append.mp nd).1, g1.nd, fun a ha b hb z => ?_⟩
    subst z
    rcases g2 a hb with q | q
    · exact (List.nodup_append.mp nd).2.2 a ha a q rfl
    · exact apart a (List.mem_append_left _ ha) a q rfl
theorem starCons {e : Expr} {es : List Expr} {env : PySem.Env} (h : noStar e = true) : starEach (e :: es) env = (false, eval e env) :: starEach es env := by
  cases e <;> first | rfl | cases h
theorem plAny {pos : Pos} {env : PySem.Env} : ∀ {es : List Expr}, es.all noStar = true → (backTo pos (starEach es env)).any (·.1) = false
  | [], _ => rfl
  | e :: r, h => by
    simp only [List.all_cons, Bool.and_eq_true] at h
    rw [starCons h.1]
    have ih := plAny (pos := pos) (env := env) h.2
    unfold backTo at ih ⊢
    rw [List.map_cons, List.any_cons, ih]
    rfl
theorem callF_ok {n f : Nat} {ms fs : List M} {r : M} {fd : FnD} (h : callF gv fns fuel n f ms = some (r, fs)) (hf : fns[f]? = some fd) : ownedAs fd.io ms = true ∧ fd.io.length = fd.ps.length ∧ fd.ps.length ≤ fd.N.length := by
  cases n with
  | zero => simp [callF] at h
  | succ n =>
    simp only [callF, hf, runF] at h
    split at h
    · assumption
    · cases h
theorem ownedAs_len : ∀ {io : List Bool} {ms : List M}, ownedAs io ms = true → io.length = ms.length
  | [], [], _ => rfl
  | [], _ :: _, h => by simp [ownedAs] at h
  | _ :: _, [], h => by simp [ownedAs] at h
  | b :: r, m :: ms, h => by
    simp only [ownedAs, Bool.and_eq_true] at h
    rw [List.length_cons, List.length_cons, ownedAs_len h.2]
theorem Slots.vlen {K : PySem.W.Frag} {F H : Hp} {vs : List V} {ms : List M} {Os : List (List Addr)} (h : Slots K F H (vs.map some) (ms.map some) Os) : vs.length = ms.length := by
  have := h.len.1
  simpa using this
/-- f(a, b, ..) -/
theorem call_pe (cx : CtxOk X gn gv fns fuel k) (hC : C.fnn = fns.map (·.name)) (s : ScOk X sc) {f : Nat} {as : As} {x : Str} {p pos : Pos} {es : List Expr} (hf : C.fnn[f]? = some x) (hx : glOk sc x = true) (hst : es.all noStar = true) (h0 : es = [] → as = .nil)
    (ha : PA X es (tAs X.K (evAs gv (callF gv fns fuel k) as))) : PE X (.Call (.Name x p) es [] pos) (tM X.K (evE gv (callF gv fns fuel k) (.call f as))) := by
  obtain ⟨g1, g2⟩ := gl_ok s hx
  rw [hC, List.getElem?_map] at hf
  obtain ⟨fd, hfd, hn⟩ := Option.map_eq_some_iff.mp hf
  obtain ⟨a, fdt, m1, m2, m3, m4⟩ := cx.facts.fn f fd hfd
  rw [hn] at m1
  have base : ∀ (t : TA), (∀ σ H Q, tAs X.K (evAs gv (callF gv fns fuel k) as) σ H Q → t σ H Q) → ∀ σ H Q, tM X.K (evE gv (callF gv fns fuel k) (.call f as)) σ H Q → tCall (spF X.K gv fns fuel k f fd) [] E0 t σ H Q := by
    rintro t ht σ H Q ⟨F, env, Os, ok, m, e1, hm, kk⟩
    simp only [evE] at hm
    split at hm
    · rename_i avs e2 h1
      split at hm
      · rename_i ms e3 h2
        split at hm
        · rename_i r fs h3
          split at hm
          · rename_i e4 h4
            cases hm
            refine ht _ _ _ ⟨F, env, Os, ok, avs, e2, h1, fun vs F1 H1 O Os1 ok1 tr1 nd1 dj1 av => ?_⟩
            obtain ⟨Oc, Os2, t1, t2, t3⟩ := take_ok av ok1 nd1 dj1 h2
            have ndp := nodup_perm t3 nd1
            have okc : Ok X.K F1 H1 (vs.map some) (ms.map some) Oc := ⟨ok1.le, (List.nodup_append.mp ndp).1, fun b hb => by
              rcases List.mem_append.mp (t3.mem_iff.mpr (List.mem_append_left _ hb)) with z | z
              · exact dj1 b z
              · exact ok1.dj b z, t1⟩
            have hio := callF_ok h3 hfd
            have hlen : (vs ++ []).length = fd.ps.length := by
              rw [List.append_nil, t1.vlen, ← ownedAs_len hio.1, hio.2.1]
            show spF X.K gv fns fuel k f fd (vs ++ []) H1 Q E0
            rw [List.append_nil] at hlen ⊢
            refine ⟨F1, ms, Oc, okc, hlen, m, fs, h3, fun v F' H' Or Os' tr nd dj rm fin => ?_⟩
            obtain ⟨Os3, q1, q2, q3⟩ := call_done ok1 tr1 nd1 dj1 av h2 h4 hio.1 t2 t3 tr nd dj rm fin
            exact kk v F' H' Or Os3 q1 q2 q3 dj rm
          · cases hm
        · cases hm
      · cases hm
    · cases hm
  cases es with
  | nil => exact peW (pe_call0 m4 cx.room g1 m1 m2 m3 .nil pass0 g2) (base tNil fun σ H Q ⟨F, env, Os, ok, avs, e1, he, kk⟩ => by
      rw [h0 rfl] at he
      simp only [evAs] at he
      cases he
      exact kk [] F H [] Os ok (by simpa using Tr.refl F H Os.flatten) (by simpa using ok.nd) (fun a z => (nomatch z)) .nil)
  | cons e r =>
    simp only [List.all_cons, Bool.and_eq_true] at hst
    exact peW (pe_call m4 cx.room g1 m1 m2 m3 .nil pass0 ha g2 (starCons hst.1) (plAny hst.2)) (base _ fun σ H Q h => h)
end
end IL
set_option Elab.async false
set_option linter.all false
set_option maxRecDepth 100000
set_option maxHeartbeats 4000000
/-! what is walked, targets, comprehensions -/
namespace IL
open PySem PySem.Spec PyProof.Rows L2

/-- an iterator that gives these data, whatever else happens -/
structure Feed (K : PySem.W.Frag) (F0 : Hp) (J : L2.It) (ds : List D) : Prop where
  go : ∀ i F H, Same F0 F → Same F H → i < ds.length → J.go i H
  yld : ∀ i F H x H' d, Same F0 F → Same F H → ds[i]? = some d → J.yld i H x H' → Rs K F H (.val d) x H'
  stop : ∀ i F H, Same F0 F → Same F H → ds.length ≤ i → J.stop i H
section
variable {K : PySem.W.Frag} {F0 : Hp}
theorem feed_list {a : Addr} {vs : List V} {ds : List D} (h : F0 a = some (.lst vs)) (r : RepDs K F0 vs ds) : Feed K F0 (Itl K a) ds where
  go := fun i F H s1 s2 hi => by
    obtain ⟨v, hv, _⟩ := r.get (i := i) (List.getElem?_eq_getElem hi)
    exact ⟨vs, v, SqL.of (s2 _ _ (s1 _ _ h)), hv⟩
  yld := fun i F H x H' d s1 s2 hd y => by
    obtain ⟨rfl, y⟩ := y
    obtain ⟨v, hv, rv⟩ := r.get hd
    have e := y vs (SqL.of (s2 _ _ (s1 _ _ h)))
    rw [hv] at e
    cases e
    exact .same s2 (rv.mono s1)
  stop := fun i F H s1 s2 hi => ⟨vs, SqL.of (s2 _ _ (s1 _ _ h)), by rw [r.length]; exact hi⟩
theorem feed_tup {a : Addr} {vs : List V} {ds : List D} (h : SqT K F0 a vs) (r : RepDs K F0 vs ds) : Feed K F0 (Itt K a) ds where
  go := fun i F H s1 s2 hi => by
    obtain ⟨v, hv, _⟩ := r.get (i := i) (List.getElem?_eq_getElem hi)
    exact ⟨vs, v, sqT_mono s2 (sqT_mono s1 h), hv⟩
  yld := fun i F H x H' d s1 s2 hd y => by
    obtain ⟨rfl, y⟩ := y
    obtain ⟨v, hv, rv⟩ := r.get hd
    have e := y vs (sqT_mono s2 (sqT_mono s1 h))
    rw [hv] at e
    cases e
    exact .same s2 (rv.mono s1)
  stop := fun i F H s1 s2 hi => ⟨vs, sqT_mono s2 (sqT_mono s1 h), by rw [r.length]; exact hi⟩
theorem rngD_get {lo hi : Int} {i : Nat} {d : D} (h : (rngD lo hi)[i]? = some d) : d = .int (lo + (i : Nat)) := by
  unfold rngD at h
  rw [List.getElem?_map, Option.map_eq_some_iff] at h
  obtain ⟨j, h1, h2⟩ := h
  obtain ⟨h3, h4⟩ := List.getElem?_eq_some_iff.mp h1
  rw [List.getElem_range] at h4
  subst h4
  exact h2.symm
theorem rngD_len (lo hi : Int) : (rngD lo hi).length = (hi - lo).toNat := by unfold rngD; simp
theorem feed_rng (lo hi : Int) : Feed K F0 (Itr lo (hi - lo).toNat) (rngD lo hi) where
  go := fun i F H _ _ h => by rw [rngD_len] at h; exact h
  yld := fun i F H x H' d s1 s2 hd y => by
    obtain ⟨rfl, rfl⟩ := y
    rw [rngD_get hd]
    exact .same s2 (.int _)
  stop := fun i F H _ _ h => by rw [rngD_len] at h; exact h
theorem feed_enum {a : Addr} {vs : List V} {ds : List D} (h : F0 a = some (.lst vs)) (r : RepDs K F0 vs ds) : Feed K F0 (Ite K a) (ds.mapIdx fun i d => .tup [.int (i : Nat), d]) where
  go := fun i F H s1 s2 hi => by
    rw [List.length_mapIdx] at hi
    obtain ⟨v, hv, _⟩ := r.get (i := i) (List.getElem?_eq_getElem hi)
    exact ⟨vs, v, SqL.of (s2 _ _ (s1 _ _ h)), hv⟩
  yld := fun i F H x H' d s1 s2 hd y => by
    obtain ⟨T, z, rfl, hn, rfl, y⟩ := y
    rw [List.getElem?_mapIdx, Option.map_eq_some_iff] at hd
    obtain ⟨d', hd, rfl⟩ := hd
    obtain ⟨v, hv, rv⟩ := r.get hd
    have e := y vs (SqL.of (s2 _ _ (s1 _ _ h)))
    rw [hv] at e
    cases e
    exact .tup s2 hn (.cons (.int _) (.cons (rv.mono s1) .nil))
  stop := fun i F H s1 s2 hi => ⟨vs, SqL.of (s2 _ _ (s1 _ _ h)), by rw [List.length_mapIdx] at hi; rw [r.length]; exact hi⟩
theorem zip_get {α β : Type} {xs : List α} {ys : List β} {i : Nat} (h : i < (xs.zip ys).length) : i < xs.length ∧ i < ys.length := by
  rw [List.length_zip] at h; omega
theorem feed_zipL {a b : Addr} {vs ws : List V} {ds es : List D} (h : F0 a = some (.lst vs)) (r : RepDs K F0 vs ds) (h2 : F0 b = some (.lst ws)) (r2 : RepDs K F0 ws es) : Feed K F0 (Itz K a b) ((ds.zip es).map fun p => .tup [p.1, p.2]) where
  go := fun i F H s1 s2 hi => by
    rw [List.length_map] at hi
    obtain ⟨i1, i2⟩ := zip_get hi
    obtain ⟨v, hv, _⟩ := r.get (i := i) (List.getElem?_eq_getElem i1)
    obtain ⟨u, hu, _⟩ := r2.get (i := i) (List.getElem?_eq_getElem i2)
    exact ⟨vs, ws, v, u, SqL.of (s2 _ _ (s1 _ _ h)), SqL.of (s2 _ _ (s1 _ _ h2)), hv, hu⟩
  yld := fun i F H x H' d s1 s2 hd y => by
    obtain ⟨T, z, z2, rfl, hn, rfl, y, y2⟩ := y
    rw [List.getElem?_map, Option.map_eq_some_iff] at hd
    obtain ⟨⟨d1, d2⟩, hd, rfl⟩ := hd
    obtain ⟨q1, q2⟩ := List.getElem?_zip_eq_some.mp hd
    obtain ⟨v, hv, rv⟩ := r.get q1
    obtain ⟨u, hu, ru⟩ := r2.get q2
    have e := y vs (SqL.of (s2 _ _ (s1 _ _ h)))
    have e2 := y2 ws (SqL.of (s2 _ _ (s1 _ _ h2)))
    rw [hv] at e
    rw [hu] at e2
    cases e; cases e2
    exact .tup s2 hn (.cons (rv.mono s1) (.cons (ru.mono s1) .nil))
  stop := fun i F H s1 s2 hi => ⟨vs, ws, SqL.of (s2 _ _ (s1 _ _ h)), SqL.of (s2 _ _ (s1 _ _ h2)), by
    rw [List.length_map, List.length_zip] at hi; rw [r.length, r2.length]; omega⟩
theorem feed_zipT {a b : Addr} {vs ws : List V} {ds es : List D} (h : SqT K F0 a vs) (r : RepDs K F0 vs ds) (h2 : SqT K F0 b ws) (r2 : RepDs K F0 ws es) : Feed K F0 (RZ.ItzT K a b) ((ds.zip es).map fun p => .tup [p.1, p.2]) where
  go := fun i F H s1 s2 hi => by
    rw [List.length_map] at hi
    obtain ⟨i1, i2⟩ := zip_get hi
    obtain ⟨v, hv, _⟩ := r.get (i := i) (List.getElem?_eq_getElem i1)
    obtain ⟨u, hu, _⟩ := r2.get (i := i) (List.getElem?_eq_getElem i2)
    exact ⟨vs, ws, v, u, sqT_mono s2 (sqT_mono s1 h), sqT_mono s2 (sqT_mono s1 h2), hv, hu⟩
  yld := fun i F H x H' d s1 s2 hd y => by
    obtain ⟨T, z, z2, rfl, hn, rfl, y, y2⟩ := y
    rw [List.getElem?_map, Option.map_eq_some_iff] at hd
    obtain ⟨⟨d1, d2⟩, hd, rfl⟩ := hd
    obtain ⟨q1, q2⟩ := List.getElem?_zip_eq_some.mp hd
    obtain ⟨v, hv, rv⟩ := r.get q1
    obtain ⟨u, hu, ru⟩ := r2.get q2
    have e := y vs (sqT_mono s2 (sqT_mono s1 h))
    have e2 := y2 ws (sqT_mono s2 (sqT_mono s1 h2))
    rw [hv] at e
    rw [hu] at e2
    cases e; cases e2
    exact .tup s2 hn (.cons (rv.mono s1) (.cons (ru.mono s1) .nil))
  stop := fun i F H s1 s2 hi => ⟨vs, ws, sqT_mono s2 (sqT_mono s1 h), sqT_mono s2 (sqT_mono s1 h2), by
    rw [List.length_map, List.length_zip] at hi; rw [r.length, r2.length]; omega⟩
def tI (K : PySem.W.Frag) (ev : Env → Option (List D × Env)) : TI := fun σ H R => ∃ F env Os, Ok K F H σ env Os ∧ ∃ ds e1, ev env = some (ds, e1) ∧
  ∀ J F' H' Os', Ok K F' H' σ e1 Os' → Tr F H Os.flatten F' H' Os'.flatten → Feed K F' J ds → R J H'

/-! ### slots by places -/
theorem slots_of {F H : Hp} : ∀ {σ : L2.St} {env : Env} {Os : List (List Addr)}, σ.length = env.length → Os.length = env.length → (∀ (i : Nat) v m O, σ[i]? = some v → env[i]? = some m → Os[i]? = some O → SlotOk K F H v m O) → Slots K F H σ env Os
  | [], [], [], _, _, _ => .nil
  | v :: σ, m :: env, O :: Os, l1, l2, h => .cons (h 0 v m O rfl rfl rfl) (slots_of (by simpa using l1) (by simpa using l2) fun i v m O a b c => h (i + 1) v m O (by simpa using a) (by simpa using b) (by simpa using c))
  | [], [], _ :: _, _, l, _ => by simp at l
  | [], _ :: _, _, l, _, _ => by simp at l
  | _ :: _, [], _, l, _, _ => by simp at l
  | _ :: _, _ :: _, [], _, l, _ => by simp at l
theorem Slots.at {F H : Hp} : ∀ {σ : L2.St} {env : Env} {Os : List (List Addr)} {i : Nat} {v : Option V} {m : Option M} {O : List Addr}, Slots K F H σ env Os → σ[i]? = some v → env[i]? = some m → Os[i]? = some O → SlotOk K F H v m O
  | _, _, _, _, _, _, _, .nil, h, _, _ => by simp at h
  | _, _, _, 0, _, _, _, .cons s _, h1, h2, h3 => by simp at h1 h2 h3; subst h1 h2 h3; exact s
  | _, _, _, i + 1, _, _, _, .cons _ t, h1, h2, h3 => Slots.at (i := i) t (by simpa using h1) (by simpa using h2) (by simpa using h3)
theorem wipe_get (σ : L2.St) (j : Nat) : ∀ vs : List Nat, (wipe σ vs)[j]? = if j ∈ vs then σ[j]?.map (fun _ => none) else σ[j]?
  | [] => by simp [wipe]
  | v :: vs => by
    unfold wipe
    have ih := wipe_get σ j vs
    by_cases h : v = j
    · subst h
      rw [if_pos List.mem_cons_self]
      by_cases hl : v < σ.length
      · rw [List.getElem?_set_self (by rw [wipe_length]; exact hl), List.getElem?_eq_getElem hl]; rfl
      · rw [List.getElem?_eq_none (by rw [List.length_set, wipe_length]; omega), List.getElem?_eq_none (by omega)]; rfl
    · rw [List.getElem?_set_ne h, ih]
      by_cases h2 : j ∈ vs
      · rw [if_pos h2, if_pos (List.mem_cons_of_mem _ h2)]
      · rw [if_neg h2, if_neg fun z => (List.mem_cons.mp z).elim (fun q => h q.symm) h2]
theorem wipeE_len (σ : Env) : ∀ vs : List Nat, (wipeE σ vs).length = σ.length
  | [] => rfl
  | v :: vs => by unfold wipeE; rw [List.length_set, wipeE_len σ vs]
theorem wipeE_get (σ : Env) (j : Nat) : ∀ vs : List Nat, (wipeE σ vs)[j]? = if j ∈ vs then σ[j]?.map (fun _ => none) else σ[j]?
  | [] => by simp [wipeE]
  | v :: vs => by
    unfold wipeE
    have ih := wipeE_get σ j vs
    by_cases h : v = j
    · subst h
      rw [if_pos List.mem_cons_self]
      by_cases hl : v < σ.length
      · rw [List.getElem?_set_self (by rw [wipeE_len]; exact hl), List.getElem?_eq_getElem hl]; rfl
      · rw [List.getElem?_eq_none (by rw [List.length_set, wipeE_len]; omega), List.getElem?_eq_none (by omega)]; rfl
    · rw [List.getElem?_set_ne h, ih]
      by_cases h2 : j ∈ vs
      · rw [if_pos h2, if_pos (List.mem_cons_of_mem _ h2)]
      · rw [if_neg h2, if_neg fun z => (List.mem_cons.mp z).elim (fun q => h q.symm) h2]
def wipeO : List (List Addr) → List Nat → List (List Addr)
  | O, [] => O
  | O, v :: vs => (wipeO O vs).set v []
theorem wipeO_len (O : List (List Addr)) : ∀ vs : List Nat, (wipeO O vs).length = O.length
  | [] => rfl
  | v :: vs => by unfold wipeO; rw [List.length_set, wipeO_len O vs]
theorem wipeO_get (σ : List (List Addr)) (j : Nat) : ∀ vs : List Nat, (wipeO σ vs)[j]? = if j ∈ vs then σ[j]?.map (fun _ => []) else σ[j]?
  | [] => by simp [wipeO]
  | v :: vs => by
    unfold wipeO
    have ih := wipeO_get σ j vs
    by_cases h : v = j
    · subst h
      rw [if_pos List.mem_cons_self]
      by_cases hl : v < σ.length
      · rw [List.getElem?_set_self (by rw [wipeO_len]; exact hl), List.getElem?_eq_getElem hl]; rfl
      · rw [List.getElem?_eq_none (by rw [List.length_set, wipeO_len]; omega), List.getElem?_eq_none (by omega)]; rfl
    · rw [List.getElem?_set_ne h, ih]
      by_cases h2 : j ∈ vs
      · rw [if_pos h2, if_pos (List.mem_cons_of_mem _ h2)]
      · rw [if_neg h2, if_neg fun z => (List.mem_cons.mp z).elim (fun q => h q.symm) h2]
theorem set_nil_sub : ∀ (Os : List (List Addr)) (i : Nat), (Os.set i []).flatten.Sublist Os.flatten
  | [], _ => by simp
  | O :: r, 0 => by simp
  | O :: r, i + 1 => by
    rw [List.set_cons_succ, List.flatten_cons, List.flatten_cons]
    exact List.Sublist.append (List.Sublist.refl _) (set_nil_sub r i)
theorem wipeO_sub (Os : List (List Addr)) : ∀ vs : List Nat, (wipeO Os vs).flatten.Sublist Os.flatten
  | [] => List.Sublist.refl _
  | v :: vs => (set_nil_sub _ v).trans (wipeO_sub Os vs)
theorem Tr.sub {F H F' H' : Hp} {O O1 O2 : List Addr} (t : Tr F H O F' H' O1) (s : ∀ a ∈ O2, a ∈ O1) : Tr F H O F' H' O2 := ⟨t.ff, t.fr, fun a h => t.nw a (s a h), t.fn, t.dm⟩
/-- forgetting names -/
theorem Ok.wipe {F H : Hp} {σ : L2.St} {env : Env} {Os : List (List Addr)} (ok : Ok K F H σ env Os) {σw : L2.St} (vs : List Nat) (hw : wipe σ vs = σw) : Ok K F H σw (wipeE env vs) (wipeO Os vs) := by
  subst hw
  have s := wipeO_sub Os vs
  refine ⟨ok.le, s.nodup ok.nd, fun a h => ok.dj a (s.subset h), slots_of ?_ ?_ fun i v m O h1 h2 h3 => ?_⟩
  · rw [wipe_length, wipeE_len]; exact ok.sl.len.1
  · rw [wipeO_len, wipeE_len]; exact ok.sl.len.2
  · rw [wipe_get] at h1
    rw [wipeE_get] at h2
    rw [wipeO_get] at h3
    by_cases hi : i ∈ vs
    · rw [if_pos hi] at h2 h3
      rw [Option.map_eq_some_iff] at h2 h3
      obtain ⟨_, _, rfl⟩ := h2
      obtain ⟨_, _, rfl⟩ := h3
      exact .emp
    · rw [if_neg hi] at h1 h2 h3
      exact ok.sl.at h1 h2 h3
/-! ### targets -/
def tG (K : PySem.W.Frag) (tg : Tg) : TG := fun v σ H Q => ∃ F env Os d, Ok K F H σ env Os ∧ RepD K F v d ∧ ∃ e1, asg tg d env = some e1 ∧
  ∀ σ' Os', Ok K F H σ' e1 Os' → (∀ a ∈ Os'.flatten, a ∈ Os.flatten) → (∀ j : Nat, j ∉ tgSl tg → σ'[j]? = σ[j]?) → σ'.length = σ.length → Q σ' H
def tGs (K : PySem.W.Frag) (tg : Tgs) : TGs := fun vs σ H Q => ∃ F env Os ds, Ok K F H σ env Os ∧ RepDs K F vs ds ∧ ∃ e1, asgs tg ds env = some e1 ∧
  ∀ σ' Os', Ok K F H σ' e1 Os' → (∀ a ∈ Os'.flatten, a ∈ Os.flatten) → (∀ j : Nat, j ∉ tgsSl tg → σ'[j]? = σ[j]?) → σ'.length = σ.length → Q σ' H
theorem Ok.store {F H : Hp} {σ : L2.St} {env : Env} {Os : List (List Addr)} (ok : Ok K F H σ env Os) {i : Nat} {v : V} {d : D} (r : RepD K F v d) : Ok K F H (σ.set i (some v)) (env.set i (some (.val d))) (Os.set i []) := by
  have s := set_nil_sub Os i
  exact ⟨ok.le, s.nodup ok.nd, fun a h => ok.dj a (s.subset h), ok.sl.put2 (.has (.val r))⟩
end
theorem pgW {X : Cx} {e : Expr} {t t' : TG} (h : PG X e t) (w : ∀ v σ H Q, t' v σ H Q → t v σ H Q) : PG X e t' := ⟨fun pins s σ H v u Q I r hq => h.run pins s σ H v u Q I r (w v σ H Q hq)⟩
theorem pgsW {X : Cx} {e : List Expr} {t t' : TGs} (h : PGs X e t) (w : ∀ v σ H Q, t' v σ H Q → t v σ H Q) : PGs X e t' := ⟨fun pins s σ H v u Q I r hq => h.run pins s σ H v u Q I r (w v σ H Q hq)⟩
theorem asgLen {e : Expr} {es : List Expr} {env : PySem.Env} (h : noStar e = true) : (assignEach (e :: es) env).map (·.2) = assign e env :: (assignEach es env).map (·.2) := by
  cases e <;> first | rfl | cases h
mutual
theorem asg_len : ∀ {tg : Tg} {d : D} {env e1 : Env}, asg tg d env = some e1 → e1.length = env.length
  | .nm i, d, env, e1, h => by
    simp only [asg] at h
    split at h
    · cases h; rw [List.length_set]
    · cases h
  | .tup ts, .tup ds, env, e1, h => asgs_len (by simpa [asg] using h)
  | .tup _, .non, _, _, h => by simp [asg] at h
  | .tup _, .bl _, _, _, h => by simp [asg] at h
  | .tup _, .int _, _, _, h => by simp [asg] at h
  | .tup _, .str _, _, _, h => by simp [asg] at h
  | .tup _, .lst _, _, _, h => by simp [asg] at h
  | .tup _, .dic _, _, _, h => by simp [asg] at h
  | .tup _, .scr _, _, _, h => by simp [asg] at h
theorem asgs_len : ∀ {tg : Tgs} {d : List D} {env e1 : Env}, asgs tg d env = some e1 → e1.length = env.length
  | .nil, [], env, e1, h => by simp [asgs] at h; rw [h]
  | .nil, _ :: _, _, _, h => by simp [asgs] at h
  | .cons _ _, [], _, _, h => by simp [asgs] at h
  | .cons t r, d :: ds, env, e1, h => by
    simp only [asgs] at h
    split at h
    · rename_i e2 h2
      rw [asgs_len h, asg_len h2]
    · cases h
end
section
variable {C : CK}
mutual
theorem sTg {X : Cx} {sc : Scope} (hc : X.calm = true) (nd : X.N.Nodup) (hN : C.N = X.N) (s : ScOk X sc) : ∀ (tg : Tg) {ex : Expr}, chkTg C sc tg ex = true → PG X ex (tG X.K tg)
  | .nm i, ex, h => by
    cases ex with
    | Name x p =>
      have h : wrOk C sc i x = true := h
      obtain ⟨h1, h2, h3⟩ := wr_pg hN nd s h
      refine pgW (pg_name nd h1 h2 h3) fun v σ H Q ⟨F, env, Os, d, ok, r, e1, he, k⟩ => ?_
      simp only [asg] at he
      split at he
      · cases he
        exact k _ _ (ok.store r) (fun a ha => (set_nil_sub Os i).subset ha) (fun j hj => by rw [List.getElem?_set_ne fun z => hj (by simp [tgSl, z])]) (by rw [List.length_set])
      · cases he
    | _ => exact (Bool.false_ne_true h).elim
  | .tup ts, ex, h => by
    cases ex with
    | Tuple xs n p =>
      have h : chkTgs C sc ts xs = true := h
      obtain ⟨h1, h2, h3⟩ := sTgs hc nd hN s ts h
      refine pgW (pg_tup hc h1 rfl h2) fun v σ H Q ⟨F, env, Os, d, ok, r, e1, he, k⟩ => ?_
      cases d with
      | tup ds =>
        cases r with
        | tup hq rs =>
          simp only [asg] at he
          refine ⟨_, _, rfl, sqT_mono ok.le hq, ?_, F, env, Os, ds, ok, rs, e1, he, fun σ' Os' o1 o2 o3 o4 => k σ' Os' o1 o2 (by simpa only [tgSl] using o3) o4⟩
          rw [rs.length]
          exact (h3 _ _ _ he).symm
      | _ => simp [asg] at he
    | _ => exact (Bool.false_ne_true h).elim
theorem sTgs {X : Cx} {sc : Scope} (hc : X.calm = true) (nd : X.N.Nodup) (hN : C.N = X.N) (s : ScOk X sc) : ∀ (tg : Tgs) {ex : List Expr}, chkTgs C sc tg ex = true → PGs X ex (tGs X.K tg) ∧ (assignEach ex X.env).findIdx? (·.1) = none ∧ ∀ ds env e1, asgs tg ds env = some e1 → (assignEach ex X.env).length = ds.length
  | .nil, ex, h => by
    cases ex with
    | nil =>
      refine ⟨pgsW pgs_nil fun v σ H Q ⟨F, env, Os, ds, ok, r, e1, he, k⟩ => ?_, rfl, fun ds env e1 he => ?_⟩
      · cases ds with
        | nil =>
          simp only [asgs] at he
          cases he
          cases r
          exact ⟨rfl, k σ Os ok (fun a h => h) (fun _ _ => rfl) rfl⟩
        | cons _ _ => simp [asgs] at he
      · cases ds with
        | nil => rfl
        | cons _ _ => simp [asgs] at he
    | cons _ _ => exact (Bool.false_ne_true h).elim
  | .cons t r, ex, h => by
    cases ex with
    | nil => exact (Bool.false_ne_true h).elim
    | cons x xs =>
      have h : (chkTg C sc t x && noStar x && chkTgs C sc r xs) = true := h
      simp only [Bool.and_eq_true] at h
      obtain ⟨⟨h1, h2⟩, h3⟩ := h
      obtain ⟨g1, g2, g3⟩ := sTgs hc nd hN s r h3
      have ha : assignEach (x :: xs) X.env = (false, assign x X.env) :: assignEach xs X.env := by cases x <;> first | rfl | cases h2
      refine ⟨pgsW (pgs_cons (sTg hc nd hN s t h1) g1 (asgLen h2)) fun v σ H Q ⟨F, env, Os, ds, ok, rs, e1, he, k⟩ => ?_, by rw [ha]; simpa [List.findIdx?_cons] using g2, fun ds env e1 he => ?_⟩
      · cases ds with
        | nil => simp [asgs] at he
        | cons d ds =>
          cases rs with
          | cons r1 rs =>
            simp only [asgs] at he
            split at he
            · rename_i e2 h4
              refine ⟨_, _, rfl, F, env, Os, d, ok, r1, e2, h4, fun σ' Os' o1 o2 o3 o4 => ⟨F, e2, Os', ds, o1, rs, e1, he, fun σ2 Os2 p1 p2 p3 p4 => k σ2 Os2 p1 (fun a ha => o2 a (p2 a ha)) (fun j hj => ?_) (p4.trans o4)⟩⟩
              simp only [tgsSl, List.mem_append, not_or] at hj
              rw [p3 j hj.2, o3 j hj.1]
            · cases he
      · cases ds with
        | nil => simp [asgs] at he
        | cons d ds =>
          simp only [asgs] at he
          split at he
          · rw [ha, List.length_cons, List.length_cons, g3 _ _ _ he]
          · cases he
end
end
end IL
set_option Elab.async false
set_option linter.all false
set_option maxRecDepth 100000
set_option maxHeartbeats 4000000
/-! comprehensions -/
namespace IL
open PySem PySem.Spec PyProof.Rows L2

section
variable {K : PySem.W.Frag}
theorem wipe_eq {σ σ' : L2.St} {vs : List Nat} (h : ∀ j : Nat, j ∉ vs → σ'[j]? = (wipe σ vs)[j]?) (hl : σ'.length = (wipe σ vs).length) : wipe σ' vs = wipe σ vs := by
  apply List.ext_getElem?
  intro j
  rw [wipe_get, wipe_get]
  by_cases hj : j ∈ vs
  · rw [if_pos hj, if_pos hj]
    rw [wipe_length] at hl
    by_cases q : j < σ.length
    · rw [List.getElem?_eq_getElem q, List.getElem?_eq_getElem (by rw [hl]; exact q)]; rfl
    · rw [List.getElem?_eq_none (by omega), List.getElem?_eq_none (by omega)]
  · rw [if_neg hj, if_neg hj]
    have := h j hj
    rw [wipe_get, if_neg hj] at this
    exact this
theorem wipe_wipe {σ : L2.St} {vs : List Nat} : wipe (wipe σ vs) vs = wipe σ vs := wipe_eq (fun _ _ => rfl) rfl
theorem wipeE_wipeE {σ : Env} {vs : List Nat} : wipeE (wipeE σ vs) vs = wipeE σ vs := by
  apply List.ext_getElem?
  intro j
  rw [wipeE_get, wipeE_get]
  by_cases hj : j ∈ vs
  · rw [if_pos hj, if_pos hj]; cases σ[j]? <;> rfl
  · rw [if_neg hj]
theorem backE_len (env0 : Env) : ∀ (env : Env) (vs : List Nat), (backE env0 env vs).length = env.length
  | _, [] => rfl
  | env, v :: vs => by unfold backE; rw [List.length_set, backE_len env0 env vs]
theorem backE_get (env0 env : Env) (j : Nat) (hl : env0.length = env.length) : ∀ vs : List Nat, (backE env0 env vs)[j]? = if j ∈ vs then (env0[j]?.map fun | some (.val d) => some (M.val d) | _ => none) else env[j]?
  | [] => by simp [backE]
  | v :: vs => by
    unfold backE
    have ih := backE_get env0 env j hl vs
    by_cases h : v = j
    · subst h
      rw [if_pos List.mem_cons_self]
      by_cases q : v < env.length
      · rw [List.getElem?_set_self (by rw [backE_len]; exact q), List.getElem?_eq_getElem (by omega)]
        simp only [Option.map_some]
        congr 1
        cases hv : env0[v] with
        | none => rfl
        | some m => cases m <;> rfl
      · rw [List.getElem?_eq_none (by rw [List.length_set, backE_len]; omega), List.getElem?_eq_none (by omega)]; rfl
    · rw [List.getElem?_set_ne h, ih]
      by_cases h2 : j ∈ vs
      · rw [if_pos h2, if_pos (List.mem_cons_of_mem _ h2)]
      · rw [if_neg h2, if_neg fun z => (List.mem_cons.mp z).elim (fun q => h q.symm) h2]
/-- behind a comprehension: the def's own names -/
theorem Ok.behind {F1 H1 F H : Hp} {σ : L2.St} {e1 e : Env} {Os1 Os : List (List Addr)} (ok1 : Ok K F1 H1 σ e1 Os1) (vs : List Nat) (ok : Ok K F H (L2.wipe σ vs) (wipeE e vs) Os) (s : Same F1 F) : Ok K F H σ (backE e1 e vs) Os := by
  have l1 := ok1.sl.len
  have l2 := ok.sl.len
  rw [wipe_length, wipeE_len] at l2
  have hl : e1.length = e.length := l1.1.symm.trans l2.1
  refine ⟨ok.le, ok.nd, ok.dj, slots_of (by rw [backE_len]; exact l2.1) (by rw [backE_len]; exact l2.2) fun i v m O h1 h2 h3 => ?_⟩
  rw [backE_get _ _ _ hl] at h2
  by_cases hi : i ∈ vs
  · rw [if_pos hi, Option.map_eq_some_iff] at h2
    obtain ⟨m1, h4, rfl⟩ := h2
    have hO : O = [] := by
      have hw : (wipeE e vs)[i]? = some none := by
        rw [wipeE_get, if_pos hi]
        have : i < e.length := by
          have := (List.getElem?_eq_some_iff.mp h4).1
          omega
        rw [List.getElem?_eq_getElem this]; rfl
      have := slots_none ok.sl hw
      rw [h3] at this
      simpa using this
    subst hO
    cases m1 with
    | none => exact .emp
    | some m1 =>
      cases m1 with
      | val d =>
        obtain ⟨v', O', g1, g2, g3⟩ := ok1.sl.get h4
        rw [h1] at g1
        cases g1
        cases g3 with
        | val r => exact .has (.val (r.mono s))
      | lst _ => exact .emp
      | dic _ => exact .emp
  · rw [if_neg hi] at h2
    refine ok.sl.at (i := i) ?_ ?_ h3
    · rw [wipe_get, if_neg hi]; exact h1
    · rw [wipeE_get, if_neg hi]; exact h2
/-- what a list comprehension asks of its parts -/
theorem lc_run {tg : Tg} {test elt : Env → Option (D × Env)} {own : List Nat} {wi : TI} {it : Env → Option (List D × Env)} {tt : TT} {te : TE} {σ : L2.St} {H : Hp} {Q : VK}
    (hw : ∀ σ H R, tI K it σ H R → wi σ H R) (ht : ∀ σ H Q, tT K test σ H Q → tt σ H Q) (he : ∀ σ H Q, tD K elt σ H Q → te σ H Q) (hown : (tgSl tg).all (fun j => own.contains j) = true)
    {F : Hp} {env : Env} {Os : List (List Addr)} (ok : Ok K F H σ env Os) {ds rs : List D} {e1 e2 : Env} (h1 : it env = some (ds, e1)) (h2 : lcLoop tg test elt own ds e1 = some (rs, e2)) (hsz : ds.length ≤ 1000000)
    (k : ∀ v F' H' O Os', Ok K F' H' σ (backE e1 e2 own) Os' → Tr F H Os.flatten F' H' (O ++ Os'.flatten) → (O ++ Os'.flatten).Nodup → (∀ a ∈ O, F' a = none) → RepM K F' H' v (.lst rs) O → Q v H') :
    tLc wi (tG K tg) tt te own σ H Q := by
  refine hw _ _ _ ⟨F, env, Os, ok, ds, e1, h1, fun J F1 H1 Os1 ok1 tr1 fd => ?_⟩
  intro Dl hD
  have hF1D : F1 Dl = none := same_le ok1.le hD
  have sD := same_new (o := HO.lst []) hD
  refine ⟨fun i m H2 => i ≤ ds.length ∧ m = ds.length - i ∧ ∃ F2 e Os2 acc ads rest efin, Ok K F2 H2 (wipe σ own) (wipeE e own) Os2 ∧ Tr F1 H1 Os1.flatten F2 H2 Os2.flatten ∧ H2 Dl = some (.lst acc) ∧ F2 Dl = none ∧ Dl ∉ Os2.flatten ∧ RepDs K F2 acc ads ∧
      lcLoop tg test elt own (ds.drop i) e = some (rest, efin) ∧ rs = ads ++ rest ∧ efin = e2 ∧ acc.length ≤ i, ⟨ds.length, ?_⟩, ?_⟩
  · have okw := ok1.wipe own (σw := wipe σ own) rfl
    refine ⟨Nat.zero_le _, by simp, F1, e1, wipeO Os1 own, [], [], rs, e2, ?_, ?_, upd_same, hF1D, ?_, .nil, by simpa using h2, rfl, rfl, Nat.zero_le _⟩
    · exact ⟨okw.le.trans sD, okw.nd, okw.dj, okw.sl.mono (Same.refl _) fun a _ o e => sD a o e⟩
    · exact ⟨Same.refl _, fun a o e _ => sD a o e, fun a ha => .inl ((wipeO_sub Os1 own).subset ha), fun a h => .inl h, fun a h => by
        cases q : H1 a with
        | none => rfl
        | some o => rw [sD a o q] at h; cases h⟩
    · exact fun z => ok1.sl.dom _ ((wipeO_sub Os1 own).subset z) hD
  · rintro i m H2 ⟨hi, rfl, F2, e, Os2, acc, ads, rest, efin, ok2, tr2, hd, hf, hn, ra, hl, hrs, hfin, hacc⟩
    by_cases hlt : i < ds.length
    · refine .inr ⟨fd.go i F2 H2 tr2.ff ok2.le hlt, ?_⟩
      have hdrop : ds.drop i = ds[i] :: ds.drop (i + 1) := List.drop_eq_getElem_cons hlt
      rw [hdrop] at hl
      simp only [lcLoop] at hl
      split at hl
      · cases hl
      · rename_i ea hea
        refine ⟨fun H' => (fun m => i + 1 ≤ ds.length ∧ m = ds.length - (i + 1) ∧ ∃ F2 e Os2 acc ads rest efin, Ok K F2 H' (wipe σ own) (wipeE e own) Os2 ∧ Tr F1 H1 Os1.flatten F2 H' Os2.flatten ∧ H' Dl = some (.lst acc) ∧ F2 Dl = none ∧ Dl ∉ Os2.flatten ∧ RepDs K F2 acc ads ∧
          lcLoop tg test elt own (ds.drop (i + 1)) e = some (rest, efin) ∧ rs = ads ++ rest ∧ efin = e2 ∧ acc.length ≤ i + 1) (ds.length - (i + 1)), fun H' h' => ⟨ds.length - (i + 1), by omega, h'⟩, fun x H3 hy => ?_⟩
        have rs3 := fd.yld i F2 H2 x H3 ds[i] tr2.ff ok2.le (List.getElem?_eq_getElem hlt) hy
        obtain ⟨F3, O3, ok3, tr3, nd3, dj3, rm3⟩ := ok2.rs rs3
        cases rm3 with
        | val r3 =>
          rw [List.nil_append] at tr3
          have keep3 : H3 Dl = some (.lst acc) := tr3.fr _ _ hd hn
          have ff3 : F3 Dl = none := by
            cases q : F3 Dl with
            | none => rfl
            | some o =>
              rcases tr3.fn Dl (by rw [q]; exact fun z => (nomatch z)) with z | z | z
              · exact absurd hf z
              · exact absurd z hn
              · rw [hd] at z; cases z
          refine ⟨F3, wipeE e own, Os2, ds[i], ok3, r3, ea, hea, fun σ2 Os4 o1 o2 o3 o4 => ⟨?_, ?_⟩⟩
          · exact wipe_eq (fun j hj => o3 j fun z => hj (by
              have := List.all_eq_true.mp hown j z
              simpa using this)) o4
          · have ew : wipe σ2 own = wipe σ own := wipe_eq (fun j hj => o3 j fun z => hj (by
              have := List.all_eq_true.mp hown j z
              simpa using this)) o4
            have nD4 : Dl ∉ Os4.flatten := fun z => hn (o2 _ z)
            have tr4 : Tr F1 H1 Os1.flatten F3 H3 Os4.flatten := (tr2.trans tr3).sub o2
            -- a step on from here, the new list apart
            have apart : ∀ {F5 H5 : Hp} {Os5 : List (List Addr)}, Tr F3 H3 Os4.flatten F5 H5 Os5.flatten → H5 Dl = some (.lst acc) ∧ F5 Dl = none ∧ Dl ∉ Os5.flatten := fun {F5 H5 Os5} t => by
              refine ⟨t.fr _ _ keep3 nD4, ?_, fun z => ?_⟩
              · cases q : F5 Dl with
                | none => rfl
                | some o =>
                  rcases t.fn Dl (by rw [q]; exact fun z => (nomatch z)) with z | z | z
                  · exact absurd ff3 z
                  · exact absurd z nD4
                  · rw [keep3] at z; cases z
              · rcases t.nw _ z with y | y
                · exact nD4 y
                · rw [keep3] at y; cases y
            split at hl
            · rename_i eb hb
              refine ht _ _ _ ⟨F3, ea, Os4, o1, true, eb, hb, fun F5 H5 Os5 ok5 tr5 => ?_⟩
              refine iteT ?_
              split at hl
              · rename_i d ec hc
                split at hl
                · rename_i ds' ed hd'
                  cases hl
                  refine he _ _ _ ⟨F5, eb, Os5, ok5, d, ec, hc, fun y F6 H6 Os6 ok6 tr6 r6 => ?_⟩
                  obtain ⟨a1, a2, a3⟩ := apart (tr5.trans tr6)
                  have up : ∀ a, a ≠ Dl → upd H6 Dl (.lst (acc ++ [y])) a = H6 a := fun a h => upd_ne h
                  have ok7 : Ok K F6 (upd H6 Dl (.lst (acc ++ [y]))) σ2 ec Os6 := ⟨fun a o e => by
                    rw [up a fun z => by rw [z, a2] at e; cases e]
                    exact ok6.le a o e, ok6.nd, ok6.dj, ok6.sl.mono (Same.refl _) fun a ha o e => by
                    rw [up a fun z => a3 (z ▸ ha)]
                    exact e⟩
                  have trx := (tr4.trans (tr5.trans tr6))
                  refine ⟨acc, a1, Nat.lt_of_le_of_lt (Nat.le_trans hacc (Nat.le_trans hi hsz)) (by decide), by omega, rfl, F6, ec, wipeO Os6 own, acc ++ [y], ads ++ [d], _, _, ok7.wipe own ew, ?_, upd_same, a2, fun z => a3 ((wipeO_sub Os6 own).subset z), (ra.mono (tr3.ff.trans (tr5.ff.trans tr6.ff))).app (.cons r6 .nil), hd', by rw [hrs]; simp, hfin, by rw [List.length_append]; simpa using hacc⟩
                  refine ⟨trx.ff, fun a o e hna => ?_, fun a ha => trx.nw a ((wipeO_sub Os6 own).subset ha), trx.fn, fun a ha => ?_⟩
                  · rw [up a fun z => by rw [z, hD] at e; cases e]
                    exact trx.fr a o e hna
                  · by_cases q : a = Dl
                    · rw [q]; exact hD
                    · rw [up a q] at ha; exact trx.dm a ha
                · cases hl
              · cases hl
            · rename_i eb hb
              refine ht _ _ _ ⟨F3, ea, Os4, o1, false, eb, hb, fun F5 H5 Os5 ok5 tr5 => ?_⟩
              refine iteF ?_
              obtain ⟨a1, a2, a3⟩ := apart tr5
              have trx := tr4.trans tr5
              exact ⟨by omega, rfl, F5, eb, wipeO Os5 own, acc, ads, rest, efin, ok5.wipe own ew, trx.sub fun a ha => (wipeO_sub Os5 own).subset ha, a1, a2, fun z => a3 ((wipeO_sub Os5 own).subset z), ra.mono (tr3.ff.trans tr5.ff), hl, hrs, hfin, Nat.le_succ_of_le hacc⟩
            · cases hl
    · have ei : i = ds.length := by omega
      subst ei
      refine .inl ⟨fd.stop _ F2 H2 tr2.ff ok2.le (Nat.le_refl _), ?_⟩
      rw [List.drop_length] at hl
      simp only [lcLoop] at hl
      cases hl
      rw [List.append_nil] at hrs
      subst hrs hfin
      have okb := ok1.behind own ok2 tr2.ff
      have trx := tr1.trans tr2
      refine k (.ref Dl) F2 H2 [Dl] Os2 okb ?_ (by rw [List.singleton_append]; exact List.nodup_cons.mpr ⟨hn, ok2.nd⟩) (fun a ha => by rw [List.mem_singleton.mp ha]; exact hf) (.lst hd ra)
      refine ⟨trx.ff, trx.fr, fun a ha => ?_, trx.fn, trx.dm⟩
      rcases List.mem_append.mp ha with z | z
      · rw [List.mem_singleton.mp z]
        exact .inr (tr1.dm _ hD)
      · exact trx.nw a z
end
end IL
set_option Elab.async false
set_option linter.all false
set_option maxRecDepth 100000
set_option maxHeartbeats 8000000
/-! every expression that is looked at does what the small language says -/
namespace IL
open PySem PySem.Spec PyProof.Rows L2

theorem pwW {X : Cx} {e : Expr} {t t' : TT} (h : PW X e t) (w : ∀ σ H Q, t' σ H Q → t σ H Q) : PW X e t' := ⟨fun wh pins s σ H Q I hq => h.run wh pins s σ H Q I (w σ H Q hq)⟩
theorem ptsW {X : Cx} {e : List Expr} {t t' : TT} (h : PTs X e t) (w : ∀ σ H Q, t' σ H Q → t σ H Q) : PTs X e t' := ⟨fun pins s σ H Q I hq => h.run pins s σ H Q I (w σ H Q hq)⟩
theorem piW {X : Cx} {tg e : Expr} {t t' : TI} (h : PI X tg e t) (w : ∀ σ H Q, t' σ H Q → t σ H Q) : PI X tg e t' := ⟨fun pins s σ H Q I hq => h.run pins s σ H Q I (w σ H Q hq)⟩
theorem poW {X : Cx} {e : Option Expr} {t t' : TO} (h : PO X e t) (w : ∀ σ H Q, t' σ H Q → t σ H Q) : PO X e t' := ⟨fun pins s σ H Q I hq => h.run pins s σ H Q I (w σ H Q hq)⟩
theorem b2 {a b : Bool} (h : (a && b) = true) : a = true ∧ b = true := Bool.and_eq_true_iff.mp h
theorem noMark {b : Expr} {op : CmpOp} (h : noSet b = true) : behindInMarks op b = false := by
  cases b <;> first | rfl | cases h
theorem foldId {b : Expr} {env : PySem.Env} (h : noSet b = true) : ∀ x, foldedSetIterable b env x = pure x := by
  intro x
  cases b <;> first | rfl | cases h
theorem plIx {b : Expr} (h : plainE b = true) : PlainIx b := by
  intro o i
  cases b <;> first | rfl | cases h
theorem starOne {e : Expr} {env : PySem.Env} (h : noStar e = true) : starEach [e] env = [(false, eval e env)] := starCons h
theorem View.ne_non {K : PySem.W.Frag} {F H : Hp} {v : V} {d : D} (h : View K F H v d) (hd : d ≠ .non) : v ≠ .non := by
  intro e
  subst e
  cases h with | d r => cases r; exact hd rfl
section
variable {K : PySem.W.Frag} {F H : Hp} {σ : L2.St}
/-- an operation's outcome handed on -/
theorem done {F0 H0 : Hp} {O0 : List Addr} {env : Env} {Os : List (List Addr)} {m : M} {Q : VK} (ok : Ok K F H σ env Os) (tr : Tr F0 H0 O0 F H Os.flatten)
    (k : ∀ v F' H' O Os', Ok K F' H' σ env Os' → Tr F0 H0 O0 F' H' (O ++ Os'.flatten) → (O ++ Os'.flatten).Nodup → (∀ a ∈ O, F' a = none) → RepM K F' H' v m O → Q v H') : ∀ v H', Rs K F H m v H' → Q v H' := fun v H' h => by
  obtain ⟨F', O, h1, h2, h3, h4, h5⟩ := ok.rs h
  exact k v F' H' O Os h1 (tr.trans h2) h3 h4 h5
/-- a plain value handed on -/
theorem plain {F0 H0 : Hp} {O0 : List Addr} {env : Env} {Os : List (List Addr)} {d : D} {v : V} {Q : VK} (ok : Ok K F H σ env Os) (tr : Tr F0 H0 O0 F H Os.flatten)
    (k : ∀ v F' H' O Os', Ok K F' H' σ env Os' → Tr F0 H0 O0 F' H' (O ++ Os'.flatten) → (O ++ Os'.flatten).Nodup → (∀ a ∈ O, F' a = none) → RepM K F' H' v (.val d) O → Q v H') (r : RepD K F v d) : Q v H :=
  k v F H [] Os ok tr ok.nd (fun a z => (nomatch z)) (.val r)
end
section
variable {X : Cx} {gv : Nat → D} {cal : Nat → List M → Option (M × List M)}
theorem bin_pe {op : BOp} {a b : O} {l r : Expr} {p : Pos} (ha : PE X l (tOv X.K (evO gv cal a))) (hb : PE X r (tOv X.K (evO gv cal b))) : PE X (.BinOp l (bopPy op) r p) (tM X.K (evE gv cal (.bin op a b))) := by
  refine peW (pe_op (or_bin op) ha hb) fun σ H Q ⟨F, env, Os, ok, m, e1, he, k⟩ => ?_
  simp only [evE] at he
  split at he
  · rename_i x ea h1
    split at he
    · rename_i y eb h2
      split at he
      · rename_i p q h3 h4
        split at he
        · rename_i m' h5
          cases he
          refine ⟨F, env, Os, ok, x, ea, h1, fun v1 F1 H1 Os1 ok1 tr1 o1 => ⟨F1, ea, Os1, ok1, y, _, h2, fun v2 F2 H2 Os2 ok2 tr2 o2 => ?_⟩⟩
          exact bin_ok ok2.le ((o1.mono tr2.ff).view ok2 h3) (o2.view ok2 h4) h5 (done ok2 (tr1.trans tr2) k)
        · cases he
      · cases he
    · cases he
  · cases he
theorem neg_pe {a : O} {l : Expr} {p : Pos} (ha : PE X l (tOv X.K (evO gv cal a))) : PE X (.UnaryOp .USub l p) (tM X.K (evE gv cal (.neg a))) := by
  refine peW (pe_un un_neg ha) fun σ H Q ⟨F, env, Os, ok, m, e1, he, k⟩ => ?_
  simp only [evE] at he
  split at he
  · rename_i x ea h1
    split at he
    · rename_i i h2
      cases he
      refine ⟨F, env, Os, ok, x, _, h1, fun v1 F1 H1 Os1 ok1 tr1 o1 => ⟨i, (o1.view ok1 h2).int, plain ok1 tr1 k (.int _)⟩⟩
    · cases he
  · cases he
theorem cmp_pe (hu : X.A.units + 64 < cLine) {op : COp} {a b : O} {l r : Expr} {p : Pos} (ha : PE X l (tOv X.K (evO gv cal a))) (hb : PE X r (tOv X.K (evO gv cal b))) (hs : noSet r = true) : PE X (.Compare l [copPy op] [r] p) (tM X.K (evE gv cal (.cmp op a b))) := by
  refine peW (pe_cmpR (or_cmp hu op) ha hb (noMark hs)) fun σ H Q ⟨F, env, Os, ok, m, e1, he, k⟩ => ?_
  simp only [evE] at he
  split at he
  · rename_i x ea h1
    split at he
    · rename_i y eb h2
      split at he
      · rename_i p q h3 h4
        split at he
        · rename_i m' h5
          cases he
          refine ⟨F, env, Os, ok, x, ea, h1, fun v1 F1 H1 Os1 ok1 tr1 o1 => ⟨F1, ea, Os1, ok1, y, _, h2, fun v2 F2 H2 Os2 ok2 tr2 o2 => ?_⟩⟩
          exact cmp_ok ok2.le ((o1.mono tr2.ff).view ok2 h3) (o2.view ok2 h4) h5 (plain ok2 (tr1.trans tr2) k (.bl _))
        · cases he
      · cases he
    · cases he
  · cases he
theorem cmp_pt (hu : X.A.units + 64 < cLine) {op : COp} {a b : O} {l r : Expr} {p : Pos} (ha : PE X l (tOv X.K (evO gv cal a))) (hb : PE X r (tOv X.K (evO gv cal b))) (hs : noSet r = true) : PT X (.Compare l [copPy op] [r] p) (tT X.K (fun env => fzR (evE gv cal (.cmp op a b) env))) := by
  refine ptW (pt_cmpR (or_cmp hu op) ha hb (noMark hs)) fun σ H Q ⟨F, env, Os, ok, m, e1, he, k⟩ => ?_
  simp only [evE] at he
  split at he
  · rename_i x ea h1
    split at he
    · rename_i y eb h2
      split at he
      · rename_i p q h3 h4
        split at he
        · rename_i m' h5
          cases he
          refine ⟨F, env, Os, ok, x, ea, h1, fun v1 F1 H1 Os1 ok1 tr1 o1 => ⟨F1, ea, Os1, ok1, y, _, h2, fun v2 F2 H2 Os2 ok2 tr2 o2 => ?_⟩⟩
          exact cmp_ok ok2.le ((o1.mono tr2.ff).view ok2 h3) (o2.view ok2 h4) h5 ⟨m, rfl, k F2 H2 Os2 ok2 (tr1.trans tr2)⟩
        · cases he
      · cases he
    · cases he
  · cases he
theorem isN_pe {a : O} {l : Expr} {p q : Pos} {j : Nat} (ha : PE X l (tOv X.K (evO gv cal a))) : PE X (.Compare l [.Is] [.Constant .none j q] p) (tM X.K (evE gv cal (.isN a))) := by
  refine peW (pe_cmpR op_isN ha pe_non rfl) fun σ H Q ⟨F, env, Os, ok, m, e1, he, k⟩ => ?_
  simp only [evE] at he
  split at he
  · rename_i x ea h1
    split at he
    · rename_i h2
      cases he
      refine ⟨F, env, Os, ok, x, _, h1, fun v1 F1 H1 Os1 ok1 tr1 o1 => ⟨rfl, ?_⟩⟩
      rw [decide_eq_true (o1.view ok1 h2).non]
      exact plain ok1 tr1 k (.bl _)
    · rename_i d hd h2
      cases he
      refine ⟨F, env, Os, ok, x, _, h1, fun v1 F1 H1 Os1 ok1 tr1 o1 => ⟨rfl, ?_⟩⟩
      rw [decide_eq_false ((o1.view ok1 h2).ne_non fun z => hd (by rw [z]))]
      exact plain ok1 tr1 k (.bl _)
    · cases he
  · cases he
theorem notN_pe {a : O} {l : Expr} {p q : Pos} {j : Nat} (ha : PE X l (tOv X.K (evO gv cal a))) : PE X (.Compare l [.IsNot] [.Constant .none j q] p) (tM X.K (evE gv cal (.notN a))) := by
  refine peW (pe_cmpR op_notN ha pe_non rfl) fun σ H Q ⟨F, env, Os, ok, m, e1, he, k⟩ => ?_
  simp only [evE] at he
  split at he
  · rename_i x ea h1
    split at he
    · rename_i h2
      cases he
      refine ⟨F, env, Os, ok, x, _, h1, fun v1 F1 H1 Os1 ok1 tr1 o1 => ⟨rfl, ?_⟩⟩
      rw [decide_eq_true (o1.view ok1 h2).non]
      exact plain ok1 tr1 k (.bl _)
    · rename_i d hd h2
      cases he
      refine ⟨F, env, Os, ok, x, _, h1, fun v1 F1 H1 Os1 ok1 tr1 o1 => ⟨rfl, ?_⟩⟩
      rw [decide_eq_false ((o1.view ok1 h2).ne_non fun z => hd (by rw [z]))]
      exact plain ok1 tr1 k (.bl _)
    · cases he
  · cases he
theorem isN_pt {a : O} {l : Expr} {p q : Pos} {j : Nat} (ha : PE X l (tOv X.K (evO gv cal a))) : PT X (.Compare l [.Is] [.Constant .none j q] p) (tT X.K (fun env => fzR (evE gv cal (.isN a) env))) := by
  refine ptW (pt_cmpR op_isN ha pe_non rfl) fun σ H Q ⟨F, env, Os, ok, m, e1, he, k⟩ => ?_
  simp only [evE] at he
  split at he
  · rename_i x ea h1
    split at he
    · rename_i h2
      cases he
      refine ⟨F, env, Os, ok, x, _, h1, fun v1 F1 H1 Os1 ok1 tr1 o1 => ⟨rfl, ?_⟩⟩
      rw [decide_eq_true (o1.view ok1 h2).non]
      exact ⟨_, rfl, k F1 H1 Os1 ok1 tr1⟩
    · rename_i d hd h2
      cases he
      refine ⟨F, env, Os, ok, x, _, h1, fun v1 F1 H1 Os1 ok1 tr1 o1 => ⟨rfl, ?_⟩⟩
      rw [decide_eq_false ((o1.view ok1 h2).ne_non fun z => hd (by rw [z]))]
      exact ⟨_, rfl, k F1 H1 Os1 ok1 tr1⟩
    · cases he
  · cases he
theorem notN_pt {a : O} {l : Expr} {p q : Pos} {j : Nat} (ha : PE X l (tOv X.K (evO gv cal a))) : PT X (.Compare l [.IsNot] [.Constant .none j q] p) (tT X.K (fun env => fzR (evE gv cal (.notN a) env))) := by
  refine ptW (pt_cmpR op_notN ha pe_non rfl) fun σ H Q ⟨F, env, Os, ok, m, e1, he, k⟩ => ?_
  simp only [evE] at he
  split at he
  · rename_i x ea h1
    split at he
    · rename_i h2
      cases he
      refine ⟨F, env, Os, ok, x, _, h1, fun v1 F1 H1 Os1 ok1 tr1 o1 => ⟨rfl, ?_⟩⟩
      rw [decide_eq_true (o1.view ok1 h2).non]
      exact ⟨_, rfl, k F1 H1 Os1 ok1 tr1⟩
    · rename_i d hd h2
      cases he
      refine ⟨F, env, Os, ok, x, _, h1, fun v1 F1 H1 Os1 ok1 tr1 o1 => ⟨rfl, ?_⟩⟩
      rw [decide_eq_false ((o1.view ok1 h2).ne_non fun z => hd (by rw [z]))]
      exact ⟨_, rfl, k F1 H1 Os1 ok1 tr1⟩
    · cases he
  · cases he
theorem idx_pe {a b : O} {l r : Expr} {p : Pos} (ha : PE X l (tOv X.K (evO gv cal a))) (hb : PE X r (tOv X.K (evO gv cal b))) (hp : plainE r = true) : PE X (.Subscript l r p) (tM X.K (evE gv cal (.idx a b))) := by
  refine peW (pe_ix or_idx ha hb (plIx hp)) fun σ H Q ⟨F, env, Os, ok, m, e1, he, k⟩ => ?_
  simp only [evE] at he
  split at he
  · rename_i x ea h1
    split at he
    · rename_i y eb h2
      split at he
      · rename_i p q h3 h4
        split at he
        · rename_i m' h5
          cases he
          refine ⟨F, env, Os, ok, x, ea, h1, fun v1 F1 H1 Os1 ok1 tr1 o1 => ⟨F1, ea, Os1, ok1, y, _, h2, fun v2 F2 H2 Os2 ok2 tr2 o2 => ?_⟩⟩
          exact idx_ok ok2.le ((o1.mono tr2.ff).view ok2 h3) (o2.view ok2 h4) h5 fun v r => plain ok2 (tr1.trans tr2) k r
        · cases he
      · cases he
    · cases he
  · cases he
def tOo (K : PySem.W.Frag) (ev : Env → Option (Option D × Env)) : TO := fun σ H Q => ∃ F env Os, Ok K F H σ env Os ∧ ∃ x i e1, ev env = some (x, e1) ∧ optI x = some i ∧
  ∀ F' H' Os', Ok K F' H' σ e1 Os' → Tr F H Os.flatten F' H' Os'.flatten → Q i H'
theorem slc_pe {a : O} {lo hi : Oo} {l : Expr} {lo' hi' : Option Expr} {p p2 : Pos} (ha : PE X l (tOv X.K (evO gv cal a))) (hl : PO X lo' (tOo X.K (evOo gv cal lo))) (hh : PO X hi' (tOo X.K (evOo gv cal hi))) : PE X (.Subscript l (.Slice lo' hi' none p2) p) (tM X.K (evE gv cal (.slc a lo hi))) := by
  refine peW (pe_slice or_slc ha hl hh) fun σ H Q ⟨F, env, Os, ok, m, e1, he, k⟩ => ?_
  simp only [evE] at he
  split at he
  · rename_i x ea h1
    split at he
    · rename_i y eb h2
      split at he
      · rename_i z ec h3
        split at he
        · rename_i d h4
          split at he
          · rename_i m' h5
            cases he
            have hy : ∃ i, optI y = some i := by
              cases q : optI y with
              | some i => exact ⟨i, rfl⟩
              | none => rw [show slcF d y z = none from by cases d <;> simp [slcF, q]] at h5; cases h5
            have hz : ∃ i, optI z = some i := by
              cases q : optI z with
              | some i => exact ⟨i, rfl⟩
              | none => rw [show slcF d y z = none from by cases d <;> simp [slcF, q]] at h5; cases h5
            obtain ⟨i, hi⟩ := hy
            obtain ⟨j, hj⟩ := hz
            refine ⟨F, env, Os, ok, x, ea, h1, fun v1 F1 H1 Os1 ok1 tr1 o1 => ⟨F1, ea, Os1, ok1, y, i, eb, h2, hi, fun F2 H2 Os2 ok2 tr2 => ⟨F2, eb, Os2, ok2, z, j, _, h3, hj, fun F3 H3 Os3 ok3 tr3 => ?_⟩⟩⟩
            exact slc_ok ok3.le ((o1.mono (tr2.ff.trans tr3.ff)).view ok3 h4) hi hj h5 (done ok3 ((tr1.trans tr2).trans tr3) k)
          · cases he
        · cases he
      · cases he
    · cases he
  · cases he
theorem ite_pe {t a b : E} {c x y : Expr} {p : Pos} (hc : PT X c (tT X.K (fun env => fzR (evE gv cal t env)))) (ha : PE X x (tD X.K (fun env => fzR (evE gv cal a env)))) (hb : PE X y (tD X.K (fun env => fzR (evE gv cal b env)))) : PE X (.IfExp c x y p) (tM X.K (evE gv cal (.ite t a b))) := by
  refine peW (pe_ifExp hc ha hb) fun σ H Q ⟨F, env, Os, ok, m, e1, he, k⟩ => ?_
  simp only [evE] at he
  split at he
  · rename_i ea h1
    split at he
    · rename_i d eb h2
      cases he
      exact ⟨F, env, Os, ok, true, ea, h1, fun F1 H1 Os1 ok1 tr1 => iteT ⟨F1, ea, Os1, ok1, d, _, h2, fun v F2 H2 Os2 ok2 tr2 r => plain ok2 (tr1.trans tr2) k r⟩⟩
    · cases he
  · rename_i ea h1
    split at he
    · rename_i d eb h2
      cases he
      exact ⟨F, env, Os, ok, false, ea, h1, fun F1 H1 Os1 ok1 tr1 => iteF ⟨F1, ea, Os1, ok1, d, _, h2, fun v F2 H2 Os2 ok2 tr2 r => plain ok2 (tr1.trans tr2) k r⟩⟩
    · cases he
  · cases he
theorem not_pe {a : E} {x : Expr} {p : Pos} (ha : PE X x (tD X.K (fun env => fzR (evE gv cal a env)))) : PE X (.UnaryOp .Not x p) (tM X.K (evE gv cal (.not a))) := by
  refine peW (pe_not ha) fun σ H Q ⟨F, env, Os, ok, m, e1, he, k⟩ => ?_
  simp only [evE] at he
  split at he
  · rename_i b ea h1
    cases he
    refine ⟨F, env, Os, ok, _, _, h1, fun v F1 H1 Os1 ok1 tr1 r => ?_⟩
    cases r
    exact ⟨b, rfl, plain ok1 tr1 k (.bl _)⟩
  · cases he
theorem not_pt {a : E} {x : Expr} {p : Pos} (ha : PT X x (tT X.K (fun env => fzR (evE gv cal a env)))) : PT X (.UnaryOp .Not x p) (tT X.K (fun env => fzR (evE gv cal (.not a) env))) := by
  refine ptW (pt_not ha) fun σ H Q ⟨F, env, Os, ok, m, e1, he, k⟩ => ?_
  simp only [evE] at he
  split at he
  · rename_i b ea h1
    cases he
    exact ⟨F, env, Os, ok, b, _, h1, fun F1 H1 Os1 ok1 tr1 => k F1 H1 Os1 ok1 tr1⟩
  · cases he
theorem tup_pe {es : Es} {xs : List Expr} {p : Pos} {n : Nat} (ha : PA X xs (tDs X.K (evEs gv cal es))) : PE X (.Tuple xs n p) (tM X.K (evE gv cal (.tup es))) := by
  refine peW (pe_tup ha) fun σ H Q ⟨F, env, Os, ok, m, e1, he, k⟩ => ?_
  simp only [evE] at he
  split at he
  · rename_i ds ea h1
    split at he
    · rename_i hz
      cases he
      exact ⟨F, env, Os, ok, ds, _, h1, fun vs F1 H1 Os1 ok1 tr1 r => ⟨by rw [r.length]; exact hz, fun a ha => done ok1 tr1 k _ _ (.tup ok1.le ha r)⟩⟩
    · cases he
  · cases he
theorem lst_pe {es : Es} {xs : List Expr} {p : Pos} (ha : PA X xs (tDs X.K (evEs gv cal es))) : PE X (.List xs p) (tM X.K (evE gv cal (.lst es))) := by
  refine peW (pe_lst ha) fun σ H Q ⟨F, env, Os, ok, m, e1, he, k⟩ => ?_
  simp only [evE] at he
  split at he
  · rename_i ds ea h1
    split at he
    · rename_i hz
      cases he
      exact ⟨F, env, Os, ok, ds, _, h1, fun vs F1 H1 Os1 ok1 tr1 r => ⟨by rw [r.length]; exact hz, fun a ha => done ok1 tr1 k _ _ (.lst ha r)⟩⟩
    · cases he
  · cases he
end
end IL
set_option Elab.async false
set_option linter.all false
set_option maxRecDepth 100000
set_option maxHeartbeats 8000000
namespace IL
open PySem PySem.Spec PyProof.Rows L2

theorem ty_boot (t : Ty) : bootBuiltins (tyT t : Str) = some (.type (tyT t)) := by cases t <;> decide +kernel
section
variable {X : Cx} {gv : Nat → D} {cal : Nat → List M → Option (M × List M)} {sc : Scope} {gn : List Str} {fns : List FnD} {fuel k : Nat}
theorem oo_none : PO X none (tOo X.K (evOo gv cal .none)) := by
  refine poW po_none fun σ H Q ⟨F, env, Os, ok, x, i, e1, he, hi, k⟩ => ?_
  simp only [evOo] at he
  cases he
  cases hi
  exact k F H Os ok (Tr.refl _ _ _)
theorem oo_some {o : O} {x : Expr} (ha : PE X x (tOv X.K (evO gv cal o))) : PO X (some x) (tOo X.K (evOo gv cal (.some o))) := by
  refine poW (po_some ha) fun σ H Q ⟨F, env, Os, ok, z, i, e1, he, hi, k⟩ => ?_
  simp only [evOo] at he
  split at he
  · rename_i d ea h1
    cases he
    refine ⟨F, env, Os, ok, _, _, h1, fun v F1 H1 Os1 ok1 tr1 o1 => ?_⟩
    cases d with
    | int n =>
      cases hi
      cases o1
      exact ⟨n, rfl, k F1 H1 Os1 ok1 tr1⟩
    | _ => cases hi
  · cases he
theorem blt_pe (cx : CtxOk X gn gv fns fuel k) (s : ScOk X sc) {b : Blt} {os : Os} {x : Str} {p pos : Pos} {es : List Expr} (hb : bltOk sc x (bltN b) = true) (hst : es.all noStar = true) (hne : es ≠ [])
    (ha : PA X es (tOvs X.K (evOs gv cal os))) : PE X (.Call (.Name x p) es [] pos) (tM X.K (evE gv cal (.blt b os))) := by
  obtain ⟨h1, h2, h3, h4, h5⟩ := blt_gl cx s hb
  subst h1
  cases es with
  | nil => exact absurd rfl hne
  | cons e r =>
    simp only [List.all_cons, Bool.and_eq_true] at hst
    have pe : PE X (.Call (.Name (bltN b) p) (e :: r) [] pos) (tCB (rBlt X.K b) (tOvs X.K (evOs gv cal os))) := by
      have hc := or_blt (X := X) cx.calm b
      have hv := blt_boot b
      cases b with
      | abs => exact pe_callB hc h2 h3 hv ha h4 h5 (starCons hst.1) (plAny hst.2)
      | int => exact pe_callTy hc h2 h3 hv ha h4 h5 (starCons hst.1) (plAny hst.2)
      | len => exact pe_callB hc h2 h3 hv ha h4 h5 (starCons hst.1) (plAny hst.2)
      | tuple => exact pe_callTy hc h2 h3 hv ha h4 h5 (starCons hst.1) (plAny hst.2)
      | list => exact pe_callTy hc h2 h3 hv ha h4 h5 (starCons hst.1) (plAny hst.2)
      | max1 => exact pe_callB hc h2 h3 hv ha h4 h5 (starCons hst.1) (plAny hst.2)
      | min2 => exact pe_callB hc h2 h3 hv ha h4 h5 (starCons hst.1) (plAny hst.2)
      | max2 => exact pe_callB hc h2 h3 hv ha h4 h5 (starCons hst.1) (plAny hst.2)
      | all => exact pe_callB hc h2 h3 hv ha h4 h5 (starCons hst.1) (plAny hst.2)
      | any => exact pe_callB hc h2 h3 hv ha h4 h5 (starCons hst.1) (plAny hst.2)
      | str => exact pe_callTy hc h2 h3 hv ha h4 h5 (starCons hst.1) (plAny hst.2)
    refine peW pe fun σ H Q ⟨F, env, Os, ok, m, e1, he, kk⟩ => ?_
    simp only [evE] at he
    split at he
    · rename_i xs ea h1
      split at he
      · rename_i ds h6
        split at he
        · rename_i m' h7
          cases he
          exact ⟨F, env, Os, ok, xs, _, h1, fun vs F1 H1 Os1 ok1 tr1 o1 => blt_ok ok1.le (o1.views ok1 h6) h7 (done ok1 tr1 kk)⟩
        · cases he
      · cases he
    · cases he
theorem ty_pe (cx : CtxOk X gn gv fns fuel k) (s : ScOk X sc) {t : Ty} {y : Str} {q : Pos} (hy : bltOk sc y (tyT t) = true) : PE X (.Name y q) (tC (.ty (tyT t))) := by
  obtain ⟨h1, h2, h3, h4, h5⟩ := blt_gl cx s hy
  subst h1
  exact pe_bltn h2 h3 (ty_boot t) rfl h4 h5
theorem isinst_scr {d : D} {ts : List Ty} (hd : ∀ ns, d ≠ .scr ns) : True := trivial
theorem isi1_pe (cx : CtxOk X gn gv fns fuel k) (s : ScOk X sc) {a : O} {t : Ty} {x y : Str} {e : Expr} {p q pos : Pos} (hx : bltOk sc x "isinstance" = true) (hy : bltOk sc y (tyT t) = true) (hst : noStar e = true)
    (ha : PE X e (tOv X.K (evO gv cal a))) : PE X (.Call (.Name x p) [e, .Name y q] [] pos) (tM X.K (evE gv cal (.isi a [t] false))) := by
  obtain ⟨h1, h2, h3, h4, h5⟩ := blt_gl cx s hx
  subst h1
  refine peW (pe_callB call_isi h2 h3 (by decide +kernel) (pa_cons ha (pa_cons (ty_pe cx s hy) pa_nil (starCons rfl)) (starCons hst)) h4 h5 (starCons hst) (plAny rfl)) fun σ H Q ⟨F, env, Os, ok, m, e1, he, kk⟩ => ?_
  simp only [evE] at he
  split at he
  · rename_i o ea h1
    split at he
    · rename_i d h6
      split at he
      · cases he
      · rename_i hns
        cases he
        refine ⟨F, env, Os, ok, o, _, h1, fun v F1 H1 Os1 ok1 tr1 o1 => ?_⟩
        have ty := (o1.view ok1 h6).ty ok1.le hns
        exact ⟨v, _, _, _, _, rfl, .ty _, ty, kit1 d t hns, by rw [show [t].any (isTyD d) = isTyD d t by simp] at kk; exact plain ok1 tr1 kk (.bl _)⟩
    · cases he
  · cases he
theorem tys_pa (cx : CtxOk X gn gv fns fuel k) (s : ScOk X sc) : ∀ {ts : List Ty} {ys : List Expr}, chkTys sc ts ys = true → PA X ys (fun _ H Q => Q (ts.map fun t => V.ty (tyT t)) H) ∧ ys.all noStar = true
  | [], [], _ => ⟨pa_nil, rfl⟩
  | [], _ :: _, h => (Bool.false_ne_true h).elim
  | _ :: _, [], h => (Bool.false_ne_true h).elim
  | t :: ts, y :: ys, h => by
    cases y with
    | Name y q =>
      obtain ⟨h1, h2⟩ := b2 (show (bltOk sc y (tyT t) && chkTys sc ts ys) = true from h)
      obtain ⟨g1, g2⟩ := tys_pa cx s h2
      exact ⟨pa_cons (ty_pe cx s h1) g1 (starCons rfl), by simpa [noStar] using g2⟩
    | _ => exact (Bool.false_ne_true h).elim
theorem cls_paired : ∀ ts : List Ty, Paired ClsV (ts.map fun t => V.ty (tyT t)) (ts.map fun t => Value.type (tyT t))
  | [] => .nil
  | t :: r => .cons (.ty _) (cls_paired r)
theorem isiT_pe (cx : CtxOk X gn gv fns fuel k) (s : ScOk X sc) {a : O} {ts : List Ty} {x : Str} {e : Expr} {ys : List Expr} {n : Nat} {p q pos : Pos} (hx : bltOk sc x "isinstance" = true) (hy : chkTys sc ts ys = true) (hst : noStar e = true) (hz : ts.length ≤ 10)
    (ha : PE X e (tOv X.K (evO gv cal a))) : PE X (.Call (.Name x p) [e, .Tuple ys n q] [] pos) (tM X.K (evE gv cal (.isi a ts true))) := by
  obtain ⟨h1, h2, h3, h4, h5⟩ := blt_gl cx s hx
  obtain ⟨g1, g2⟩ := tys_pa cx s hy
  subst h1
  refine peW (pe_callB call_isiT h2 h3 (by decide +kernel) (pa_cons ha (pa_cons (pe_tup g1) pa_nil (starCons rfl)) (starCons hst)) h4 h5 (starCons hst) (plAny rfl)) fun σ H Q ⟨F, env, Os, ok, m, e1, he, kk⟩ => ?_
  simp only [evE] at he
  split at he
  · rename_i o ea h1
    split at he
    · rename_i d h6
      split at he
      · cases he
      · rename_i hns
        cases he
        refine ⟨F, env, Os, ok, o, _, h1, fun v F1 H1 Os1 ok1 tr1 o1 => ?_⟩
        refine ⟨by rw [List.length_map]; exact Nat.le_trans hz (by decide), fun tp htp => ?_⟩
        have sm := same_new (o := HO.tup (ts.map fun t => V.ty (tyT t))) htp
        have ok2 : Ok X.K F1 (upd H1 tp (.tup (ts.map fun t => V.ty (tyT t)))) σ _ Os1 := ⟨ok1.le.trans sm, ok1.nd, ok1.dj, ok1.sl.mono (Same.refl _) fun a _ o e => sm a o e⟩
        have tr2 : Tr F H Os.flatten F1 (upd H1 tp (.tup (ts.map fun t => V.ty (tyT t)))) Os1.flatten := tr1.trans ⟨Same.refl _, fun a o e _ => sm a o e, fun a h => .inl h, fun a h => .inl h, fun a h => by
          cases q : H1 a with
          | none => rfl
          | some o => rw [sm a o q] at h; cases h⟩
        have ty := (o1.view ok2 h6).ty ok2.le hns
        exact ⟨v, tp, _, _, _, _, rfl, upd_same, cls_paired ts, ty, kits d hns ts, plain ok2 tr2 kk (.bl _)⟩
    · cases he
  · cases he
theorem rngV_rep {K : PySem.W.Frag} {F : Hp} (a b : Int) : RepDs K F (rgV a b) (rngD a b) := by
  unfold rgV rngD
  generalize (List.range (b - a).toNat) = l
  induction l with
  | nil => exact .nil
  | cons i r ih => exact .cons (.int _) ih
theorem lrng1_pe (cx : CtxOk X gn gv fns fuel k) (s : ScOk X sc) {a b : O} {x y : Str} {e : Expr} {p q r pos : Pos} (hx : bltOk sc x "list" = true) (hy : bltOk sc y "range" = true) (hst : noStar e = true)
    (ha : PE X e (tOv X.K (evO gv cal a))) : PE X (.Call (.Name x p) [.Call (.Name y q) [e] [] r] [] pos) (tM X.K (evE gv cal (.lrng false a b))) := by
  obtain ⟨h1, h2, h3, h4, h5⟩ := blt_gl cx s hx
  obtain ⟨g1, g2, g3, g4, g5⟩ := blt_gl cx s hy
  subst h1 g1
  refine peW (pe_listRg cx.calm h2 h3 (prg_1 g2 g3 ha (starCons hst)) (starCons rfl)) fun σ H Q ⟨F, env, Os, ok, m, e1, he, kk⟩ => ?_
  simp only [evE] at he
  split at he
  · rename_i o ea h1
    simp only [Bool.false_eq_true, if_false] at he
    split at he
    · rename_i j h6
      split at he
      · rename_i hz
        cases he
        refine ⟨F, env, Os, ok, o, _, h1, fun v F1 H1 Os1 ok1 tr1 o1 => ⟨j, (o1.view ok1 h6).int, ⟨by decide, by decide, hz.1, by omega, by omega⟩, fun c hc => done ok1 tr1 kk _ _ (.lst hc (rngV_rep 0 j))⟩⟩
      · cases he
    · cases he
  · cases he
theorem lrng2_pe (cx : CtxOk X gn gv fns fuel k) (s : ScOk X sc) {a b : O} {x y : Str} {e g : Expr} {p q r pos : Pos} (hx : bltOk sc x "list" = true) (hy : bltOk sc y "range" = true) (hst : noStar e = true) (hst2 : noStar g = true)
    (ha : PE X e (tOv X.K (evO gv cal a))) (hb : PE X g (tOv X.K (evO gv cal b))) : PE X (.Call (.Name x p) [.Call (.Name y q) [e, g] [] r] [] pos) (tM X.K (evE gv cal (.lrng true a b))) := by
  obtain ⟨h1, h2, h3, h4, h5⟩ := blt_gl cx s hx
  obtain ⟨g1, g2, g3, g4, g5⟩ := blt_gl cx s hy
  subst h1 g1
  refine peW (pe_listRg cx.calm h2 h3 (prg_2 g2 g3 ha hb (starCons hst) (starCons hst2) (plAny (by simp [hst2]))) (starCons rfl)) fun σ H Q ⟨F, env, Os, ok, m, e1, he, kk⟩ => ?_
  simp only [evE] at he
  split at he
  · rename_i o ea h1
    simp only [if_true] at he
    split at he
    · rename_i o2 eb h2
      split at he
      · rename_i i j h6 h7
        split at he
        · rename_i hz
          cases he
          exact ⟨F, env, Os, ok, o, _, h1, fun v F1 H1 Os1 ok1 tr1 o1 => ⟨F1, _, Os1, ok1, o2, _, h2, fun v2 F2 H2 Os2 ok2 tr2 o2' => ⟨i, j, ((o1.mono tr2.ff).view ok2 h6).int, (o2'.view ok2 h7).int, ⟨hz.1, hz.2.1, hz.2.2.1, hz.2.2.2.1, by omega⟩, fun c hc => done ok2 (tr1.trans tr2) kk _ _ (.lst hc (rngV_rep i j))⟩⟩⟩
        · cases he
      · cases he
    · cases he
  · cases he
/-! ### what is walked -/
theorem pi_or {tg x : Expr} {w1 w2 : TI} (a : PI X tg x w1) (b : PI X tg x w2) : PI X tg x (fun σ H R => w1 σ H R ∨ w2 σ H R) := ⟨fun pins s σ H R I h => h.elim (a.run pins s σ H R I) (b.run pins s σ H R I)⟩
theorem it_lst {o : O} {tg x : Expr} (ha : PE X x (tOv X.K (evO gv cal o))) : PI X tg x (tI X.K (evIt gv cal (.lst o))) := by
  refine piW (pi_or (pi_list ha) (pi_tup ha)) fun σ H R ⟨F, env, Os, ok, ds, e1, he, kk⟩ => ?_
  simp only [evIt] at he
  split at he
  · rename_i ds' ea h1
    cases he
    refine .inl ⟨F, env, Os, ok, _, _, h1, fun v F1 H1 Os1 ok1 tr1 o1 => ?_⟩
    have o1 : RepD X.K F1 v (.lst ds) := o1
    cases o1 with
    | lst h r => exact ⟨_, rfl, ⟨_, SqL.of (ok1.le _ _ h)⟩, kk _ F1 H1 Os1 ok1 tr1 (feed_list h r)⟩
  · rename_i ds' ea h1
    cases he
    refine .inr ⟨F, env, Os, ok, _, _, h1, fun v F1 H1 Os1 ok1 tr1 o1 => ?_⟩
    have o1 : RepD X.K F1 v (.tup ds) := o1
    cases o1 with
    | tup h r => exact ⟨_, rfl, ⟨_, sqT_mono ok1.le h⟩, kk _ F1 H1 Os1 ok1 tr1 (feed_tup h r)⟩
  · cases he
theorem it_tup {o : O} {tg x : Expr} (ha : PE X x (tOv X.K (evO gv cal o))) : PI X tg x (tI X.K (evIt gv cal (.tup o))) := by
  refine piW (pi_tup ha) fun σ H R ⟨F, env, Os, ok, ds, e1, he, kk⟩ => ?_
  simp only [evIt] at he
  split at he
  · rename_i ds' ea h1
    cases he
    refine ⟨F, env, Os, ok, _, _, h1, fun v F1 H1 Os1 ok1 tr1 o1 => ?_⟩
    have o1 : RepD X.K F1 v (.tup ds) := o1
    cases o1 with
    | tup h r => exact ⟨_, rfl, ⟨_, sqT_mono ok1.le h⟩, kk _ F1 H1 Os1 ok1 tr1 (feed_tup h r)⟩
  · cases he
theorem it_rng1 (cx : CtxOk X gn gv fns fuel k) (s : ScOk X sc) {a : O} {tg e : Expr} {x : Str} {p pos : Pos} (hx : bltOk sc x "range" = true) (hst : noStar e = true) (ha : PE X e (tOv X.K (evO gv cal a))) : PI X tg (.Call (.Name x p) [e] [] pos) (tI X.K (evIt gv cal (.rng1 a))) := by
  obtain ⟨h1, h2, h3, h4, h5⟩ := blt_gl cx s hx
  subst h1
  refine piW (pi_range1 h2 h3 (pa_cons ha pa_nil (starCons hst)) (starOne hst)) fun σ H R ⟨F, env, Os, ok, ds, e1, he, kk⟩ => ?_
  simp only [evIt] at he
  split at he
  · rename_i o ea h1
    split at he
    · rename_i j h6
      split at he
      · rename_i hz
        cases he
        refine ⟨F, env, Os, ok, o, _, h1, fun v F1 H1 Os1 ok1 tr1 o1 => ⟨j, by rw [(o1.view ok1 h6).int], hz.1, hz.2, ?_⟩⟩
        have f := feed_rng (K := X.K) (F0 := F1) 0 j
        rw [Int.sub_zero] at f
        exact kk _ F1 H1 Os1 ok1 tr1 f
      · cases he
    · cases he
  · cases he
theorem it_rng2 (cx : CtxOk X gn gv fns fuel k) (s : ScOk X sc) {a b : O} {tg e g : Expr} {x : Str} {p pos : Pos} (hx : bltOk sc x "range" = true) (hst : noStar e = true) (hst2 : noStar g = true) (ha : PE X e (tOv X.K (evO gv cal a))) (hb : PE X g (tOv X.K (evO gv cal b))) :
    PI X tg (.Call (.Name x p) [e, g] [] pos) (tI X.K (evIt gv cal (.rng2 a b))) := by
  obtain ⟨h1, h2, h3, h4, h5⟩ := blt_gl cx s hx
  subst h1
  refine piW (pi_range2 h2 h3 (pa_cons ha (pa_cons hb pa_nil (starCons hst2)) (starCons hst)) (by rw [starCons hst, starCons hst2]; rfl) (starOne hst2)) fun σ H R ⟨F, env, Os, ok, ds, e1, he, kk⟩ => ?_
  simp only [evIt] at he
  split at he
  · rename_i o ea h1
    split at he
    · rename_i o2 eb h2
      split at he
      · rename_i i j h6 h7
        split at he
        · rename_i hz
          cases he
          exact ⟨F, env, Os, ok, o, _, h1, fun v F1 H1 Os1 ok1 tr1 o1 => ⟨F1, _, Os1, ok1, o2, _, h2, fun v2 F2 H2 Os2 ok2 tr2 o2' => ⟨i, j, by rw [((o1.mono tr2.ff).view ok2 h6).int, (o2'.view ok2 h7).int], hz, kk _ F2 H2 Os2 ok2 (tr1.trans tr2) (feed_rng i j)⟩⟩⟩
        · cases he
      · cases he
    · cases he
  · cases he
theorem it_enum (cx : CtxOk X gn gv fns fuel k) (s : ScOk X sc) {a : O} {e : Expr} {ts : List Expr} {n : Nat} {tp : Pos} {x : Str} {p pos : Pos} (hx : bltOk sc x "enumerate" = true) (hst : noStar e = true) (ha : PE X e (tOv X.K (evO gv cal a))) :
    PI X (.Tuple ts n tp) (.Call (.Name x p) [e] [] pos) (tI X.K (evIt gv cal (.enum a))) := by
  obtain ⟨h1, h2, h3, h4, h5⟩ := blt_gl cx s hx
  subst h1
  refine piW (pi_enum h2 h3 (pa_cons ha pa_nil (starCons hst)) (starOne hst)) fun σ H R ⟨F, env, Os, ok, ds, e1, he, kk⟩ => ?_
  simp only [evIt] at he
  split at he
  · rename_i ds' ea h1
    cases he
    refine ⟨F, env, Os, ok, _, _, h1, fun v F1 H1 Os1 ok1 tr1 o1 => ?_⟩
    have o1 : RepD X.K F1 v (.lst ds') := o1
    cases o1 with
    | lst h r => exact ⟨_, _, rfl, SqL.of (ok1.le _ _ h), kk _ F1 H1 Os1 ok1 tr1 (feed_enum h r)⟩
  · cases he
theorem it_zip (cx : CtxOk X gn gv fns fuel k) (s : ScOk X sc) {a b : O} {e g : Expr} {ts : List Expr} {n : Nat} {tp : Pos} {x : Str} {p pos : Pos} (hx : bltOk sc x "zip" = true) (hst : noStar e = true) (hst2 : noStar g = true) (ha : PE X e (tOv X.K (evO gv cal a))) (hb : PE X g (tOv X.K (evO gv cal b))) :
    PI X (.Tuple ts n tp) (.Call (.Name x p) [e, g] [] pos) (tI X.K (evIt gv cal (.zip a b))) := by
  obtain ⟨h1, h2, h3, h4, h5⟩ := blt_gl cx s hx
  subst h1
  refine piW (RZ.pi_zipA h2 h3 (pa_cons ha (pa_cons hb pa_nil (starCons hst2)) (starCons hst)) (starCons hst) (plAny (by simp [hst2]))) fun σ H R ⟨F, env, Os, ok, ds, e1, he, kk⟩ => ?_
  simp only [evIt] at he
  split at he
  · rename_i xx ea h1
    split at he
    · rename_i yy eb h2
      split at he
      · rename_i ds' es'
        cases he
        refine ⟨F, env, Os, ok, _, _, h1, fun v F1 H1 Os1 ok1 tr1 o1 => ⟨F1, _, Os1, ok1, _, _, h2, fun v2 F2 H2 Os2 ok2 tr2 o2 => ?_⟩⟩
        have o1 : RepD X.K F2 v (.lst ds') := RepD.mono tr2.ff o1
        have o2 : RepD X.K F2 v2 (.lst es') := o2
        cases o1 with
        | lst h r => cases o2 with
          | lst h' r' => exact ⟨_, _, _, _, rfl, .inl ⟨SqL.of (ok2.le _ _ h), SqL.of (ok2.le _ _ h'), kk _ F2 H2 Os2 ok2 (tr1.trans tr2) (feed_zipL h r h' r')⟩⟩
      · rename_i ds' es'
        cases he
        refine ⟨F, env, Os, ok, _, _, h1, fun v F1 H1 Os1 ok1 tr1 o1 => ⟨F1, _, Os1, ok1, _, _, h2, fun v2 F2 H2 Os2 ok2 tr2 o2 => ?_⟩⟩
        have o1 : RepD X.K F2 v (.tup ds') := RepD.mono tr2.ff o1
        have o2 : RepD X.K F2 v2 (.tup es') := o2
        cases o1 with
        | tup h r => cases o2 with
          | tup h' r' => exact ⟨_, _, _, _, rfl, .inr ⟨sqT_mono ok2.le h, sqT_mono ok2.le h', kk _ F2 H2 Os2 ok2 (tr1.trans tr2) (feed_zipT h r h' r')⟩⟩
      · cases he
    · cases he
  · cases he
/-! ### and, or -/
theorem bop1_pe {b : Bool} {e : E} {x : Expr} {op : BoolOp} {p : Pos} (ha : PE X x (tD X.K (fun env => fzR (evE gv cal e env)))) : PE X (.BoolOp op [x] p) (tD X.K (fun env => fzR (evB gv cal b (.cons e .nil) env))) := by
  refine peW (pe_one ha) fun σ H Q ⟨F, env, Os, ok, d, e1, he, kk⟩ => ⟨F, env, Os, ok, d, e1, ?_, kk⟩
  simp only [evB] at he
  cases h : fzR (evE gv cal e env) with
  | none => rw [h] at he; cases he
  | some r =>
    obtain ⟨rd, re⟩ := r
    rw [h] at he
    simp only [fzR, Option.some.injEq, Prod.mk.injEq, M.d_val] at he
    obtain ⟨rfl, rfl⟩ := he
    exact h
theorem and_pe {e e' : E} {r : Es} {x y : Expr} {ys : List Expr} {p : Pos} (ha : PE X x (tD X.K (fun env => fzR (evE gv cal e env)))) (hb : PE X (.BoolOp .And (y :: ys) p) (tD X.K (fun env => fzR (evB gv cal true (.cons e' r) env)))) :
    PE X (.BoolOp .And (x :: y :: ys) p) (tD X.K (fun env => fzR (evB gv cal true (.cons e (.cons e' r)) env))) := by
  refine peW (pe_and ha hb) fun σ H Q ⟨F, env, Os, ok, d, e1, he, kk⟩ => ?_
  simp only [evB] at he
  split at he
  · rename_i b ea h1
    refine ⟨F, env, Os, ok, _, _, h1, fun v F1 H1 Os1 ok1 tr1 r => ?_⟩
    cases r
    refine ⟨b, rfl, ?_⟩
    cases b with
    | true =>
      rw [if_pos rfl] at he
      exact iteT ⟨F1, ea, Os1, ok1, d, e1, he, fun v F2 H2 Os2 ok2 tr2 r => kk v F2 H2 Os2 ok2 (tr1.trans tr2) r⟩
    | false =>
      rw [if_neg Bool.false_ne_true] at he
      cases he
      exact iteF (kk _ F1 H1 Os1 ok1 tr1 (.bl _))
  · cases he
theorem or_pe {e e' : E} {r : Es} {x y : Expr} {ys : List Expr} {p : Pos} (ha : PE X x (tD X.K (fun env => fzR (evE gv cal e env)))) (hb : PE X (.BoolOp .Or (y :: ys) p) (tD X.K (fun env => fzR (evB gv cal false (.cons e' r) env)))) :
    PE X (.BoolOp .Or (x :: y :: ys) p) (tD X.K (fun env => fzR (evB gv cal false (.cons e (.cons e' r)) env))) := by
  refine peW (pe_or ha hb) fun σ H Q ⟨F, env, Os, ok, d, e1, he, kk⟩ => ?_
  simp only [evB] at he
  split at he
  · rename_i b ea h1
    refine ⟨F, env, Os, ok, _, _, h1, fun v F1 H1 Os1 ok1 tr1 r => ?_⟩
    cases r
    refine ⟨b, rfl, ?_⟩
    cases b with
    | false =>
      rw [if_pos rfl] at he
      exact iteF ⟨F1, ea, Os1, ok1, d, e1, he, fun v F2 H2 Os2 ok2 tr2 r => kk v F2 H2 Os2 ok2 (tr1.trans tr2) r⟩
    | true =>
      rw [if_neg (by decide)] at he
      cases he
      exact iteT (kk _ F1 H1 Os1 ok1 tr1 (.bl _))
  · cases he
theorem and1_pw {b : Bool} {e : E} {x : Expr} {p : Pos} (ha : PT X x (tT X.K (fun env => fzR (evE gv cal e env)))) : PW X (.BoolOp .And [x] p) (tT X.K (fun env => fzR (evB gv cal b (.cons e .nil) env))) := by
  refine pwW (pw_and1 ha) fun σ H Q ⟨F, env, Os, ok, d, e1, he, kk⟩ => ⟨F, env, Os, ok, d, e1, ?_, kk⟩
  simp only [evB] at he
  cases h : fzR (evE gv cal e env) with
  | none => rw [h] at he; cases he
  | some r =>
    obtain ⟨rd, re⟩ := r
    rw [h] at he
    simp only [fzR, Option.some.injEq, Prod.mk.injEq, M.d_val] at he
    obtain ⟨rfl, rfl⟩ := he
    exact h
theorem or1_pw {b : Bool} {e : E} {x : Expr} {p : Pos} (ha : PT X x (tT X.K (fun env => fzR (evE gv cal e env)))) : PW X (.BoolOp .Or [x] p) (tT X.K (fun env => fzR (evB gv cal b (.cons e .nil) env))) := by
  refine pwW (pw_or1 ha) fun σ H Q ⟨F, env, Os, ok, d, e1, he, kk⟩ => ⟨F, env, Os, ok, d, e1, ?_, kk⟩
  simp only [evB] at he
  cases h : fzR (evE gv cal e env) with
  | none => rw [h] at he; cases he
  | some r =>
    obtain ⟨rd, re⟩ := r
    rw [h] at he
    simp only [fzR, Option.some.injEq, Prod.mk.injEq, M.d_val] at he
    obtain ⟨rfl, rfl⟩ := he
    exact h
theorem and_pw {e e' : E} {r : Es} {x y : Expr} {ys : List Expr} {p : Pos} (ha : PT X x (tT X.K (fun env => fzR (evE gv cal e env)))) (hb : PW X (.BoolOp .And (y :: ys) p) (tT X.K (fun env => fzR (evB gv cal true (.cons e' r) env)))) :
    PW X (.BoolOp .And (x :: y :: ys) p) (tT X.K (fun env => fzR (evB gv cal true (.cons e (.cons e' r)) env))) := by
  refine pwW (pw_and ha hb) fun σ H Q ⟨F, env, Os, ok, d, e1, he, kk⟩ => ?_
  simp only [evB] at he
  split at he
  · rename_i b ea h1
    refine ⟨F, env, Os, ok, b, _, h1, fun F1 H1 Os1 ok1 tr1 => ?_⟩
    cases b with
    | true =>
      rw [if_pos rfl] at he
      exact iteT ⟨F1, ea, Os1, ok1, d, e1, he, fun F2 H2 Os2 ok2 tr2 => kk F2 H2 Os2 ok2 (tr1.trans tr2)⟩
    | false =>
      rw [if_neg Bool.false_ne_true] at he
      cases he
      exact iteF (kk F1 H1 Os1 ok1 tr1)
  · cases he
theorem or_pw {e e' : E} {r : Es} {x y : Expr} {ys : List Expr} {p : Pos} (ha : PT X x (tT X.K (fun env => fzR (evE gv cal e env)))) (hb : PW X (.BoolOp .Or (y :: ys) p) (tT X.K (fun env => fzR (evB gv cal false (.cons e' r) env)))) :
    PW X (.BoolOp .Or (x :: y :: ys) p) (tT X.K (fun env => fzR (evB gv cal false (.cons e (.cons e' r)) env))) := by
  refine pwW (pw_or ha hb) fun σ H Q ⟨F, env, Os, ok, d, e1, he, kk⟩ => ?_
  simp only [evB] at he
  split at he
  · rename_i b ea h1
    refine ⟨F, env, Os, ok, b, _, h1, fun F1 H1 Os1 ok1 tr1 => ?_⟩
    cases b with
    | false =>
      rw [if_pos rfl] at he
      exact iteF ⟨F1, ea, Os1, ok1, d, e1, he, fun F2 H2 Os2 ok2 tr2 => kk F2 H2 Os2 ok2 (tr1.trans tr2)⟩
    | true =>
      rw [if_neg (by decide)] at he
      cases he
      exact iteT (kk F1 H1 Os1 ok1 tr1)
  · cases he
/-- a test of an expression that is no and, or, not, comparison, conditional -/
def valE : Expr → Bool
  | .BoolOp .. => false
  | .UnaryOp .Not _ _ => false
  | .IfExp .. => false
  | .Compare .. => false
  | _ => true
theorem val_pt {ev : Env → Option (D × Env)} {x : Expr} (h : PE X x (tD X.K ev)) (hv : valE x = true) : PT X x (tT X.K ev) := by
  refine ptW (pt_val h fun whole => by
    cases x with
    | UnaryOp op _ _ => cases op <;> first | rfl | cases hv
    | _ => first | rfl | cases hv) fun σ H Q ⟨F, env, Os, ok, d, e1, he, kk⟩ => ?_
  refine ⟨F, env, Os, ok, _, _, he, fun v F1 H1 Os1 ok1 tr1 r => ?_⟩
  cases r
  exact ⟨d, rfl, kk F1 H1 Os1 ok1 tr1⟩
end
end IL
set_option Elab.async false
set_option linter.all false
set_option maxRecDepth 100000
set_option maxHeartbeats 8000000
/-! THE LOOK IS ENOUGH: every expression that passes it does what the small language says -/
namespace IL
open PySem PySem.Spec PyProof.Rows L2

theorem relab_free {env : PySem.Env} : ∀ {names : List (Str × NameKind)} {x : Str}, names.lookup x = some .free →
    (names.map fun (n, k) => if (k == NameKind.free && env.scope.kind == .function && env.kindOf n == some .cell) = true then (n, NameKind.cell) else (n, k)).lookup x = some .cell ∨
    (names.map fun (n, k) => if (k == NameKind.free && env.scope.kind == .function && env.kindOf n == some .cell) = true then (n, NameKind.cell) else (n, k)).lookup x = some .free
  | [], _, h => by simp at h
  | (n, k₀) :: r, x, h => by
    have ih := @relab_free env r x
    rw [List.map_cons]
    cases hx : x == n with
    | true =>
      simp only [List.lookup_cons, hx] at h
      cases h
      by_cases hc : (NameKind.free == NameKind.free && env.scope.kind == .function && env.kindOf n == some .cell) = true
      · simp only [hc, if_true, List.lookup_cons, hx]; exact .inl trivial
      · simp only [hc, Bool.false_eq_true, if_false, List.lookup_cons, hx]; exact .inr trivial
    | false =>
      simp only [List.lookup_cons, hx] at h
      by_cases hc : (k₀ == NameKind.free && env.scope.kind == .function && env.kindOf n == some .cell) = true
      · simp only [hc, if_true, List.lookup_cons, hx]; exact ih h
      · simp only [hc, Bool.false_eq_true, if_false, List.lookup_cons, hx]; exact ih h
theorem ScOk.blk {X : Cx} {scope : Scope} (hk : scope.kind = .function) (s : Shared) (H : Hp) (c : Addr) (cl : List (Str × Addr)) (fp : List Addr) : ScOk (X.blk s H scope (compEnvC scope cl c X.env) fp) scope where
  kind := hk
  keep := fun x k hf h => lookup_relS_keep (sc := X.env.scope) hf h
  free := fun x h => relab_free (env := X.env) h
  fn := fun x h => by
    show (scope.names.lookup x == some .cell) = true
    rw [h]; rfl
theorem blk_of {X : Cx} {sc scope : Scope} {N : List Str} {own : List (Str × Nat)} (s : ScOk X sc) (b : BlkOk N sc scope own) : BlkOk N X.env.scope scope own :=
  ⟨b.kind, b.uniq, b.ix, fun y hy e => by
    rcases b.free y hy e with h | h
    · exact .inl (s.keep _ _ (by decide) h)
    · exact s.free _ h, b.own⟩
theorem CtxOk.blk {X : Cx} {gn : List Str} {gv : Nat → D} {fns : List FnD} {fuel k : Nat} (cx : CtxOk X gn gv fns fuel k) (s : Shared) (H : Hp) (scope : Scope) (env : PySem.Env) (fp : List Addr) : CtxOk (X.blk s H scope env fp) gn gv fns fuel k := ⟨cx.calm, cx.nd, cx.room, cx.facts⟩
section
variable {gn : List Str} {gv : Nat → D} {fns : List FnD} {fuel k : Nat} {C : CK}
theorem e_of_c {X : Cx} {cal : Nat → List M → Option (M × List M)} {d : D} {v : V} {ex : Expr} (h : PE X ex (tC v)) (r : ∀ F, RepD X.K F v d) (hv : valE ex = true) : PE X ex (tM X.K (evE gv cal (.c d))) ∧ (tOk (.c d) = true → PT X ex (tT X.K fun env => fzR (evE gv cal (.c d) env))) := by
  have a : PE X ex (tM X.K (evE gv cal (.c d))) := peW (peTc h r) fun σ H Q ⟨F, env, Os, ok, m, e1, he, kk⟩ => ⟨F, env, Os, ok, m, e1, by simpa only [evE] using he, kk⟩
  exact ⟨a, fun _ => val_pt (peD a) hv⟩
theorem both {X : Cx} {cal : Nat → List M → Option (M × List M)} {e : E} {ex : Expr} (h : PE X ex (tM X.K (evE gv cal e))) (hv : valE ex = true) : PE X ex (tM X.K (evE gv cal e)) ∧ (tOk e = true → PT X ex (tT X.K fun env => fzR (evE gv cal e env))) := ⟨h, fun _ => val_pt (peD h) hv⟩
theorem gl_pe {X : Cx} {sc : Scope} {cal : Nat → List M → Option (M × List M)} (cx : CtxOk X gn gv fns fuel k) (s : ScOk X sc) {j : Nat} {x : Str} {p : Pos} (h1 : C.gn[j]? = some x) (h2 : glOk sc x = true) (hG : C.gn = gn) : PE X (.Name x p) (tM X.K (evE gv cal (.gl j))) := by
  obtain ⟨g1, g2⟩ := gl_ok s h2
  obtain ⟨v, u, m1, m2, m3⟩ := cx.facts.gl j x (by rw [← hG]; exact h1)
  exact peW (peTc (pe_glob g1 m1 m2 g2) m3) fun σ H Q ⟨F, env, Os, ok, m, e1, he, kk⟩ => ⟨F, env, Os, ok, m, e1, by simpa only [evE] using he, kk⟩
abbrev EBoth (gv : Nat → D) (cal : Nat → List M → Option (M × List M)) (X : Cx) (e : E) (ex : Expr) : Prop := PE X ex (tM X.K (evE gv cal e)) ∧ (tOk e = true → PT X ex (tT X.K fun env => fzR (evE gv cal e env)))
structure EsOk (gv : Nat → D) (cal : Nat → List M → Option (M × List M)) (X : Cx) (es : Es) (xs : List Expr) : Prop where
  pa : PA X xs (tDs X.K (evEs gv cal es))
  ns : xs.all noStar = true
  pa' : xs ≠ [] → ∀ p, (PE X (.BoolOp .And xs p) (tD X.K (fun env => fzR (evB gv cal true es env))) ∧ PE X (.BoolOp .Or xs p) (tD X.K (fun env => fzR (evB gv cal false es env)))) ∧
      (tOks es = true → PW X (.BoolOp .And xs p) (tT X.K (fun env => fzR (evB gv cal true es env))) ∧ PW X (.BoolOp .Or xs p) (tT X.K (fun env => fzR (evB gv cal false es env))))
section
variable {X : Cx} {sc : Scope} {cal : Nat → List M → Option (M × List M)}
theorem es0 {es : Es} {xs : List Expr} (h : chkEs C sc es xs = true) : xs = [] ↔ es = .nil := by
  cases es with
  | nil => exact ⟨fun _ => rfl, fun _ => i_Es0 h⟩
  | cons e r =>
    obtain ⟨y, ys, rfl, _⟩ := i_Es1 h
    exact ⟨fun z => (nomatch z), fun z => (nomatch z)⟩
theorem evB_val : ∀ {b : Bool} {es : Es} {env e1 : Env} {m : M}, evB gv cal b es env = some (m, e1) → ∃ d, m = .val d
  | b, .nil, env, e1, m, h => by simp [evB] at h
  | b, .cons e .nil, env, e1, m, h => by
    simp only [evB] at h
    split at h
    · cases h; exact ⟨_, rfl⟩
    · cases h
  | b, .cons e (.cons e' r), env, e1, m, h => by
    simp only [evB] at h
    split at h
    · split at h
      · exact evB_val (es := .cons e' r) h
      · cases h; exact ⟨_, rfl⟩
    · cases h
theorem bop_both {b : Bool} {es : Es} {vs : List Expr} {p : Pos} (h : EsOk gv cal X es vs) (h0 : vs = [] ↔ es = .nil) : EBoth gv cal X (.bop b es) (.BoolOp (if b = true then .And else .Or) vs p) := by
  by_cases hv : vs = []
  · have := h0.mp hv
    subst this
    exact ⟨⟨fun pins s σ H Q I ⟨F, env, Os, ok, m, e1, he, kk⟩ => by simp [evE, evB] at he⟩, fun _ => ⟨fun pins s σ H Q I ⟨F, env, Os, ok, m, e1, he, kk⟩ => by simp [evE, evB, fzR] at he⟩⟩
  · obtain ⟨⟨q1, q2⟩, q3⟩ := h.pa' hv p
    have up : ∀ (env : Env) (m : M) (e1 : Env), evE gv cal (.bop b es) env = some (m, e1) → ∃ d, m = .val d ∧ (fun env => fzR (evB gv cal b es env)) env = some (d, e1) := fun env m e1 he => by
      simp only [evE] at he
      obtain ⟨d, rfl⟩ := evB_val he
      exact ⟨d, rfl, by show fzR (evB gv cal b es env) = _; rw [he]; rfl⟩
    cases b with
    | true => exact ⟨peM q1 up, fun ht => ptW (q3 (by simpa only [tOk] using ht)).1.pt fun σ H Q ⟨F, env, Os, ok, m, e1, he, kk⟩ => ⟨F, env, Os, ok, m, e1, by simpa only [evE] using he, kk⟩⟩
    | false => exact ⟨peM q2 up, fun ht => ptW (q3 (by simpa only [tOk] using ht)).2.pt fun σ H Q ⟨F, env, Os, ok, m, e1, he, kk⟩ => ⟨F, env, Os, ok, m, e1, by simpa only [evE] using he, kk⟩⟩
theorem not_both {a : E} {l : Expr} {p : Pos} (h : EBoth gv cal X a l) : EBoth gv cal X (.not a) (.UnaryOp .Not l p) := ⟨not_pe (peD h.1), fun ht => not_pt (h.2 (by simpa only [tOk] using ht))⟩
theorem ite_both {t a b : E} {c x y : Expr} {p : Pos} (ht : tOk t = true) (h1 : EBoth gv cal X t c) (h2 : EBoth gv cal X a x) (h3 : EBoth gv cal X b y) : EBoth gv cal X (.ite t a b) (.IfExp c x y p) := ⟨ite_pe (h1.2 ht) (peD h2.1) (peD h3.1), fun h => by simp [tOk] at h⟩
theorem c0_pts : PTs X [] (tT X.K (evC gv cal .none)) := ptsW pts_nil fun σ H Q ⟨F, env, Os, ok, b, e1, he, kk⟩ => by
  simp only [evC] at he
  cases he
  exact kk F H Os ok (Tr.refl _ _ _)
theorem c1_pts {e : E} {x : Expr} (h : PT X x (tT X.K fun env => fzR (evE gv cal e env))) : PTs X [x] (tT X.K (evC gv cal (.some e))) := ptsW (pts_one h) fun σ H Q ⟨F, env, Os, ok, b, e1, he, kk⟩ => ⟨F, env, Os, ok, b, e1, by simpa only [evC] using he, kk⟩
theorem oe_pe {a : E} {ex : Expr} (h : PE X ex (tM X.K (evE gv cal a))) : PE X ex (tOv X.K (evO gv cal (.e a))) := by
  refine peW (peD h) fun σ H Q ⟨F, env, Os, ok, x, e1, he, kk⟩ => ?_
  simp only [evO] at he
  split at he
  · rename_i d ea h1
    cases he
    exact ⟨F, env, Os, ok, d, _, h1, fun v F1 H1 Os1 ok1 tr1 r => kk v F1 H1 Os1 ok1 tr1 r⟩
  · cases he
theorem es_nil : EsOk gv cal X .nil [] := ⟨paW pa_nil fun σ H Q ⟨F, env, Os, ok, ds, e1, he, kk⟩ => by
    simp only [evEs] at he
    cases he
    exact kk [] F H Os ok (Tr.refl _ _ _) .nil, rfl, fun z => absurd rfl z⟩
theorem es_cons {e : E} {r : Es} {x : Expr} {xs : List Expr} (a : EBoth gv cal X e x) (h2 : noStar x = true) (h0 : xs = [] ↔ r = .nil) (c : EsOk gv cal X r xs) : EsOk gv cal X (.cons e r) (x :: xs) := by
  refine ⟨paW (pa_cons (peD a.1) c.pa (starCons h2)) fun σ H Q ⟨F, env, Os, ok, ds, e1, he, kk⟩ => ?_, by rw [List.all_cons, h2, c.ns]; rfl, fun _ p => ?_⟩
  · simp only [evEs] at he
    split at he
    · rename_i d ea g1
      split at he
      · rename_i ds' eb g2
        cases he
        exact ⟨F, env, Os, ok, d, ea, g1, fun v F1 H1 Os1 ok1 tr1 r1 => ⟨F1, ea, Os1, ok1, ds', _, g2, fun vs F2 H2 Os2 ok2 tr2 r2 => kk (v :: vs) F2 H2 Os2 ok2 (tr1.trans tr2) (.cons (r1.mono tr2.ff) r2)⟩⟩
      · cases he
    · cases he
  · cases xs with
    | nil =>
      have := h0.mp rfl
      subst this
      exact ⟨⟨bop1_pe (peD a.1), bop1_pe (peD a.1)⟩, fun ht => by
        have ht : (tOk e && tOks .nil) = true := by simpa only [tOks] using ht
        exact ⟨and1_pw (a.2 (b2 ht).1), or1_pw (a.2 (b2 ht).1)⟩⟩
    | cons y ys =>
      cases r with
      | nil => exact absurd (h0.mpr rfl) (List.cons_ne_nil _ _)
      | cons e' r =>
        obtain ⟨⟨q1, q2⟩, q3⟩ := c.pa' (List.cons_ne_nil _ _) p
        exact ⟨⟨and_pe (peD a.1) q1, or_pe (peD a.1) q2⟩, fun ht => by
          have ht : (tOk e && tOks (.cons e' r)) = true := by simpa only [tOks] using ht
          obtain ⟨t1, t2⟩ := b2 ht
          obtain ⟨w1, w2⟩ := q3 (by simpa only [tOks] using t2)
          exact ⟨and_pw (a.2 t1) w1, or_pw (a.2 t1) w2⟩⟩
theorem os_nil : PA X [] (tOvs X.K (evOs gv cal .nil)) ∧ ([] : List Expr).all noStar = true := ⟨paW pa_nil fun σ H Q ⟨F, env, Os, ok, ds, e1, he, kk⟩ => by
    simp only [evOs] at he
    cases he
    exact kk [] F H Os ok (Tr.refl _ _ _) .nil, rfl⟩
theorem os_cons {e : O} {r : Os} {x : Expr} {xs : List Expr} (a : PE X x (tOv X.K (evO gv cal e))) (h2 : noStar x = true) (c : PA X xs (tOvs X.K (evOs gv cal r)) ∧ xs.all noStar = true) : PA X (x :: xs) (tOvs X.K (evOs gv cal (.cons e r))) ∧ (x :: xs).all noStar = true := by
  refine ⟨paW (pa_cons a c.1 (starCons h2)) fun σ H Q ⟨F, env, Os, ok, ds, e1, he, kk⟩ => ?_, by rw [List.all_cons, h2, c.2]; rfl⟩
  simp only [evOs] at he
  split at he
  · rename_i d ea g1
    split at he
    · rename_i ds' eb g2
      cases he
      exact ⟨F, env, Os, ok, d, ea, g1, fun v F1 H1 Os1 ok1 tr1 r1 => ⟨F1, ea, Os1, ok1, ds', _, g2, fun vs F2 H2 Os2 ok2 tr2 r2 => kk (v :: vs) F2 H2 Os2 ok2 (tr1.trans tr2) (.cons (r1.mono tr2.ff) r2)⟩⟩
    · cases he
  · cases he
abbrev AsOk (gv : Nat → D) (cal : Nat → List M → Option (M × List M)) (X : Cx) (es : As) (xs : List Expr) : Prop := PA X xs (tAs X.K (evAs gv cal es)) ∧ xs.all noStar = true ∧ (xs = [] → es = .nil)
theorem as_nil : AsOk gv cal X .nil [] := ⟨paW pa_nil fun σ H Q ⟨F, env, Os, ok, ds, e1, he, kk⟩ => by
    simp only [evAs] at he
    cases he
    exact kk [] F H [] Os ok (Tr.refl _ _ _) ok.nd (fun a z => (nomatch z)) .nil, rfl, fun _ => rfl⟩
theorem as_v {e : E} {r : As} {x : Expr} {xs : List Expr} (a : PE X x (tM X.K (evE gv cal e))) (h2 : noStar x = true) (c : AsOk gv cal X r xs) : AsOk gv cal X (.v e r) (x :: xs) := by
  refine ⟨paW (pa_cons (peD a) c.1 (starCons h2)) fun σ H Q ⟨F, env, Os, ok, ds, e1, he, kk⟩ => ?_, by rw [List.all_cons, h2, c.2.1]; rfl, fun z => (nomatch z)⟩
  simp only [evAs] at he
  split at he
  · rename_i d ea g1
    split at he
    · rename_i ds' eb g2
      cases he
      exact ⟨F, env, Os, ok, d, ea, g1, fun v F1 H1 Os1 ok1 tr1 r1 => ⟨F1, ea, Os1, ok1, ds', _, g2, fun vs F2 H2 O Os2 ok2 tr2 nd dj r2 => kk (v :: vs) F2 H2 O Os2 ok2 (tr1.trans tr2) nd dj (.d (r1.mono tr2.ff) r2)⟩⟩
    · cases he
  · cases he
theorem as_io {i : Nat} {r : As} {x : Str} {p : Pos} {xs : List Expr} (a : PE X (.Name x p) (tVar i)) (c : AsOk gv cal X r xs) : AsOk gv cal X (.io i r) (.Name x p :: xs) := by
  refine ⟨paW (pa_cons a c.1 (starCons rfl)) fun σ H Q ⟨F, env, Os, ok, ds, e1, he, kk⟩ => ?_, by rw [List.all_cons, c.2.1]; rfl, fun z => (nomatch z)⟩
  simp only [evAs] at he
  split at he
  · rename_i m hm
    split at he
    · rename_i ds' eb g2
      cases he
      obtain ⟨v, O, q1, _⟩ := ok.sl.get hm
      exact ⟨v, q1, F, env, Os, ok, ds', _, g2, fun vs F2 H2 O Os2 ok2 tr2 nd dj r2 => kk (v :: vs) F2 H2 O Os2 ok2 tr2 nd dj (.io q1 r2)⟩
    · cases he
  · cases he
theorem as_t {e : E} {x : Expr} (a : PE X x (tM X.K (evE gv cal e))) (h2 : noStar x = true) : AsOk gv cal X (.t e) [x] := by
  refine ⟨paW (pa_cons a pa_nil (starCons h2)) fun σ H Q ⟨F, env, Os, ok, ds, e1, he, kk⟩ => ?_, by simp [h2], fun z => (nomatch z)⟩
  simp only [evAs] at he
  split at he
  · rename_i m ea g1
    cases he
    exact ⟨F, env, Os, ok, m, _, g1, fun v F1 H1 O Os1 ok1 tr1 nd dj r => kk [v] F1 H1 O Os1 ok1 tr1 nd dj (.t r)⟩
  · cases he
theorem lc_w {own : List (Str × Nat)} {tg : Tg} {it : It} {cond : Eo} {elt : E} (h7 : (tgSl tg).all (fun j => (own.map (·.2)).contains j) = true) {σ : L2.St} {H : Hp} {Q : VK} (h : tM X.K (evE gv cal (.lc own tg it cond elt)) σ H Q) :
    tLc (tI X.K (evIt gv cal it)) (tG X.K tg) (tT X.K (evC gv cal cond)) (tD X.K fun env => fzR (evE gv cal elt env)) (own.map (·.2)) σ H Q := by
  obtain ⟨F, env, Os, ok, m, e1, he, kk⟩ := h
  simp only [evE] at he
  split at he
  · rename_i ds ea g1
    split at he
    · rename_i rs eb g2
      split at he
      · rename_i hz
        cases he
        exact lc_run (fun _ _ _ z => z) (fun _ _ _ z => z) (fun _ _ _ z => z) h7 ok g1 g2 hz kk
      · cases he
    · cases he
  · cases he
theorem lc_pe (cx : CtxOk X gn gv fns fuel k) (hN : C.N = X.N) (s : ScOk X sc) {own : List (Str × Nat)} {tg : Tg} {it : It} {cond : Eo} {elt : E} {x t i : Expr} {ifs : List Expr} {scope : Scope} {p : Pos}
    (h1 : blkC C.N sc scope own = true) (h2 : chkTg C scope tg t = true) (h4 : noSet i = true) (h7 : (tgSl tg).all (fun j => (own.map (·.2)).contains j) = true) (hi : PI X t i (tI X.K (evIt gv cal it)))
    (hc : ∀ (s' : Shared) (H : Hp) (c : Addr) (cl : List (Str × Addr)) (fp : List Addr), PTs (X.blk s' H scope (compEnvC scope cl c X.env) fp) ifs (tT X.K (evC gv cal cond)))
    (he : ∀ (s' : Shared) (H : Hp) (c : Addr) (cl : List (Str × Addr)) (fp : List Addr), PE (X.blk s' H scope (compEnvC scope cl c X.env) fp) x (tM X.K (evE gv cal elt))) :
    PE X (.ListComp x [⟨t, i, ifs, 0⟩] scope p) (tM X.K (evE gv cal (.lc own tg it cond elt))) := by
  have bk := blkOk_by h1
  have bk2 := blk_of s bk
  rw [hN] at bk2
  have a := pe_lc (elt := x) (tg := t) (g := tG X.K tg) (tt := tT X.K (evC gv cal cond)) (te := tD X.K fun env => fzR (evE gv cal elt env)) (own := own) (scope := scope) (pos := p) cx.calm cx.nd hi bk2 (fun s' H c cl fp => sTg (X := X.blk s' H scope (compEnvC scope cl c X.env) fp) cx.calm cx.nd hN (ScOk.blk bk.kind s' H c cl fp) tg h2) hc (fun s' H c cl fp => peD (he s' H c cl fp)) (foldId h4)
  exact peW a fun σ H Q h => lc_w h7 h
end
variable (hG : C.gn = gn) (hF : C.fnn = fns.map (·.name))
include hG hF
mutual
theorem sE : ∀ (e : E) {X : Cx} {sc : Scope} {ex : Expr}, CtxOk X gn gv fns fuel k → C.N = X.N → ScOk X sc → chkE C sc e ex = true →
    PE X ex (tM X.K (evE gv (callF gv fns fuel k) e)) ∧ (tOk e = true → PT X ex (tT X.K fun env => fzR (evE gv (callF gv fns fuel k) e env)))
  | .c d, X, sc, ex, cx, hN, s, h => by
    rcases i_c h with ⟨rfl, j, p, rfl⟩ | ⟨b, j, p, rfl, rfl⟩ | ⟨b, j, p, rfl, rfl⟩ | ⟨b, j, p, rfl, rfl⟩
    · exact e_of_c pe_non (fun _ => .non) rfl
    · exact e_of_c pe_bl (fun _ => .bl b) rfl
    · exact e_of_c pe_int (fun _ => .int b) rfl
    · exact e_of_c pe_str (fun _ => .str b) rfl
  | .nm i, X, sc, ex, cx, hN, s, h => by
    obtain ⟨x, p, rfl, h⟩ := i_nm h
    exact both (nm_pe hN s h) rfl
  | .mv i, X, sc, ex, cx, hN, s, h => by
    obtain ⟨x, p, rfl, h⟩ := i_mv h
    exact both (mv_pe hN s h) rfl
  | .gl j, X, sc, ex, cx, hN, s, h => by
    obtain ⟨x, p, rfl, h1, h2⟩ := i_gl h
    exact both (gl_pe cx s h1 h2 hG) rfl
  | .bin op a b, X, sc, ex, cx, hN, s, h => by
    obtain ⟨l, r, p, rfl, h1, h2⟩ := i_bin h
    exact both (bin_pe (sO a cx hN s h1) (sO b cx hN s h2)) rfl
  | .neg a, X, sc, ex, cx, hN, s, h => by
    obtain ⟨l, p, rfl, h1⟩ := i_neg h
    exact both (neg_pe (sO a cx hN s h1)) rfl
  | .cmp op a b, X, sc, ex, cx, hN, s, h => by
    obtain ⟨l, r, p, rfl, h1, h2, h3⟩ := i_cmp h
    exact ⟨cmp_pe cx.room.units (sO a cx hN s h1) (sO b cx hN s h2) h3, fun _ => cmp_pt cx.room.units (sO a cx hN s h1) (sO b cx hN s h2) h3⟩
  | .isN a, X, sc, ex, cx, hN, s, h => by
    obtain ⟨l, j, q, p, rfl, h1⟩ := i_isN h
    exact ⟨isN_pe (sO a cx hN s h1), fun _ => isN_pt (sO a cx hN s h1)⟩
  | .notN a, X, sc, ex, cx, hN, s, h => by
    obtain ⟨l, j, q, p, rfl, h1⟩ := i_notN h
    exact ⟨notN_pe (sO a cx hN s h1), fun _ => notN_pt (sO a cx hN s h1)⟩
  | .bop b es, X, sc, ex, cx, hN, s, h => by
    obtain ⟨vs, p, rfl, h1⟩ := i_bop h
    exact bop_both (sEs es cx hN s h1) (es0 h1)
  | .not a, X, sc, ex, cx, hN, s, h => by
    obtain ⟨l, p, rfl, h1⟩ := i_not h
    exact not_both (sE a cx hN s h1)
  | .ite t a b, X, sc, ex, cx, hN, s, h => by
    obtain ⟨c, x, y, p, rfl, h1, h2, h3, h4⟩ := i_ite h
    exact ite_both h1 (sE t cx hN s h2) (sE a cx hN s h3) (sE b cx hN s h4)
  | .tup es, X, sc, ex, cx, hN, s, h => by
    obtain ⟨xs, n, p, rfl, h1⟩ := i_tup h
    exact both (tup_pe (sEs es cx hN s h1).pa) rfl
  | .lst es, X, sc, ex, cx, hN, s, h => by
    obtain ⟨xs, p, rfl, h1⟩ := i_lst h
    exact both (lst_pe (sEs es cx hN s h1).pa) rfl
  | .idx a b, X, sc, ex, cx, hN, s, h => by
    obtain ⟨l, r, p, rfl, h1, h2, h3⟩ := i_idx h
    exact both (idx_pe (sO a cx hN s h1) (sO b cx hN s h2) h3) rfl
  | .slc a lo hi, X, sc, ex, cx, hN, s, h => by
    obtain ⟨o, l, u, p2, p, rfl, h1, h2, h3⟩ := i_slc h
    exact both (slc_pe (sO a cx hN s h1) (sOo lo cx hN s h2) (sOo hi cx hN s h3)) rfl
  | .call f as, X, sc, ex, cx, hN, s, h => by
    obtain ⟨x, p, es, p2, rfl, h1, h2, h3⟩ := i_call h
    exact both (call_pe cx hF s h1 h2 (sAs as cx hN s h3).2.1 (sAs as cx hN s h3).2.2 (sAs as cx hN s h3).1) rfl
  | .blt b os, X, sc, ex, cx, hN, s, h => by
    obtain ⟨x, p, es, p2, rfl, h1, h2, h3⟩ := i_blt h
    exact both (blt_pe cx s h1 (sOs os cx hN s h2).2 h3 (sOs os cx hN s h2).1) rfl
  | .isi a ts b, X, sc, ex, cx, hN, s, h => by
    rcases i_isi h with ⟨t, x, p, e, y, q, p2, rfl, rfl, rfl, h1, h2, h3, h4⟩ | ⟨x, p, e, ys, n, q, p2, rfl, rfl, h1, h2, h3, h4, h5⟩
    · exact both (isi1_pe cx s h1 h4 h3 (sO a cx hN s h2)) rfl
    · exact both (isiT_pe cx s h1 h4 h3 h5 (sO a cx hN s h2)) rfl
  | .lrng two a b, X, sc, ex, cx, hN, s, h => by
    rcases i_lrng h with ⟨x, p, y, q, e, r, p2, rfl, rfl, h1, h2, h3, h4⟩ | ⟨x, p, y, q, e, g, r, p2, rfl, rfl, h1, h2, h3, h4, h5, h6⟩
    · exact both (lrng1_pe cx s h1 h2 h4 (sO a cx hN s h3)) rfl
    · exact both (lrng2_pe cx s h1 h2 h4 h6 (sO a cx hN s h3) (sO b cx hN s h5)) rfl
  | .lc own tg it cond elt, X, sc, ex, cx, hN, s, h => by
    obtain ⟨x, t, i, ifs, scope, p, rfl, h1, h2, h3, h4, h5, h6, h7⟩ := i_lc h
    exact both (lc_pe cx hN s h1 h2 h4 h7 (sIt it (tg := t) cx hN s h3)
      (fun s' H c cl fp => sC cond (cx.blk s' H scope (compEnvC scope cl c X.env) fp) hN (ScOk.blk (blkOk_by h1).kind s' H c cl fp) h5)
      (fun s' H c cl fp => (sE elt (cx.blk s' H scope (compEnvC scope cl c X.env) fp) hN (ScOk.blk (blkOk_by h1).kind s' H c cl fp) h6).1)) rfl
theorem sC : ∀ (e : Eo) {X : Cx} {sc : Scope} {ifs : List Expr}, CtxOk X gn gv fns fuel k → C.N = X.N → ScOk X sc → chkIfs C sc e ifs = true → PTs X ifs (tT X.K (evC gv (callF gv fns fuel k) e))
  | .none, X, sc, ifs, cx, hN, s, h => by
    have := i_C0 h
    subst this
    exact c0_pts
  | .some e, X, sc, ifs, cx, hN, s, h => by
    obtain ⟨x, rfl, h1, h2⟩ := i_C1 h
    exact c1_pts ((sE e cx hN s h2).2 h1)
theorem sO : ∀ (o : O) {X : Cx} {sc : Scope} {ex : Expr}, CtxOk X gn gv fns fuel k → C.N = X.N → ScOk X sc → chkO C sc o ex = true → PE X ex (tOv X.K (evO gv (callF gv fns fuel k) o))
  | .e a, X, sc, ex, cx, hN, s, h => oe_pe (sE a cx hN s (i_Oe h)).1
  | .s i, X, sc, ex, cx, hN, s, h => by
    obtain ⟨x, p, rfl, h⟩ := i_Os h
    exact sl_pe hN s h
theorem sOo : ∀ (o : Oo) {X : Cx} {sc : Scope} {ex : Option Expr}, CtxOk X gn gv fns fuel k → C.N = X.N → ScOk X sc → chkOo C sc o ex = true → PO X ex (tOo X.K (evOo gv (callF gv fns fuel k) o))
  | .none, X, sc, ex, cx, hN, s, h => by
    have := i_Oo0 h
    subst this
    exact oo_none
  | .some o, X, sc, ex, cx, hN, s, h => by
    obtain ⟨x, rfl, h⟩ := i_Oo1 h
    exact oo_some (sO o cx hN s h)
theorem sEs : ∀ (es : Es) {X : Cx} {sc : Scope} {xs : List Expr}, CtxOk X gn gv fns fuel k → C.N = X.N → ScOk X sc → chkEs C sc es xs = true → EsOk gv (callF gv fns fuel k) X es xs
  | .nil, X, sc, xs, cx, hN, s, h => by
    have := i_Es0 h
    subst this
    exact es_nil
  | .cons e r, X, sc, xs, cx, hN, s, h => by
    obtain ⟨y, ys, rfl, h1, h2, h3⟩ := i_Es1 h
    exact es_cons (sE e cx hN s h1) h2 (es0 h3) (sEs r cx hN s h3)
theorem sOs : ∀ (es : Os) {X : Cx} {sc : Scope} {xs : List Expr}, CtxOk X gn gv fns fuel k → C.N = X.N → ScOk X sc → chkOs C sc es xs = true → PA X xs (tOvs X.K (evOs gv (callF gv fns fuel k) es)) ∧ xs.all noStar = true
  | .nil, X, sc, xs, cx, hN, s, h => by
    have := i_Os0 h
    subst this
    exact os_nil
  | .cons e r, X, sc, xs, cx, hN, s, h => by
    obtain ⟨y, ys, rfl, h1, h2, h3⟩ := i_Os1 h
    exact os_cons (sO e cx hN s h1) h2 (sOs r cx hN s h3)
theorem sAs : ∀ (es : As) {X : Cx} {sc : Scope} {xs : List Expr}, CtxOk X gn gv fns fuel k → C.N = X.N → ScOk X sc → chkAs C sc es xs = true → PA X xs (tAs X.K (evAs gv (callF gv fns fuel k) es)) ∧ xs.all noStar = true ∧ (xs = [] → es = .nil)
  | .nil, X, sc, xs, cx, hN, s, h => by
    have := i_As0 h
    subst this
    exact as_nil
  | .v e r, X, sc, xs, cx, hN, s, h => by
    obtain ⟨y, ys, rfl, h1, h2, h3⟩ := i_Asv h
    exact as_v (sE e cx hN s h1).1 h2 (sAs r cx hN s h3)
  | .io i r, X, sc, xs, cx, hN, s, h => by
    obtain ⟨x, p, ys, rfl, h1, h3⟩ := i_Asio h
    exact as_io (rd_pe hN s h1) (sAs r cx hN s h3)
  | .t e, X, sc, xs, cx, hN, s, h => by
    obtain ⟨x, rfl, h1, h2⟩ := i_Ast h
    exact as_t (sE e cx hN s h1).1 h2
theorem sIt : ∀ (it : It) {X : Cx} {sc : Scope} {tg ex : Expr}, CtxOk X gn gv fns fuel k → C.N = X.N → ScOk X sc → chkIt C sc it tg ex = true → PI X tg ex (tI X.K (evIt gv (callF gv fns fuel k) it))
  | .lst o, X, sc, tg, ex, cx, hN, s, h => it_lst (sO o cx hN s (i_Il h))
  | .tup o, X, sc, tg, ex, cx, hN, s, h => it_tup (sO o cx hN s (i_It h))
  | .rng1 a, X, sc, tg, ex, cx, hN, s, h => by
    obtain ⟨x, p, e, p2, rfl, h1, h2, h3⟩ := i_I1 h
    exact it_rng1 cx s h1 h3 (sO a cx hN s h2)
  | .rng2 a b, X, sc, tg, ex, cx, hN, s, h => by
    obtain ⟨x, p, e, g, p2, rfl, h1, h2, h3, h4, h5⟩ := i_I2 h
    exact it_rng2 cx s h1 h3 h5 (sO a cx hN s h2) (sO b cx hN s h4)
  | .enum o, X, sc, tg, ex, cx, hN, s, h => by
    obtain ⟨ts, n, tp, x, p, e, p2, rfl, rfl, h1, h2, h3⟩ := i_Ie h
    exact it_enum cx s h1 h3 (sO o cx hN s h2)
  | .zip a b, X, sc, tg, ex, cx, hN, s, h => by
    obtain ⟨ts, n, tp, x, p, e, g, p2, rfl, rfl, h1, h2, h3, h4, h5⟩ := i_Iz h
    exact it_zip cx s h1 h3 h5 (sO a cx hN s h2) (sO b cx hN s h4)
end
end
end IL
set_option Elab.async false
set_option linter.all false
set_option maxRecDepth 100000
set_option maxHeartbeats 4000000
/-! statements: the rules -/
namespace IL
open PySem PySem.Spec PyProof.Rows L2

section
variable {K : PySem.W.Frag} {F F' H H' : Hp} {σ : L2.St} {env : Env} {Os : List (List Addr)}
theorem Ok.storeM (ok : Ok K F H σ env Os) {i : Nat} {v : V} {m : M} {O : List Addr} (hi : i < env.length) (r : RepM K F H v m O) (nd : (O ++ Os.flatten).Nodup) (dj : ∀ a ∈ O, F a = none) :
    Ok K F H (σ.set i (some v)) (env.set i (some m)) (Os.set i O) ∧ ∀ a ∈ (Os.set i O).flatten, a ∈ O ++ Os.flatten := by
  have p := flat_put (O := O) (Os := Os) (i := i) (by rw [ok.sl.len.2]; exact hi)
  have s := set_nil_sub Os i
  have nd2 : (O ++ (Os.set i []).flatten).Nodup := (List.Sublist.append (List.Sublist.refl O) s).nodup nd
  have sub : ∀ a ∈ (Os.set i O).flatten, a ∈ O ++ Os.flatten := fun a ha => by
    rcases List.mem_append.mp (p.mem_iff.mp ha) with z | z
    · exact List.mem_append_left _ z
    · exact List.mem_append_right _ (s.subset z)
  refine ⟨⟨ok.le, nodup_perm p.symm nd2, fun a ha => ?_, ok.sl.put2 (.has r)⟩, sub⟩
  rcases List.mem_append.mp (sub a ha) with z | z
  · exact dj a z
  · exact ok.dj a z
theorem stow_ok (ok : Ok K F H σ env Os) {pin : List Nat} {i : Nat} {own : Bool} {v : V} {m : M} {O : List Addr} {e2 : Env} (r : RepM K F H v m O) (nd : (O ++ Os.flatten).Nodup) (dj : ∀ a ∈ O, F a = none) (h : stow pin i own m env = some e2) :
    ∃ F2 Os2, Ok K F2 H (σ.set i (some v)) e2 Os2 ∧ Tr F H (O ++ Os.flatten) F2 H Os2.flatten ∧ (∀ j ∈ pin, (σ.set i (some v))[j]? = σ[j]?) ∧ (∀ a ∈ Os2.flatten, a ∈ O ++ Os.flatten) ∧ ∀ a, a ∉ O → F2 a = F a := by
  unfold stow at h
  split at h
  · cases h
  · rename_i hn
    rw [not_or, Decidable.not_not] at hn
    cases h
    have hp : ∀ j ∈ pin, (σ.set i (some v))[j]? = σ[j]? := fun j hj => List.getElem?_set_ne fun (z : i = j) => hn.1 (by rw [z]; exact hj)
    cases own with
    | true =>
      rw [if_pos rfl]
      obtain ⟨a, b⟩ := ok.storeM hn.2 r nd dj
      exact ⟨F, _, a, (Tr.refl F H _).sub b, hp, b, fun _ _ => rfl⟩
    | false =>
      rw [if_neg Bool.false_ne_true]
      obtain ⟨ok2, tr2⟩ := ok.fzTr (Tr.refl F H (O ++ Os.flatten)) nd dj
      have b : ∀ a ∈ (Os.set i []).flatten, a ∈ Os.flatten := fun a ha => (set_nil_sub Os i).subset ha
      exact ⟨fz F H O, _, ok2.store (r.freeze dj), tr2.sub b, hp, fun a ha => List.mem_append_right _ (b a ha), fun a ha => by unfold fz; rw [if_neg ha]⟩
/-- a held value through a later step -/
theorem keepO {F1 H1 F2 H2 : Hp} {O1 P1 P2 : List Addr} {v : V} {m : M} (r : RepM K F1 H1 v m O1) (nd : (O1 ++ P1).Nodup) (dj : ∀ a ∈ O1, F1 a = none) (tr : Tr F1 H1 P1 F2 H2 P2) (nd2 : P2.Nodup) :
    RepM K F2 H2 v m O1 ∧ (O1 ++ P2).Nodup ∧ (∀ a ∈ O1, F2 a = none) ∧ Tr F1 H1 (O1 ++ P1) F2 H2 (O1 ++ P2) := by
  obtain ⟨n1, n2, n3⟩ := List.nodup_append.mp nd
  have ap : ∀ a ∈ O1, a ∉ P1 := fun a h1 h2 => n3 a h1 a h2 rfl
  have ap2 : ∀ a ∈ O1, a ∉ P2 := fun a h1 h2 => (tr.nw a h2).elim (ap a h1) (r.dom a h1)
  refine ⟨r.mono tr.ff fun a ha o e => tr.fr a o e (ap a ha), List.nodup_append.mpr ⟨n1, nd2, fun a h1 b h2 e => ap2 a h1 (e ▸ h2)⟩, fun a ha => ?_, tr.ff, fun a o e hn => tr.fr a o e fun z => hn (List.mem_append_right _ z), fun a ha => ?_, fun a ha => ?_, tr.dm⟩
  · cases q : F2 a with
    | none => rfl
    | some o =>
      rcases tr.fn a (by rw [q]; exact fun z => nomatch z) with z | z | z
      · exact absurd (dj a ha) z
      · exact absurd z (ap a ha)
      · exact absurd z (r.dom a ha)
  · rcases List.mem_append.mp ha with z | z
    · exact .inl (List.mem_append_left _ z)
    · exact (tr.nw a z).imp (fun q => List.mem_append_right _ q) id
  · exact (tr.fn a ha).imp id fun q => q.imp (fun q => List.mem_append_right _ q) id
theorem Tr.frame {O O' X P : List Addr} (t : Tr F H O F' H' O') (h1 : ∀ a ∈ O, a ∈ X) (h2 : ∀ a ∈ P, a ∈ X) : Tr F H X F' H' (P ++ O') :=
  ⟨t.ff, fun a o e hn => t.fr a o e fun z => hn (h1 a z), fun a ha => (List.mem_append.mp ha).elim (fun z => .inl (h2 a z)) fun z => (t.nw a z).imp (h1 a) id, fun a ha => (t.fn a ha).imp id fun q => q.imp (h1 a) id, t.dm⟩
theorem stow_len {pin : List Nat} {i : Nat} {own : Bool} {m : M} {e2 : Env} (h : stow pin i own m env = some e2) : e2.length = env.length := by
  unfold stow at h
  split at h
  · cases h
  · cases h; rw [List.length_set]
/-- two values stored -/
theorem stow2_ok (ok : Ok K F H σ env Os) {pin : List Nat} {i j : Nat} {oi oj : Bool} {v w : V} {m n : M} {O P : List Addr} {e2 e3 : Env} (r : RepM K F H v m O) (r2 : RepM K F H w n P) (nd : (O ++ (P ++ Os.flatten)).Nodup) (dj : ∀ a ∈ O, F a = none) (dj2 : ∀ a ∈ P, F a = none)
    (h : stow pin i oi m env = some e2) (h2 : stow pin j oj n e2 = some e3) :
    ∃ F2 Os2, Ok K F2 H ((σ.set i (some v)).set j (some w)) e3 Os2 ∧ Tr F H (O ++ (P ++ Os.flatten)) F2 H Os2.flatten ∧ (∀ k ∈ pin, ((σ.set i (some v)).set j (some w))[k]? = σ[k]?) ∧ (∀ a ∈ Os2.flatten, a ∈ O ++ (P ++ Os.flatten)) ∧ ∀ a, a ∉ O → a ∉ P → F2 a = F a := by
  obtain ⟨n1, n2, n3⟩ := List.nodup_append.mp nd
  obtain ⟨n4, n5, n6⟩ := List.nodup_append.mp n2
  have ndO : (O ++ Os.flatten).Nodup := List.nodup_append.mpr ⟨n1, n5, fun a h1 b h2 e => n3 a h1 b (List.mem_append_right _ h2) e⟩
  obtain ⟨F2, Os2, ok2, tr2, p2, s2, f2⟩ := stow_ok ok r ndO dj h
  have ndP : (P ++ Os2.flatten).Nodup := List.nodup_append.mpr ⟨n4, ok2.nd, fun a h1 b h2 e => by
    subst e
    rcases List.mem_append.mp (s2 a h2) with z | z
    · exact n3 a z a (List.mem_append_left _ h1) rfl
    · exact n6 a h1 a z rfl⟩
  have djP : ∀ a ∈ P, F2 a = none := fun a ha => by
    rw [f2 a fun z => n3 a z a (List.mem_append_left _ ha) rfl]; exact dj2 a ha
  obtain ⟨F3, Os3, ok3, tr3, p3, s3, f3⟩ := stow_ok ok2 (r2.mono tr2.ff fun _ _ _ e => e) ndP djP h2
  refine ⟨F3, Os3, ok3, ?_, fun k hk => (p3 k hk).trans (p2 k hk), fun a ha => ?_, fun a h1 h2 => (f3 a h2).trans (f2 a h1)⟩
  · refine (tr2.frame (X := O ++ (P ++ Os.flatten)) (P := P) (fun a ha => ?_) fun a ha => List.mem_append_right _ (List.mem_append_left _ ha)).trans tr3
    rcases List.mem_append.mp ha with z | z
    · exact List.mem_append_left _ z
    · exact List.mem_append_right _ (List.mem_append_right _ z)
  · rcases List.mem_append.mp (s3 a ha) with z | z
    · exact List.mem_append_right _ (List.mem_append_left _ z)
    · rcases List.mem_append.mp (s2 a z) with z | z
      · exact List.mem_append_left _ z
      · exact List.mem_append_right _ (List.mem_append_right _ z)
/-- the owned list at a name is rewritten -/
theorem Ok.lset (ok : Ok K F H σ env Os) {i : Nat} {ds : List D} (e : env[i]? = some (some (.lst ds))) : ∃ a vs, σ[i]? = some (some (.ref a)) ∧ H a = some (.lst vs) ∧ RepDs K F vs ds ∧
    ∀ vs' ds', RepDs K F vs' ds' → Ok K F (upd H a (.lst vs')) σ (env.set i (some (.lst ds'))) Os ∧ Tr F H Os.flatten F (upd H a (.lst vs')) Os.flatten := by
  obtain ⟨v, O, h1, h2, h3, ok1, nd1, dj1, tr1⟩ := ok.out e
  cases h3 with
  | @lst a vs _ hH r =>
  refine ⟨a, vs, h1, hH, r, fun vs' ds' r' => ?_⟩
  obtain ⟨n1, n2, n3⟩ := List.nodup_append.mp nd1
  have hi : i < env.length := (List.getElem?_eq_some_iff.mp e).1
  have na : a ∉ (Os.set i []).flatten := fun z => n3 a (by simp) a z rfl
  have fa := dj1 a (by simp)
  have le' : Same F (upd H a (.lst vs')) := fun b o q => by
    have hb : b ≠ a := fun z => by subst z; rw [fa] at q; cases q
    rw [upd_ne hb]; exact ok.le b o q
  have ok2 : Ok K F (upd H a (.lst vs')) σ (env.set i none) (Os.set i []) := ⟨le', ok1.nd, ok1.dj, ok1.sl.mono (Same.refl F) fun b hb o q => by
    have hb : b ≠ a := fun z => na (z ▸ hb)
    rw [upd_ne hb]; exact q⟩
  obtain ⟨ok3, p3⟩ := ok2.back (i := i) (m := .lst ds') (v := .ref a) (O := [a]) (List.getElem?_set_self hi) h1 (List.getElem?_set_self (List.getElem?_eq_some_iff.mp h2).1) (.lst upd_same r') nd1 dj1
  rw [List.set_set, List.set_set] at ok3
  have e0 : Os.set i [a] = Os := by
    apply List.ext_getElem?
    intro j
    by_cases hj : i = j
    · subst hj; rw [List.getElem?_set_self (List.getElem?_eq_some_iff.mp h2).1, h2]
    · rw [List.getElem?_set_ne hj]
  rw [e0] at ok3
  have ma : a ∈ Os.flatten := (flat_set h2).mem_iff.mpr (List.mem_append_left _ (by simp))
  exact ⟨ok3, Same.refl F, fun b o q hb => by
    have hb : b ≠ a := fun z => hb (z ▸ ma)
    rw [upd_ne hb]; exact q, fun b hb => .inl hb, fun b hb => .inl hb, fun b hb => by
    by_cases z : b = a
    · subst z; rw [upd_same] at hb; cases hb
    · rw [upd_ne z] at hb; exact hb⟩
end

/-! ### readings -/
section
variable (K : PySem.W.Frag) (pin : List Nat)
def KN (F H : Hp) (O : List Addr) (σ : L2.St) (env : Env) (q : L2.St → Hp → Prop) : Prop :=
  ∀ σ' F' H' Os', Ok K F' H' σ' env Os' → Tr F H O F' H' Os'.flatten → (∀ j ∈ pin, σ'[j]? = σ[j]?) → q σ' H'
def KR (F H : Hp) (O : List Addr) (σ : L2.St) (env : Env) (m : M) (q : VK) : Prop :=
  ∀ v σ' F' H' O' Os', Ok K F' H' σ' env Os' → Tr F H O F' H' (O' ++ Os'.flatten) → (O' ++ Os'.flatten).Nodup → (∀ a ∈ O', F' a = none) → RepM K F' H' v m O' → (∀ j ∈ pin, σ'[j]? = σ[j]?) → q v H'
def Kont (F H : Hp) (O : List Addr) (σ : L2.St) (fl : Fl) (D : Ends) : Prop := match fl with
  | .nx e => KN K pin F H O σ e D.nx
  | .rt m e => KR K pin F H O σ e m D.rt
  | .bk e => KN K pin F H O σ e D.bk
  | .ct e => KN K pin F H O σ e D.ct
def tSt (ev : Env → Option Fl) : TS := fun D σ H => ∃ F env Os, Ok K F H σ env Os ∧ ∃ fl, ev env = some fl ∧ Kont K pin F H Os.flatten σ fl D
end
section
variable {K : PySem.W.Frag} {pin : List Nat} {F H F1 H1 : Hp} {O O1 : List Addr} {σ σ1 : L2.St}
theorem KN.move {env : Env} {q : L2.St → Hp → Prop} (k : KN K pin F H O σ env q) (tr : Tr F H O F1 H1 O1) (p : ∀ j ∈ pin, σ1[j]? = σ[j]?) : KN K pin F1 H1 O1 σ1 env q :=
  fun σ' F' H' Os' ok tr' p' => k σ' F' H' Os' ok (tr.trans tr') fun j hj => (p' j hj).trans (p j hj)
theorem KR.move {env : Env} {m : M} {q : VK} (k : KR K pin F H O σ env m q) (tr : Tr F H O F1 H1 O1) (p : ∀ j ∈ pin, σ1[j]? = σ[j]?) : KR K pin F1 H1 O1 σ1 env m q :=
  fun v σ' F' H' O' Os' ok tr' nd dj r p' => k v σ' F' H' O' Os' ok (tr.trans tr') nd dj r fun j hj => (p' j hj).trans (p j hj)
theorem Kont.move {fl : Fl} {D : Ends} (k : Kont K pin F H O σ fl D) (tr : Tr F H O F1 H1 O1) (p : ∀ j ∈ pin, σ1[j]? = σ[j]?) : Kont K pin F1 H1 O1 σ1 fl D := by
  cases fl with
  | nx e => exact KN.move k tr p
  | rt m e => exact KR.move k tr p
  | bk e => exact KN.move k tr p
  | ct e => exact KN.move k tr p
end
section
variable {gv : Nat → D} {cal : Nat → List M → Option (M × List M)} {fuel : Nat} {pin : List Nat} {X : Cx}
theorem set_ps {e : E} {i : Nat} {own : Bool} {y : Str} {py pos : Pos} {v : Expr} (h : PE X v (tM X.K (evE gv cal e))) (nd : X.N.Nodup) (hi : X.N[i]? = some y) (hx : Loc X.env.scope y) (hf : X.fn y = true ∨ X.env.scope.names.lookup y = some .local)
    (sw : swapsWith v (some (.Name y py)) pos.line X.env = pure false) : PS X (.Assign [.Name y py] v pos) (tSt X.K pin (evS gv cal fuel pin (.set i own e))) :=
  psW (ps_set nd hi hx h sw hf) fun D σ H ⟨F, env, Os, ok, fl, he, kk⟩ => by
    simp only [evS] at he
    split at he
    · rename_i m e1 h1
      rw [Option.map_eq_some_iff] at he
      obtain ⟨e2, h2, rfl⟩ := he
      exact ⟨F, env, Os, ok, m, e1, h1, fun v F1 H1 O Os1 ok1 tr nd dj r => by
        obtain ⟨F2, Os2, ok2, tr2, p2, _⟩ := stow_ok ok1 r nd dj h2
        exact kk _ F2 H1 Os2 ok2 (tr.trans tr2) p2⟩
    · cases he
theorem seq_ps {s : S} {r : Ss} {st : Stmt} {rest : List Stmt} (h1 : PS X st (tSt X.K pin (evS gv cal fuel pin s))) (h2 : PSs X rest (tSt X.K pin (evSs gv cal fuel pin r))) : PSs X (st :: rest) (tSt X.K pin (evSs gv cal fuel pin (.cons s r))) :=
  pssW (pss_cons h1 h2) fun D σ H ⟨F, env, Os, ok, fl, he, kk⟩ => by
    simp only [evSs] at he
    split at he
    · rename_i e1 g1
      exact ⟨F, env, Os, ok, .nx e1, g1, fun σ' F' H' Os' ok' tr' p' => ⟨F', e1, Os', ok', fl, he, kk.move tr' p'⟩⟩
    · rename_i hne
      refine ⟨F, env, Os, ok, fl, he, ?_⟩
      cases fl with
      | nx e => exact absurd he (hne e)
      | rt m e => exact kk
      | bk e => exact kk
      | ct e => exact kk
theorem nil_ps : PSs X [] (tSt X.K pin (evSs gv cal fuel pin .nil)) := pssW pss_nil fun D σ H ⟨F, env, Os, ok, fl, he, kk⟩ => by
  simp only [evSs] at he
  cases he
  exact kk σ F H Os ok (Tr.refl _ _ _) fun _ _ => rfl
theorem ps_docAny {x j p pos} : PS X (.Expr (.Constant (.str x) j p) pos) tNext := ps_doc
theorem pass_ps {st : Stmt} (h : PS X st tNext) : PS X st (tSt X.K pin (evS gv cal fuel pin .pass)) := psW h fun D σ H ⟨F, env, Os, ok, fl, he, kk⟩ => by
  simp only [evS] at he
  cases he
  exact kk σ F H Os ok (Tr.refl _ _ _) fun _ _ => rfl
theorem brk_ps {pos : Pos} : PS X (.Break pos) (tSt X.K pin (evS gv cal fuel pin .brk)) := psW ps_break fun D σ H ⟨F, env, Os, ok, fl, he, kk⟩ => by
  simp only [evS] at he
  cases he
  exact kk σ F H Os ok (Tr.refl _ _ _) fun _ _ => rfl
theorem cont_ps {pos : Pos} : PS X (.Continue pos) (tSt X.K pin (evS gv cal fuel pin .cont)) := psW ps_continue fun D σ H ⟨F, env, Os, ok, fl, he, kk⟩ => by
  simp only [evS] at he
  cases he
  exact kk σ F H Os ok (Tr.refl _ _ _) fun _ _ => rfl
theorem ret_ps {e : E} {v : Expr} {pos : Pos} (h : PE X v (tM X.K (evE gv cal e))) : PS X (.Return (some v) pos) (tSt X.K pin (evS gv cal fuel pin (.ret e))) := psW (ps_ret h) fun D σ H ⟨F, env, Os, ok, fl, he, kk⟩ => by
  simp only [evS] at he
  split at he
  · rename_i m e1 h1
    cases he
    exact ⟨F, env, Os, ok, m, e1, h1, fun v F1 H1 O Os1 ok1 tr nd dj r => kk v σ F1 H1 O Os1 ok1 tr nd dj r fun _ _ => rfl⟩
  · cases he
theorem retN_ps {pos : Pos} : PS X (.Return none pos) (tSt X.K pin (evS gv cal fuel pin (.ret (.c .non)))) := psW ps_retN fun D σ H ⟨F, env, Os, ok, fl, he, kk⟩ => by
  simp only [evS, evE] at he
  cases he
  exact kk .non σ F H [] Os ok (by simpa using Tr.refl F H Os.flatten) (by simpa using ok.nd) (fun a z => (nomatch z)) (.val .non) fun _ _ => rfl
theorem ex_ps {e : E} {v : Expr} {pos : Pos} (h : PE X v (tM X.K (evE gv cal e))) (sw : swapsWith v none pos.line X.env = pure false) : PS X (.Expr v pos) (tSt X.K pin (evS gv cal fuel pin (.ex e))) := psW (ps_expr h sw) fun D σ H ⟨F, env, Os, ok, fl, he, kk⟩ => by
  simp only [evS] at he
  split at he
  · rename_i m e1 h1
    cases he
    exact ⟨F, env, Os, ok, m, e1, h1, fun v F1 H1 O Os1 ok1 tr nd dj r => kk σ F1 H1 Os1 ok1 tr.drop fun _ _ => rfl⟩
  · cases he
theorem iff_ps {t : E} {a b : Ss} {c : Expr} {x y : List Stmt} {pos : Pos} (h : PT X c (tT X.K fun env => fzR (evE gv cal t env))) (h1 : PSs X x (tSt X.K pin (evSs gv cal fuel pin a))) (h2 : PSs X y (tSt X.K pin (evSs gv cal fuel pin b))) :
    PS X (.If c x y pos) (tSt X.K pin (evS gv cal fuel pin (.iff t a b))) := psW (ps_if h h1 h2) fun D σ H ⟨F, env, Os, ok, fl, he, kk⟩ => by
  simp only [evS] at he
  split at he
  · rename_i e1 g1
    exact ⟨F, env, Os, ok, true, e1, g1, fun F1 H1 Os1 ok1 tr1 => by
      show (if (true : Bool) = true then _ else _)
      rw [if_pos rfl]
      exact ⟨F1, e1, Os1, ok1, fl, he, kk.move tr1 fun _ _ => rfl⟩⟩
  · rename_i e1 g1
    exact ⟨F, env, Os, ok, false, e1, g1, fun F1 H1 Os1 ok1 tr1 => by
      show (if (false : Bool) = true then _ else _)
      rw [if_neg Bool.false_ne_true]
      exact ⟨F1, e1, Os1, ok1, fl, he, kk.move tr1 fun _ _ => rfl⟩⟩
  · cases he
theorem whl_ps {t : E} {b : Ss} {c : Expr} {x : List Stmt} {pos : Pos} (hp : PassesOwn (model X.prog X.w) X.A X.env X.xe) (h : PT X c (tT X.K fun env => fzR (evE gv cal t env))) (h1 : PSs X x (tSt X.K pin (evSs gv cal fuel pin b))) :
    PS X (.While c x [] pos) (tSt X.K pin (evS gv cal fuel pin (.whl t b))) := psW (ps_while hp h h1) fun D σ H ⟨F, env, Os, ok, fl, he, kk⟩ => by
  simp only [evS] at he
  refine ⟨fun m σ' H' => ∃ F' env' Os', Ok X.K F' H' σ' env' Os' ∧ whlLoop (fun e => fzR (evE gv cal t e)) (evSs gv cal fuel pin b) m env' = some fl ∧ Kont X.K pin F' H' Os'.flatten σ' fl D, ⟨fuel, F, env, Os, ok, he, kk⟩, ?_⟩
  clear he kk ok
  rintro m σ H ⟨F, env, Os, ok, he, kk⟩
  cases m with
  | zero => simp [whlLoop] at he
  | succ n =>
    simp only [whlLoop] at he
    split at he
    · rename_i e1 g1
      refine ⟨F, env, Os, ok, true, e1, g1, fun F1 H1 Os1 ok1 tr1 => ?_⟩
      show (if (true : Bool) = true then _ else _)
      rw [if_pos rfl]
      have k1 := kk.move tr1 (σ1 := σ) fun _ _ => rfl
      split at he
      · rename_i e2 g2
        exact ⟨_, fun σ' H' w => ⟨n, Nat.lt_succ_self _, w⟩, F1, e1, Os1, ok1, _, g2, fun σ' F' H' Os' ok' tr' p' => ⟨F', e2, Os', ok', he, k1.move tr' p'⟩⟩
      · rename_i e2 g2
        exact ⟨_, fun σ' H' w => ⟨n, Nat.lt_succ_self _, w⟩, F1, e1, Os1, ok1, _, g2, fun σ' F' H' Os' ok' tr' p' => ⟨F', e2, Os', ok', he, k1.move tr' p'⟩⟩
      · rename_i e2 g2
        cases he
        exact ⟨fun _ _ => False, fun σ' H' w => w.elim, F1, e1, Os1, ok1, _, g2, k1⟩
      · rename_i m e2 g2
        cases he
        exact ⟨fun _ _ => False, fun σ' H' w => w.elim, F1, e1, Os1, ok1, _, g2, k1⟩
      · cases he
    · rename_i e1 g1
      cases he
      refine ⟨F, env, Os, ok, false, e1, g1, fun F1 H1 Os1 ok1 tr1 => ?_⟩
      show (if (false : Bool) = true then _ else _)
      rw [if_neg Bool.false_ne_true]
      exact kk σ F1 H1 Os1 ok1 tr1 fun _ _ => rfl
    · cases he
theorem for_ps {tg : Tg} {it : It} {b : Ss} {t i : Expr} {x : List Stmt} {pos : Pos} (hp : PassesOwn (model X.prog X.w) X.A X.env X.xe) (hc : X.calm = true) (hi : PI X t i (tI X.K (evIt gv cal it))) (hg : PG X t (tG X.K tg)) (h1 : PSs X x (tSt X.K pin (evSs gv cal fuel pin b))) (hs : noSet i = true) :
    PS X (.For t i x [] pos) (tSt X.K pin (evS gv cal fuel pin (.for_ tg it b))) := psW (ps_for hp hc hi hg h1 (foldId hs)) fun D σ H ⟨F, env, Os, ok, fl, he, kk⟩ => by
  simp only [evS] at he
  split at he
  · rename_i htg
    split at he
    · rename_i ds e1 g1
      refine ⟨F, env, Os, ok, ds, e1, g1, fun J F1 H1 Os1 ok1 tr1 fd => ?_⟩
      refine ⟨fun i m σ' H' => i ≤ ds.length ∧ m = ds.length - i ∧ ∃ F' env' Os', Ok X.K F' H' σ' env' Os' ∧ Same F1 F' ∧ forLoop pin tg (evSs gv cal fuel pin b) (ds.drop i) env' = some fl ∧ Kont X.K pin F' H' Os'.flatten σ' fl D,
        ⟨ds.length, Nat.zero_le _, by simp, F1, e1, Os1, ok1, Same.refl _, by simpa using he, kk.move tr1 fun _ _ => rfl⟩, ?_⟩
      clear he kk tr1 ok1 ok
      rintro i m σ2 H2 ⟨hi, rfl, F2, e, Os2, ok2, s2, hl, kk2⟩
      by_cases hlt : i < ds.length
      · refine .inr ⟨fd.go i F2 H2 s2 ok2.le hlt, _, fun σ' H' w => ⟨ds.length - (i + 1), by omega, w⟩, fun x H3 y => ?_⟩
        have hd : ds.drop i = ds[i] :: ds.drop (i + 1) := List.drop_eq_getElem_cons hlt
        rw [hd] at hl
        simp only [forLoop] at hl
        obtain ⟨F3, O3, ok3, tr3, nd3, dj3, r3⟩ := ok2.rs (fd.yld i F2 H2 x H3 ds[i] s2 ok2.le (List.getElem?_eq_getElem hlt) y)
        cases r3 with
        | val r3 =>
        split at hl
        · cases hl
        · rename_i e3 g3
          refine ⟨F3, e, Os2, ds[i], ok3, r3, e3, g3, fun σ4 Os4 ok4 sub4 pin4 len4 => ?_⟩
          have tr4 : Tr F2 H2 Os2.flatten F3 H3 Os4.flatten := tr3.sub fun a ha => by simpa using sub4 a ha
          have p4 : ∀ j ∈ pin, σ4[j]? = σ2[j]? := fun j hj => pin4 j fun z => by
            have := List.all_eq_true.mp htg j z
            simp [hj] at this
          have k4 := kk2.move tr4 p4
          split at hl
          · rename_i e4 g4
            exact ⟨F3, e3, Os4, ok4, _, g4, fun σ5 F5 H5 Os5 ok5 tr5 p5 => ⟨hlt, rfl, F5, e4, Os5, ok5, s2.trans (tr3.ff.trans tr5.ff), hl, k4.move tr5 p5⟩⟩
          · rename_i e4 g4
            exact ⟨F3, e3, Os4, ok4, _, g4, fun σ5 F5 H5 Os5 ok5 tr5 p5 => ⟨hlt, rfl, F5, e4, Os5, ok5, s2.trans (tr3.ff.trans tr5.ff), hl, k4.move tr5 p5⟩⟩
          · rename_i e4 g4
            cases hl
            exact ⟨F3, e3, Os4, ok4, _, g4, k4⟩
          · rename_i m e4 g4
            cases hl
            exact ⟨F3, e3, Os4, ok4, _, g4, k4⟩
          · cases hl
      · have hi : i = ds.length := by omega
        subst hi
        rw [List.drop_length] at hl
        simp only [forLoop] at hl
        cases hl
        exact .inl ⟨fd.stop _ F2 H2 s2 ok2.le (Nat.le_refl _), kk2 σ2 F2 H2 Os2 ok2 (Tr.refl _ _ _) fun _ _ => rfl⟩
    · cases he
  · cases he
theorem sub_ps {i : Nat} {ix e : E} {x : Str} {s v : Expr} {p p2 pos : Pos} (hx : PE X (.Name x p) (tVar i)) (h1 : PE X s (tM X.K (evE gv cal ix))) (h2 : PE X v (tM X.K (evE gv cal e))) (hs : plainE s = true) (hv : noComp v = true) :
    PS X (.Assign [.Subscript (.Name x p) s p2] v pos) (tSt X.K pin (evS gv cal fuel pin (.sub i ix e))) :=
  psW (ps_asg (peD h2) (pg_sub hx (peD h1) set_list (fun _ => by cases s <;> first | rfl | cases hs)) (by cases v <;> first | rfl | cases hv) (by cases v <;> rfl)) fun D σ H ⟨F, env, Os, ok, fl, he, kk⟩ => by
    simp only [evS] at he
    split at he
    · rename_i d e1 g1
      split at he
      · rename_i ds0 q1
        split at he
        · rename_i k e2 g2
          split at he
          · rename_i ds q2
            split at he
            · rename_i j q3
              cases he
              refine ⟨F, env, Os, ok, d, e1, g1, fun v F1 H1 Os1 ok1 tr1 r1 => ?_⟩
              obtain ⟨a0, vs0, w1, w2, w3, _⟩ := ok1.lset q1
              refine ⟨_, w1, F1, e1, Os1, ok1, _, e2, g2, fun u F2 H2 Os2 ok2 tr2 r2 => ?_⟩
              obtain ⟨a, vs, y1, y2, y3, y4⟩ := ok2.lset q2
              rw [w1] at y1
              cases y1
              cases r2
              obtain ⟨ok3, tr3⟩ := y4 _ _ (RepDs.set (r1.mono tr2.ff) j y3)
              exact ⟨_, vs, k, j, rfl, rfl, y2, by rw [y3.length]; exact q3, kk σ F2 _ Os2 ok3 (tr1.trans (tr2.trans tr3)) fun _ _ => rfl⟩
            · cases he
          · cases he
        · cases he
      · cases he
    · cases he
theorem aug_add {i : Nat} {e : E} {D : Ends} {σ : L2.St} {H : Hp} (hh : tSt X.K pin (evS gv cal fuel pin (.aug i .add e)) D σ H) : tAug i (tD X.K fun env => fzR (evE gv cal e env)) (ipI fun a b => a + b) D σ H := by
  obtain ⟨F, env, Os, ok, fl, he, kk⟩ := hh
  simp only [evS] at he
  split at he
  · cases he
  · rename_i hp
    split at he
    · rename_i y q1
      obtain ⟨v, O, w1, w2, w3⟩ := ok.sl.get q1
      split at he
      · rename_i b e1 g1
        split at he
        · rename_i a
          cases he
          refine ⟨v, w1, F, env, Os, ok, _, e1, g1, fun u F1 H1 Os1 ok1 tr1 r1 => ?_⟩
          cases w3 with
          | val w3 =>
          cases w3
          cases r1
          exact ⟨a, b, rfl, rfl, kk _ F1 H1 _ (ok1.store (.int (a + b))) (tr1.sub fun a ha => (set_nil_sub Os1 i).subset ha) fun j hj => List.getElem?_set_ne fun (z : i = j) => hp (by rw [z]; exact hj)⟩
        · cases he
      · cases he
    · cases he
theorem aug_sub {i : Nat} {e : E} {D : Ends} {σ : L2.St} {H : Hp} (hh : tSt X.K pin (evS gv cal fuel pin (.aug i .sub e)) D σ H) : tAug i (tD X.K fun env => fzR (evE gv cal e env)) (ipI fun a b => a - b) D σ H := by
  obtain ⟨F, env, Os, ok, fl, he, kk⟩ := hh
  simp only [evS] at he
  split at he
  · cases he
  · rename_i hp
    split at he
    · rename_i y q1
      obtain ⟨v, O, w1, w2, w3⟩ := ok.sl.get q1
      split at he
      · rename_i b e1 g1
        split at he
        · rename_i a
          cases he
          refine ⟨v, w1, F, env, Os, ok, _, e1, g1, fun u F1 H1 Os1 ok1 tr1 r1 => ?_⟩
          cases w3 with
          | val w3 =>
          cases w3
          cases r1
          exact ⟨a, b, rfl, rfl, kk _ F1 H1 _ (ok1.store (.int (a - b))) (tr1.sub fun a ha => (set_nil_sub Os1 i).subset ha) fun j hj => List.getElem?_set_ne fun (z : i = j) => hp (by rw [z]; exact hj)⟩
        · cases he
      · cases he
    · cases he
theorem aug_ps {i : Nat} {op : BOp} {e : E} {x : Str} {v : Expr} {p pos : Pos} (h : PE X v (tM X.K (evE gv cal e))) (nd : X.N.Nodup) (hi : X.N[i]? = some x) (hx : Loc X.env.scope x) (hf : X.fn x = true ∨ X.env.scope.names.lookup x = some .local) (ho : op = .add ∨ op = .sub) :
    PS X (.AugAssign (.Name x p) (bopPy op) v pos) (tSt X.K pin (evS gv cal fuel pin (.aug i op e))) := by
  rcases ho with rfl | rfl
  · exact psW (ps_aug nd hi hx (peD h) ip_add hf) fun D σ H hh => aug_add hh
  · exact psW (ps_aug nd hi hx (peD h) ip_sub hf) fun D σ H hh => aug_sub hh
theorem app_ps {i : Nat} {e : E} {x : Str} {v : Expr} {p ap cp pos : Pos} (hx : PE X (.Name x p) (tVar i)) (h : PE X v (tM X.K (evE gv cal e))) (hv : noStar v = true) (hl : (ap.endLine == cp.line) = true) :
    PS X (.Expr (.Call (.Attribute (.Name x p) "append" ap) [v] [] cp) pos) (tSt X.K pin (evS gv cal fuel pin (.app i e))) := by
  have s1 := starCons (es := []) (env := X.env) hv
  refine psW (ps_expr (pe_bm F.plainAttrs_list F.slot_list_append F.type_list_append (r := rAppend) mt_append hx (pa_cons (peD h) pa_nil s1) rfl (by rw [s1]; rfl) hl s1 rfl) rfl) fun D σ H ⟨F, env, Os, ok, fl, he, kk⟩ => ?_
  simp only [evS] at he
  split at he
  · rename_i ds0 q1
    split at he
    · rename_i d e1 g1
      split at he
      · rename_i ds q2
        split at he
        · rename_i hz
          cases he
          obtain ⟨a0, vs0, w1, w2, w3, _⟩ := ok.lset q1
          refine ⟨_, w1, .inl ⟨rfl, vs0, SqL.of w2⟩, F, env, Os, ok, d, e1, g1, fun u F1 H1 Os1 ok1 tr1 r1 => ?_⟩
          obtain ⟨a, vs, y1, y2, y3, y4⟩ := ok1.lset q2
          rw [w1] at y1
          cases y1
          obtain ⟨ok3, tr3⟩ := y4 _ _ (y3.app (.cons r1 .nil))
          exact ⟨_, vs, u, rfl, rfl, y2, by rw [y3.length]; exact hz, kk σ F1 _ Os1 ok3 (tr1.trans tr3) fun _ _ => rfl⟩
        · cases he
      · cases he
    · cases he
  · cases he
theorem ext_ps {i : Nat} {e : E} {x : Str} {v : Expr} {p ap cp pos : Pos} (hx : PE X (.Name x p) (tVar i)) (h : PE X v (tM X.K (evE gv cal e))) (hv : noStar v = true) (hl : (ap.endLine == cp.line) = true) :
    PS X (.Expr (.Call (.Attribute (.Name x p) "extend" ap) [v] [] cp) pos) (tSt X.K pin (evS gv cal fuel pin (.ext i e))) := by
  have s1 := starCons (es := []) (env := X.env) hv
  refine psW (ps_expr (pe_bm F.plainAttrs_list F.slot_list_extend F.type_list_extend (r := rExtend) mt_extend hx (pa_cons (peD h) pa_nil s1) rfl (by rw [s1]; rfl) hl s1 rfl) rfl) fun D σ H ⟨F, env, Os, ok, fl, he, kk⟩ => ?_
  simp only [evS] at he
  split at he
  · rename_i ds0 q1
    split at he
    · rename_i es e1 g1
      split at he
      · rename_i ds q2
        split at he
        · rename_i hz
          cases he
          obtain ⟨a0, vs0, w1, w2, w3, _⟩ := ok.lset q1
          refine ⟨_, w1, .inl ⟨rfl, vs0, SqL.of w2⟩, F, env, Os, ok, _, e1, g1, fun u F1 H1 Os1 ok1 tr1 r1 => ?_⟩
          obtain ⟨a, vs, y1, y2, y3, y4⟩ := ok1.lset q2
          rw [w1] at y1
          cases y1
          cases r1 with
          | lst hq rs =>
          obtain ⟨ok3, tr3⟩ := y4 _ _ (y3.app rs)
          exact ⟨_, _, vs, _, rfl, rfl, y2, ok1.le _ _ hq, by rw [y3.length, rs.length]; exact hz, kk σ F1 _ Os1 ok3 (tr1.trans tr3) fun _ _ => rfl⟩
        · cases he
      · cases he
    · cases he
  · cases he
end
end IL
set_option Elab.async false
set_option linter.all false
set_option maxRecDepth 100000
set_option maxHeartbeats 4000000
/-! statements: pairs, comprehensions stored; the look is enough -/
namespace IL
open PySem PySem.Spec PyProof.Rows L2

def notTup : Expr → Bool
  | .Tuple .. => false
  | _ => true
def starB : Expr → Bool
  | .Starred .. => true
  | _ => false
def nameAt (env : PySem.Env) (line : Nat) : Expr → Option Str
  | .Name id pos => if env.kindOf id == some .local && pos.line == line then some id else none
  | _ => none
theorem sw_eq {env : PySem.Env} {ts vs : List Expr} {k k2 : Nat} {pt pt2 : Pos} : swappedStores [.Tuple ts k pt] (.Tuple vs k2 pt2) env =
    (if (!(ts.length == 2 || ts.length == 3) || vs.length != ts.length || env.blockKind != .function) = true then pure none else
      if (vs.any starB) = true then pure none else
      if ((ts.filterMap (nameAt env ((ts.head?.map (·.pos.line)).getD 0))).length != ts.length || (ts.filterMap (nameAt env ((ts.head?.map (·.pos.line)).getD 0))).eraseDups.length != (ts.filterMap (nameAt env ((ts.head?.map (·.pos.line)).getD 0))).length) = true then pure none else
      if (vs.all (foldedForSure 8)) = true then pure none else
      if (vs.all (constantsAlone 8)) = true then (do unsupported "assign.tuple-of-constant-expressions:order-of-the-stores"; pure (some (ts.filterMap (nameAt env ((ts.head?.map (·.pos.line)).getD 0))))) else
      pure (some (ts.filterMap (nameAt env ((ts.head?.map (·.pos.line)).getD 0))))) := rfl
theorem no_star : ∀ {vs : List Expr}, vs.all noStar = true → vs.any starB = false
  | [], _ => rfl
  | v :: r, h => by
    simp only [List.all_cons, Bool.and_eq_true] at h
    rw [List.any_cons, no_star h.2]
    obtain ⟨h, _⟩ := h
    cases v <;> first | exact (Bool.false_ne_true h).elim | rfl
theorem sw_pair {env : PySem.Env} {x y : Str} {px py pt pt2 : Pos} {k k2 : Nat} {v u : Expr} (hk : env.scope.kind = .function) (hx : env.scope.names.lookup x = some .local) (hy : env.scope.names.lookup y = some .local)
    (hv : noStar v = true) (hu : noStar u = true) (hl : (px.line == py.line) = true) (hf : (foldedForSure 8 v && foldedForSure 8 u) = false) (hc : (constantsAlone 8 v && constantsAlone 8 u) = false) (hxy : (x == y) = false) :
    swappedStores [.Tuple [.Name x px, .Name y py] k pt] (.Tuple [v, u] k2 pt2) env = pure (some [x, y]) := by
  have kx : env.kindOf x = some .local := hx
  have ky : env.kindOf y = some .local := hy
  have hb : env.blockKind = .function := by unfold Env.blockKind; rw [hk]; rfl
  have hl2 : (py.line == px.line) = true := by rw [beq_iff_eq] at hl ⊢; exact hl.symm
  have hyx : (y == x) = false := by rw [Bool.eq_false_iff, Ne, beq_iff_eq] at hxy ⊢; exact fun z => hxy z.symm
  have ed : ([x, y] : List Str).eraseDups = [x, y] := by
    rw [List.eraseDups_cons]
    simp [hyx, List.eraseDups_cons]
  have en : ([.Name x px, .Name y py] : List Expr).filterMap (nameAt env ((([.Name x px, .Name y py] : List Expr).head?.map (·.pos.line)).getD 0)) = [x, y] := by
    show ([.Name x px, .Name y py] : List Expr).filterMap (nameAt env px.line) = [x, y]
    simp [nameAt, kx, ky, hl2, List.filterMap_cons]
  rw [sw_eq, en, ed, if_neg (by rw [hb]; exact Bool.false_ne_true), if_neg (by rw [no_star (by simp [hv, hu])]; decide), if_neg (by exact Bool.false_ne_true), if_neg (by simpa using hf), if_neg (by simpa using hc)]
theorem sw_three {env : PySem.Env} {x y z : Str} {px py pz pt pt2 : Pos} {k k2 : Nat} {v u t : Expr} (hk : env.scope.kind = .function) (hx : env.scope.names.lookup x = some .local) (hy : env.scope.names.lookup y = some .local) (hz : env.scope.names.lookup z = some .local)
    (hv : noStar v = true) (hu : noStar u = true) (ht : noStar t = true) (hl : (px.line == py.line) = true) (hl3 : (pz.line == px.line) = true) (hf : (foldedForSure 8 v && foldedForSure 8 u && foldedForSure 8 t) = false) (hc : (constantsAlone 8 v && constantsAlone 8 u && constantsAlone 8 t) = false)
    (hxy : (x == y) = false) (hxz : (x == z) = false) (hyz : (y == z) = false) :
    swappedStores [.Tuple [.Name x px, .Name y py, .Name z pz] k pt] (.Tuple [v, u, t] k2 pt2) env = pure (some [x, y, z]) := by
  have kx : env.kindOf x = some .local := hx
  have ky : env.kindOf y = some .local := hy
  have kz : env.kindOf z = some .local := hz
  have hb : env.blockKind = .function := by unfold Env.blockKind; rw [hk]; rfl
  have hl2 : (py.line == px.line) = true := by rw [beq_iff_eq] at hl ⊢; exact hl.symm
  have hyx : (y == x) = false := by rw [Bool.eq_false_iff, Ne, beq_iff_eq] at hxy ⊢; exact fun z => hxy z.symm
  have hzx : (z == x) = false := by rw [Bool.eq_false_iff, Ne, beq_iff_eq] at hxz ⊢; exact fun z => hxz z.symm
  have hzy : (z == y) = false := by rw [Bool.eq_false_iff, Ne, beq_iff_eq] at hyz ⊢; exact fun z => hyz z.symm
  have ed : ([x, y, z] : List Str).eraseDups = [x, y, z] := by
    rw [List.eraseDups_cons]
    simp [hyx, hzx, hzy, List.eraseDups_cons]
  have en : ([.Name x px, .Name y py, .Name z pz] : List Expr).filterMap (nameAt env ((([.Name x px, .Name y py, .Name z pz] : List Expr).head?.map (·.pos.line)).getD 0)) = [x, y, z] := by
    show ([.Name x px, .Name y py, .Name z pz] : List Expr).filterMap (nameAt env px.line) = [x, y, z]
    rw [beq_iff_eq] at hl2 hl3
    simp [nameAt, kx, ky, kz, hl2, hl3, List.filterMap_cons]
  rw [sw_eq, en, ed, if_neg (by rw [hb]; exact Bool.false_ne_true), if_neg (by rw [no_star (by simp [hv, hu, ht])]; decide), if_neg (by exact Bool.false_ne_true), if_neg (by simpa [Bool.and_assoc] using hf), if_neg (by simpa [Bool.and_assoc] using hc)]
section
variable {gv : Nat → D} {cal : Nat → List M → Option (M × List M)} {fuel : Nat} {pin : List Nat} {X : Cx}
theorem par2_ps {i j : Nat} {oi oj : Bool} {a b : E} {x y : Str} {px py pt pt2 pos : Pos} {k k2 : Nat} {v u : Expr} (hc : X.calm = true) (nd : X.N.Nodup) (hi : X.N[i]? = some x) (hj : X.N[j]? = some y) (hij : i ≠ j) (hx : X.env.scope.names.lookup x = some .local) (hy : X.env.scope.names.lookup y = some .local)
    (h1 : PE X v (tM X.K (evE gv cal a))) (h2 : PE X u (tM X.K (evE gv cal b))) (hv : noStar v = true) (hu : noStar u = true)
    (hw : swappedStores [.Tuple [.Name x px, .Name y py] k pt] (.Tuple [v, u] k2 pt2) X.env = pure (some [x, y])) :
    PS X (.Assign [.Tuple [.Name x px, .Name y py] k pt] (.Tuple [v, u] k2 pt2) pos) (tSt X.K pin (evS gv cal fuel pin (.par2 i j oi oj a b))) :=
  psW (ps_par hc nd hi hj hij hx hy (pa_cons h1 (pa_cons h2 pa_nil (starCons hu)) (starCons hv)) hw rfl) fun D σ H ⟨F, env, Os, ok, fl, he, kk⟩ => by
    simp only [evS] at he
    split at he
    · rename_i m e1 g1
      split at he
      · rename_i n e2 g2
        split at he
        · rename_i e3 g3
          rw [Option.map_eq_some_iff] at he
          obtain ⟨e4, g4, rfl⟩ := he
          refine ⟨F, env, Os, ok, m, e1, g1, fun v1 F1 H1 O1 Os1 ok1 tr1 nd1 dj1 r1 => ⟨F1, e1, Os1, ok1, n, e2, g2, fun v2 F2 H2 O2 Os2 ok2 tr2 nd2 dj2 r2 => ?_⟩⟩
          obtain ⟨r1', nd', dj1', tr'⟩ := keepO r1 nd1 dj1 tr2 nd2
          obtain ⟨F3, Os3, ok3, tr3, p3, _⟩ := stow2_ok ok2 r1' r2 nd' dj1' dj2 g3 g4
          exact ⟨v1, v2, rfl, kk _ F3 H2 Os3 ok3 (tr1.trans (tr'.trans tr3)) p3⟩
        · cases he
      · cases he
    · cases he
theorem par3_ps {i j l : Nat} {oi oj ol : Bool} {a b c : E} {x y z : Str} {px py pz pt pt2 pos : Pos} {k k2 : Nat} {v u t : Expr} (hc : X.calm = true) (nd : X.N.Nodup) (hi : X.N[i]? = some x) (hj : X.N[j]? = some y) (hl : X.N[l]? = some z) (hij : i ≠ j) (hil : i ≠ l) (hjl : j ≠ l)
    (hx : X.env.scope.names.lookup x = some .local) (hy : X.env.scope.names.lookup y = some .local) (hz : X.env.scope.names.lookup z = some .local)
    (h1 : PE X v (tM X.K (evE gv cal a))) (h2 : PE X u (tM X.K (evE gv cal b))) (h3 : PE X t (tM X.K (evE gv cal c))) (hv : noStar v = true) (hu : noStar u = true) (ht : noStar t = true)
    (hw : swappedStores [.Tuple [.Name x px, .Name y py, .Name z pz] k pt] (.Tuple [v, u, t] k2 pt2) X.env = pure (some [x, y, z])) :
    PS X (.Assign [.Tuple [.Name x px, .Name y py, .Name z pz] k pt] (.Tuple [v, u, t] k2 pt2) pos) (tSt X.K pin (evS gv cal fuel pin (.par3 i j l oi oj ol a b c))) :=
  psW (ps_par3 hc nd hi hj hl hij hil hjl hx hy hz (pa_cons h1 (pa_cons h2 (pa_cons h3 pa_nil (starCons ht)) (starCons hu)) (starCons hv)) hw rfl) fun D σ H ⟨F, env, Os, ok, fl, he, kk⟩ => by
    simp only [evS] at he
    split at he
    · rename_i m e1 g1
      split at he
      · rename_i n e2 g2
        split at he
        · rename_i q e3 g3
          split at he
          · rename_i e4 g4
            split at he
            · rename_i e5 g5
              rw [Option.map_eq_some_iff] at he
              obtain ⟨e6, g6, rfl⟩ := he
              refine ⟨F, env, Os, ok, m, e1, g1, fun v1 F1 H1 O1 Os1 ok1 tr1 nd1 dj1 r1 => ⟨F1, e1, Os1, ok1, n, e2, g2, fun v2 F2 H2 O2 Os2 ok2 tr2 nd2 dj2 r2 => ⟨F2, e2, Os2, ok2, q, e3, g3, fun v3 F3 H3 O3 Os3 ok3 tr3 nd3 dj3 r3 => ?_⟩⟩⟩
              obtain ⟨r1', nd', dj1', tr'⟩ := keepO r1 nd1 dj1 tr2 nd2
              obtain ⟨r2', nd2', dj2', tr2'⟩ := keepO r2 nd2 dj2 tr3 nd3
              obtain ⟨r1'', nd'', dj1'', tr''⟩ := keepO r1' nd' dj1' tr2' nd2'
              obtain ⟨n1, n2, n3⟩ := List.nodup_append.mp nd''
              obtain ⟨n4, n5, n6⟩ := List.nodup_append.mp n2
              have ndA : (O1 ++ (O2 ++ Os3.flatten)).Nodup := List.nodup_append.mpr ⟨n1, List.nodup_append.mpr ⟨n4, ok3.nd, fun a h1 b h2 e => n6 a h1 b (List.mem_append_right _ h2) e⟩, fun a h1 b h2 e => n3 a h1 b (by
                rcases List.mem_append.mp h2 with z | z
                · exact List.mem_append_left _ z
                · exact List.mem_append_right _ (List.mem_append_right _ z)) e⟩
              obtain ⟨F4, Os4, ok4, tr4, p4, s4, f4⟩ := stow2_ok ok3 r1'' r2' ndA dj1'' dj2' g4 g5
              have in3 : ∀ a ∈ O3, a ∉ O1 ∧ a ∉ O2 := fun a ha => ⟨fun z => n3 a z a (List.mem_append_right _ (List.mem_append_left _ ha)) rfl, fun z => n6 a z a (List.mem_append_left _ ha) rfl⟩
              have dj4 : ∀ a ∈ O3, F4 a = none := fun a ha => (f4 a (in3 a ha).1 (in3 a ha).2).trans (dj3 a ha)
              have nd4 : (O3 ++ Os4.flatten).Nodup := by
                obtain ⟨m1, m2, m3⟩ := List.nodup_append.mp n5
                refine List.nodup_append.mpr ⟨m1, ok4.nd, fun a h1 b h2 e => ?_⟩
                subst e
                rcases List.mem_append.mp (s4 a h2) with z | z
                · exact (in3 a h1).1 z
                · rcases List.mem_append.mp z with z | z
                  · exact (in3 a h1).2 z
                  · exact m3 a h1 a z rfl
              obtain ⟨F5, Os5, ok5, tr5, p5, _⟩ := stow_ok ok4 (r3.mono tr4.ff fun _ _ _ e => e) nd4 dj4 g6
              refine ⟨v1, v2, v3, rfl, kk _ F5 H3 Os5 ok5 (tr1.trans (tr'.trans (tr''.trans ?_))) fun k hk => (p5 k hk).trans (p4 k hk)⟩
              refine (tr4.frame (X := O1 ++ (O2 ++ (O3 ++ Os3.flatten))) (P := O3) (fun a ha => ?_) fun a ha => List.mem_append_right _ (List.mem_append_right _ (List.mem_append_left _ ha))).trans tr5
              rcases List.mem_append.mp ha with z | z
              · exact List.mem_append_left _ z
              · rcases List.mem_append.mp z with z | z
                · exact List.mem_append_right _ (List.mem_append_left _ z)
                · exact List.mem_append_right _ (List.mem_append_right _ (List.mem_append_right _ z))
            · cases he
          · cases he
        · cases he
      · cases he
    · cases he
theorem unp_ps {ts : Tgs} {e : E} {xs : List Expr} {n : Nat} {p pos : Pos} {v : Expr} (h : PE X v (tM X.K (evE gv cal e))) (hg : PG X (.Tuple xs n p) (tG X.K (.tup ts))) (hv : noComp v = true) (ht : notTup v = true) :
    PS X (.Assign [.Tuple xs n p] v pos) (tSt X.K pin (evS gv cal fuel pin (.unp ts e))) :=
  psW (ps_asg (peD h) hg (by cases v <;> first | rfl | cases hv) (by cases v <;> first | exact (Bool.false_ne_true ht).elim | rfl)) fun D σ H ⟨F, env, Os, ok, fl, he, kk⟩ => by
    simp only [evS] at he
    split at he
    · rename_i htg
      split at he
      · rename_i ds e1 g1
        rw [Option.map_eq_some_iff] at he
        obtain ⟨e2, g2, rfl⟩ := he
        refine ⟨F, env, Os, ok, _, e1, g1, fun w F1 H1 Os1 ok1 tr1 r1 => ⟨F1, e1, Os1, .tup ds, ok1, r1, e2, by simpa only [asg] using g2, fun σ' Os' ok' sub' pin' len' => ?_⟩⟩
        exact kk σ' F1 H1 Os' ok' (tr1.sub sub') fun j hj => pin' j fun z => by
          have := List.all_eq_true.mp htg j (by simpa only [tgSl] using z)
          simp [hj] at this
      · cases he
    · cases he
theorem setLc_ps {gn : List Str} {fns : List FnD} {k : Nat} {C : CK} {sc : Scope} (cx : CtxOk X gn gv fns fuel k) (hN : C.N = X.N) (s : ScOk X sc) {own : List (Str × Nat)} {tg : Tg} {it : It} {cond : Eo} {elt : E} {x t i : Expr} {ifs : List Expr} {scope : Scope} {p : Pos}
    (h1 : blkC C.N sc scope own = true) (h2 : chkTg C scope tg t = true) (h4 : noSet i = true) (h7 : (tgSl tg).all (fun j => (own.map (·.2)).contains j) = true) (hi : PI X t i (tI X.K (evIt gv cal it)))
    (hc : ∀ (s' : Shared) (H : Hp) (c : Addr) (cl : List (Str × Addr)) (fp : List Addr), PTs (X.blk s' H scope (compEnvC scope cl c X.env) fp) ifs (tT X.K (evC gv cal cond)))
    (he : ∀ (s' : Shared) (H : Hp) (c : Addr) (cl : List (Str × Addr)) (fp : List Addr), PE (X.blk s' H scope (compEnvC scope cl c X.env) fp) x (tM X.K (evE gv cal elt)))
    {j : Nat} {ow : Bool} {y : Str} {py pos : Pos} (hy : X.N[j]? = some y) (hyl : X.env.scope.names.lookup y = some .local) (sw : swapsWith (.ListComp x [⟨t, i, ifs, 0⟩] scope p) (some (.Name y py)) pos.line X.env = pure true) :
    PS X (.Assign [.Name y py] (.ListComp x [⟨t, i, ifs, 0⟩] scope p) pos) (tSt X.K pin (evS gv cal fuel pin (.setLc j ow (.lc own tg it cond elt)))) := by
  have bk := blkOk_by h1
  have bk2 := blk_of s bk
  rw [hN] at bk2
  have a := ps_setLc (elt := x) (tg := t) (g := tG X.K tg) (tt := tT X.K (evC gv cal cond)) (te := tD X.K fun env => fzR (evE gv cal elt env)) (own := own) (scope := scope) (pos := p) (spos := pos) cx.calm cx.nd hy hyl sw hi bk2 (fun s' H c cl fp => sTg (X := X.blk s' H scope (compEnvC scope cl c X.env) fp) cx.calm cx.nd hN (ScOk.blk bk.kind s' H c cl fp) tg h2) hc (fun s' H c cl fp => peD (he s' H c cl fp)) (foldId h4)
  refine psW a fun D σ H ⟨F, env, Os, ok, fl, he, kk⟩ => ?_
  simp only [evS] at he
  split at he
  · rename_i m e1 g1
    rw [Option.map_eq_some_iff] at he
    obtain ⟨e2, g2, rfl⟩ := he
    refine lc_w (X := X) h7 ⟨F, env, Os, ok, m, e1, g1, fun v F1 H1 O Os1 ok1 tr nd dj r => ?_⟩
    obtain ⟨F2, Os2, ok2, tr2, p2, _⟩ := stow_ok ok1 r nd dj g2
    exact kk _ F2 H1 Os2 ok2 (tr.trans tr2) p2
  · cases he
end
end IL
set_option Elab.async false
set_option linter.all false
set_option maxRecDepth 100000
set_option maxHeartbeats 4000000
/-! statements: the look is enough -/
namespace IL
open PySem PySem.Spec PyProof.Rows L2
section
variable {C : CK} {sc : Scope} {ex : Stmt}
theorem k_set {i : Nat} {o : Bool} {e : E} (h : chkS C sc (.set i o e) ex = true) : ∃ y py v p, ex = .Assign [.Name y py] v p ∧ wrOk C sc i y = true ∧ chkE C sc e v = true ∧ ((∃ a b scope cpos, v = .ListComp a b scope cpos ∧ swapB sc scope cpos y py = false) ∨ noComp v = true) := by
  unfold chkS at h
  split at h
  · simp only [Bool.and_eq_true] at h
    refine ⟨_, _, _, _, rfl, h.1.1, h.1.2, ?_⟩
    have h := h.2
    split at h
    · rw [Bool.not_eq_true'] at h
      exact .inl ⟨_, _, _, _, rfl, h⟩
    · exact .inr h
  · cases h
theorem k_setLc {i : Nat} {o : Bool} {e : E} (h : chkS C sc (.setLc i o e) ex = true) : ∃ y py a b scope cpos p, ex = .Assign [.Name y py] (.ListComp a b scope cpos) p ∧ wrOk C sc i y = true ∧ chkE C sc e (.ListComp a b scope cpos) = true ∧ swapB sc scope cpos y py = true := by
  unfold chkS at h
  split at h
  · simp only [Bool.and_eq_true] at h
    obtain ⟨⟨h1, h2⟩, h3⟩ := h
    split at h3
    · exact ⟨_, _, _, _, _, _, _, rfl, h1, h2, h3⟩
    · cases h3
  · cases h
theorem k_unp {ts : Tgs} {e : E} (h : chkS C sc (.unp ts e) ex = true) : ∃ xs n q v p, ex = .Assign [.Tuple xs n q] v p ∧ chkTgs C sc ts xs = true ∧ chkE C sc e v = true ∧ noComp v = true ∧ notTup v = true := by
  unfold chkS at h
  split at h
  · simp only [Bool.and_eq_true] at h; exact ⟨_, _, _, _, _, rfl, h.1.1.1, h.1.1.2, h.1.2, h.2⟩
  · cases h
theorem k_par2 {i j : Nat} {oi oj : Bool} {a b : E} (h : chkS C sc (.par2 i j oi oj a b) ex = true) : ∃ x px y py n q v u n2 q2 p, ex = .Assign [.Tuple [.Name x px, .Name y py] n q] (.Tuple [v, u] n2 q2) p ∧ wrOk C sc i x = true ∧ wrOk C sc j y = true ∧ sc.names.lookup x = some .local ∧ sc.names.lookup y = some .local ∧ i ≠ j ∧
    chkE C sc a v = true ∧ chkE C sc b u = true ∧ noStar v = true ∧ noStar u = true ∧ (px.line == py.line) = true ∧ (foldedForSure 8 v && foldedForSure 8 u) = false ∧ (constantsAlone 8 v && constantsAlone 8 u) = false ∧ (x == y) = false := by
  unfold chkS at h
  split at h
  · rw [Bool.and_eq_true, Bool.and_eq_true, Bool.and_eq_true, Bool.not_eq_true', Bool.not_eq_true', Bool.not_eq_true'] at h
    obtain ⟨⟨⟨h, z1⟩, z2⟩, z3⟩ := h
    simp only [Bool.and_eq_true, decide_eq_true_eq] at h
    obtain ⟨⟨⟨⟨⟨⟨⟨⟨⟨a1, a2⟩, a3⟩, a4⟩, a5⟩, a6⟩, a7⟩, a8⟩, a9⟩, a10⟩ := h
    exact ⟨_, _, _, _, _, _, _, _, _, _, _, rfl, a1, a2, a3, a4, a5, a6, a7, a8, a9, a10, z1, z2, z3⟩
  · cases h
theorem k_par3 {i j k : Nat} {oi oj ok : Bool} {a b c : E} (h : chkS C sc (.par3 i j k oi oj ok a b c) ex = true) : ∃ x px y py z pz n q v u t n2 q2 p, ex = .Assign [.Tuple [.Name x px, .Name y py, .Name z pz] n q] (.Tuple [v, u, t] n2 q2) p ∧ wrOk C sc i x = true ∧ wrOk C sc j y = true ∧ wrOk C sc k z = true ∧
    sc.names.lookup x = some .local ∧ sc.names.lookup y = some .local ∧ sc.names.lookup z = some .local ∧ i ≠ j ∧ i ≠ k ∧ j ≠ k ∧ chkE C sc a v = true ∧ chkE C sc b u = true ∧ chkE C sc c t = true ∧ noStar v = true ∧ noStar u = true ∧ noStar t = true ∧ (px.line == py.line) = true ∧ (pz.line == px.line) = true ∧
    (foldedForSure 8 v && foldedForSure 8 u && foldedForSure 8 t) = false ∧ (constantsAlone 8 v && constantsAlone 8 u && constantsAlone 8 t) = false ∧ (x == y) = false ∧ (x == z) = false ∧ (y == z) = false := by
  unfold chkS at h
  split at h
  · rw [Bool.and_eq_true, Bool.and_eq_true, Bool.and_eq_true, Bool.and_eq_true, Bool.and_eq_true, Bool.not_eq_true', Bool.not_eq_true', Bool.not_eq_true', Bool.not_eq_true', Bool.not_eq_true'] at h
    obtain ⟨⟨⟨⟨⟨h, z1⟩, z2⟩, z3⟩, z4⟩, z5⟩ := h
    simp only [Bool.and_eq_true, decide_eq_true_eq] at h
    obtain ⟨⟨⟨⟨⟨⟨⟨⟨⟨⟨⟨⟨⟨⟨⟨⟨a1, a2⟩, a3⟩, a4⟩, a5⟩, a6⟩, a7⟩, a8⟩, a9⟩, a10⟩, a11⟩, a12⟩, a13⟩, a14⟩, a15⟩, a16⟩, a17⟩ := h
    exact ⟨_, _, _, _, _, _, _, _, _, _, _, _, _, _, rfl, a1, a2, a3, a4, a5, a6, a7, a8, a9, a10, a11, a12, a13, a14, a15, a16, a17, z1, z2, z3, z4, z5⟩
  · cases h
theorem k_sub {i : Nat} {ix e : E} (h : chkS C sc (.sub i ix e) ex = true) : ∃ x p s p2 v p3, ex = .Assign [.Subscript (.Name x p) s p2] v p3 ∧ rdOk C sc i x = true ∧ chkE C sc ix s = true ∧ chkE C sc e v = true ∧ plainE s = true ∧ noComp v = true := by
  unfold chkS at h
  split at h
  · simp only [Bool.and_eq_true] at h; exact ⟨_, _, _, _, _, _, rfl, h.1.1.1.1, h.1.1.1.2, h.1.1.2, h.1.2, h.2⟩
  · cases h
theorem k_aug {i : Nat} {op : BOp} {e : E} (h : chkS C sc (.aug i op e) ex = true) : ∃ x p v p3, ex = .AugAssign (.Name x p) (bopPy op) v p3 ∧ wrOk C sc i x = true ∧ (op = .add ∨ op = .sub) ∧ chkE C sc e v = true := by
  unfold chkS at h
  split at h
  · simp only [Bool.and_eq_true] at h
    obtain ⟨⟨⟨h1, h2⟩, h3⟩, h4⟩ := h
    rw [bopIs_ok h2]
    refine ⟨_, _, _, _, rfl, h1, ?_, h4⟩
    cases op <;> first | exact .inl rfl | exact .inr rfl | exact (Bool.false_ne_true h3).elim
  · cases h
theorem k_app {i : Nat} {e : E} (h : chkS C sc (.app i e) ex = true) : ∃ x p ap v cp p3, ex = .Expr (.Call (.Attribute (.Name x p) "append" ap) [v] [] cp) p3 ∧ rdOk C sc i x = true ∧ chkE C sc e v = true ∧ noStar v = true ∧ (ap.endLine == cp.line) = true := by
  unfold chkS at h
  split at h
  · simp only [Bool.and_eq_true, decide_eq_true_eq] at h
    obtain ⟨⟨⟨⟨h1, h2⟩, h3⟩, h4⟩, h5⟩ := h
    subst h2
    exact ⟨_, _, _, _, _, _, rfl, h1, h3, h4, h5⟩
  · cases h
theorem k_ext {i : Nat} {e : E} (h : chkS C sc (.ext i e) ex = true) : ∃ x p ap v cp p3, ex = .Expr (.Call (.Attribute (.Name x p) "extend" ap) [v] [] cp) p3 ∧ rdOk C sc i x = true ∧ chkE C sc e v = true ∧ noStar v = true ∧ (ap.endLine == cp.line) = true := by
  unfold chkS at h
  split at h
  · simp only [Bool.and_eq_true, decide_eq_true_eq] at h
    obtain ⟨⟨⟨⟨h1, h2⟩, h3⟩, h4⟩, h5⟩ := h
    subst h2
    exact ⟨_, _, _, _, _, _, rfl, h1, h3, h4, h5⟩
  · cases h
theorem k_ex {e : E} (h : chkS C sc (.ex e) ex = true) : ∃ v p, ex = .Expr v p ∧ chkE C sc e v = true ∧ noComp v = true := by
  unfold chkS at h
  split at h
  · simp only [Bool.and_eq_true] at h; exact ⟨_, _, rfl, h.1, h.2⟩
  · cases h
theorem k_ret {e : E} (h : chkS C sc (.ret e) ex = true) : (∃ v p, ex = .Return (some v) p ∧ chkE C sc e v = true) ∨ ∃ p, ex = .Return none p ∧ e = .c .non := by
  unfold chkS at h
  split at h
  · exact .inl ⟨_, _, rfl, h⟩
  · split at h
    · exact .inr ⟨_, rfl, rfl⟩
    · cases h
  · cases h
theorem k_iff {t : E} {a b : Ss} (h : chkS C sc (.iff t a b) ex = true) : ∃ c x y p, ex = .If c x y p ∧ tOk t = true ∧ chkE C sc t c = true ∧ chkSs C sc a x = true ∧ chkSs C sc b y = true := by
  unfold chkS at h
  split at h
  · simp only [Bool.and_eq_true] at h; exact ⟨_, _, _, _, rfl, h.1.1.1, h.1.1.2, h.1.2, h.2⟩
  · cases h
theorem k_whl {t : E} {b : Ss} (h : chkS C sc (.whl t b) ex = true) : ∃ c x p, ex = .While c x [] p ∧ tOk t = true ∧ chkE C sc t c = true ∧ chkSs C sc b x = true := by
  unfold chkS at h
  split at h
  · simp only [Bool.and_eq_true] at h; exact ⟨_, _, _, rfl, h.1.1, h.1.2, h.2⟩
  · cases h
theorem k_for {tg : Tg} {it : It} {b : Ss} (h : chkS C sc (.for_ tg it b) ex = true) : ∃ t i x p, ex = .For t i x [] p ∧ chkTg C sc tg t = true ∧ chkIt C sc it t i = true ∧ noSet i = true ∧ chkSs C sc b x = true := by
  unfold chkS at h
  split at h
  · simp only [Bool.and_eq_true] at h; exact ⟨_, _, _, _, rfl, h.1.1.1, h.1.1.2, h.1.2, h.2⟩
  · cases h
theorem k_pass (h : chkS C sc .pass ex = true) : (∃ p, ex = .Pass p) ∨ ∃ x j p p2, ex = .Expr (.Constant (.str x) j p) p2 := by
  unfold chkS at h
  split at h
  · exact .inl ⟨_, rfl⟩
  · exact .inr ⟨_, _, _, _, rfl⟩
  · cases h
theorem k_cont (h : chkS C sc .cont ex = true) : ∃ p, ex = .Continue p := by
  unfold chkS at h
  split at h
  · exact ⟨_, rfl⟩
  · cases h
theorem k_brk (h : chkS C sc .brk ex = true) : ∃ p, ex = .Break p := by
  unfold chkS at h
  split at h
  · exact ⟨_, rfl⟩
  · cases h
theorem k_nil {xs : List Stmt} (h : chkSs C sc .nil xs = true) : xs = [] := by
  cases xs with
  | nil => rfl
  | cons x r => unfold chkSs at h; cases h
theorem k_cons {s : S} {r : Ss} {xs : List Stmt} (h : chkSs C sc (.cons s r) xs = true) : ∃ y ys, xs = y :: ys ∧ chkS C sc s y = true ∧ chkSs C sc r ys = true := by
  cases xs with
  | nil => unfold chkSs at h; cases h
  | cons x r => unfold chkSs at h; simp only [Bool.and_eq_true] at h; exact ⟨_, _, rfl, h.1, h.2⟩
theorem lc_of {e : E} {a : Expr} {b : List Comprehension} {scope : Scope} {p : Pos} (h : chkE C sc e (.ListComp a b scope p) = true) : ∃ own tg it cond elt, e = .lc own tg it cond elt := by
  cases e with
  | lc own tg it cond elt => exact ⟨_, _, _, _, _, rfl⟩
  | c d => rcases i_c h with ⟨_, j, p, h⟩ | ⟨b, j, p, _, h⟩ | ⟨b, j, p, _, h⟩ | ⟨b, j, p, _, h⟩ <;> cases h
  | nm _ => obtain ⟨_, _, h, _⟩ := i_nm h; cases h
  | mv _ => obtain ⟨_, _, h, _⟩ := i_mv h; cases h
  | gl _ => obtain ⟨_, _, h, _⟩ := i_gl h; cases h
  | bin _ _ _ => obtain ⟨_, _, _, h, _⟩ := i_bin h; cases h
  | neg _ => obtain ⟨_, _, h, _⟩ := i_neg h; cases h
  | cmp _ _ _ => obtain ⟨_, _, _, h, _⟩ := i_cmp h; cases h
  | isN _ => obtain ⟨_, _, _, _, h, _⟩ := i_isN h; cases h
  | notN _ => obtain ⟨_, _, _, _, h, _⟩ := i_notN h; cases h
  | bop _ _ => obtain ⟨_, _, h, _⟩ := i_bop h; cases h
  | not _ => obtain ⟨_, _, h, _⟩ := i_not h; cases h
  | ite _ _ _ => obtain ⟨_, _, _, _, h, _⟩ := i_ite h; cases h
  | tup _ => obtain ⟨_, _, _, h, _⟩ := i_tup h; cases h
  | lst _ => obtain ⟨_, _, h, _⟩ := i_lst h; cases h
  | idx _ _ => obtain ⟨_, _, _, h, _⟩ := i_idx h; cases h
  | slc _ _ _ => obtain ⟨_, _, _, _, _, h, _⟩ := i_slc h; cases h
  | call _ _ => obtain ⟨_, _, _, _, h, _⟩ := i_call h; cases h
  | blt _ _ => obtain ⟨_, _, _, _, h, _⟩ := i_blt h; cases h
  | isi _ _ _ => rcases i_isi h with ⟨_, _, _, _, _, _, _, _, _, h, _⟩ | ⟨_, _, _, _, _, _, _, _, h, _⟩ <;> cases h
  | lrng _ _ _ => rcases i_lrng h with ⟨_, _, _, _, _, _, _, _, h, _⟩ | ⟨_, _, _, _, _, _, _, _, _, h, _⟩ <;> cases h
end
theorem noComp_sw {v : Expr} {t : Option Expr} {l : Nat} {env : PySem.Env} (h : noComp v = true) : swapsWith v t l env = pure false := by
  cases v <;> first | exact (Bool.false_ne_true h).elim | rfl
theorem lc_sw {X : Cx} {sc : Scope} (s : ScOk X sc) {C : CK} {i : Nat} {a : Expr} {b : List Comprehension} {scope : Scope} {cpos py : Pos} {y : Str} {l : Nat} (hw : wrOk C sc i y = true) (h : swapB sc scope cpos y py = false) : swapsWith (.ListComp a b scope cpos) (some (.Name y py)) l X.env = pure false := by
  have hb : X.env.blockKind = .function := by unfold Env.blockKind; rw [s.kind]; rfl
  have key : (X.env.kindOf y == some .local && py.line == cpos.line && !(scope.names.any fun (n, k) => n == y && (k == .local || k == .cell))) = false := by
    unfold swapB at h
    simp only [wrOk, Bool.and_eq_true] at hw
    have h2 := hw.2
    have kk : X.env.kindOf y = X.env.scope.names.lookup y := rfl
    split at h2
    · rename_i hl
      have := s.keep y _ (by decide) hl
      rw [hl] at h
      rw [kk, this]
      simpa using h
    · rename_i hl
      have := s.keep y _ (by decide) hl
      rw [kk, this]
      rfl
    · cases h2
  unfold swapsWith
  show (pure (X.env.blockKind == .function && X.env.kindOf y == some .local && py.line == cpos.line && !(scope.names.any fun (n, k) => n == y && (k == .local || k == .cell))) : Sem Bool) = pure false
  rw [hb]
  show (pure (X.env.kindOf y == some .local && py.line == cpos.line && !(scope.names.any fun (n, k) => n == y && (k == .local || k == .cell))) : Sem Bool) = pure false
  rw [key]
theorem lc_sw1 {X : Cx} {sc : Scope} (s : ScOk X sc) {a : Expr} {b : List Comprehension} {scope : Scope} {cpos py : Pos} {y : Str} {l : Nat} (h : swapB sc scope cpos y py = true) : X.env.scope.names.lookup y = some .local ∧ swapsWith (.ListComp a b scope cpos) (some (.Name y py)) l X.env = pure true := by
  unfold swapB at h
  rw [Bool.and_eq_true, Bool.and_eq_true, Bool.not_eq_true'] at h
  obtain ⟨⟨h1, h2⟩, h3⟩ := h
  split at h1
  · rename_i hl
    have := s.keep y _ (by decide) hl
    exact ⟨this, sw_true s.kind this h2 h3⟩
  · cases h1
theorem loc_of {X : Cx} {sc : Scope} (s : ScOk X sc) {x : Str} (h : sc.names.lookup x = some .local) : X.env.scope.names.lookup x = some .local := s.keep x _ (by decide) h
section
variable {gn : List Str} {gv : Nat → D} {fns : List FnD} {fuel k : Nat} {C : CK} {pin : List Nat}
variable (hG : C.gn = gn) (hF : C.fnn = fns.map (·.name))
include hG hF
mutual
theorem sS : ∀ (st : S) {X : Cx} {sc : Scope} {ex : Stmt}, CtxOk X gn gv fns fuel k → C.N = X.N → ScOk X sc → PassesOwn (model X.prog X.w) X.A X.env X.xe → chkS C sc st ex = true → PS X ex (tSt X.K pin (evS gv (callF gv fns fuel k) fuel pin st))
  | .set i o e, X, sc, ex, cx, hN, s, hp, h => by
    obtain ⟨y, py, v, p, rfl, h1, h2, h3⟩ := k_set h
    obtain ⟨w1, w2, w3⟩ := wr_pg hN cx.nd s h1
    refine set_ps (sE hG hF e cx hN s h2).1 cx.nd w1 w2 w3 ?_
    rcases h3 with ⟨a, b, scope, cpos, rfl, h3⟩ | h3
    · exact lc_sw s h1 h3
    · exact noComp_sw h3
  | .setLc i o e, X, sc, ex, cx, hN, s, hp, h => by
    obtain ⟨y, py, a, b, scope, cpos, p, rfl, h1, h2, h3⟩ := k_setLc h
    obtain ⟨w1, w2, w3⟩ := wr_pg hN cx.nd s h1
    obtain ⟨own, tg, it, cond, elt, rfl⟩ := lc_of h2
    obtain ⟨x, t, i2, ifs, scope2, p2, hq, g1, g2, g3, g4, g5, g6, g7⟩ := i_lc h2
    cases hq
    obtain ⟨z1, z2⟩ := lc_sw1 (a := a) (b := [⟨t, i2, ifs, 0⟩]) (l := p.line) s h3
    exact setLc_ps cx hN s g1 g2 g4 g7 (sIt hG hF it (tg := t) cx hN s g3)
      (fun s' H c cl fp => sC hG hF cond (cx.blk s' H scope (compEnvC scope cl c X.env) fp) hN (ScOk.blk (blkOk_by g1).kind s' H c cl fp) g5)
      (fun s' H c cl fp => (sE hG hF elt (cx.blk s' H scope (compEnvC scope cl c X.env) fp) hN (ScOk.blk (blkOk_by g1).kind s' H c cl fp) g6).1) w1 z1 z2
  | .unp ts e, X, sc, ex, cx, hN, s, hp, h => by
    obtain ⟨xs, n, q, v, p, rfl, h1, h2, h3, h4⟩ := k_unp h
    exact unp_ps (sE hG hF e cx hN s h2).1 (sTg cx.calm cx.nd hN s (.tup ts) (ex := .Tuple xs n q) h1) h3 h4
  | .par2 i j oi oj a b, X, sc, ex, cx, hN, s, hp, h => by
    obtain ⟨x, px, y, py, n, q, v, u, n2, q2, p, rfl, a1, a2, a3, a4, a5, a6, a7, a8, a9, a10, z1, z2, z3⟩ := k_par2 h
    exact par2_ps cx.calm cx.nd (wr_pg hN cx.nd s a1).1 (wr_pg hN cx.nd s a2).1 a5 (loc_of s a3) (loc_of s a4) (sE hG hF a cx hN s a6).1 (sE hG hF b cx hN s a7).1 a8 a9 (sw_pair s.kind (loc_of s a3) (loc_of s a4) a8 a9 a10 z1 z2 z3)
  | .par3 i j l oi oj ol a b c, X, sc, ex, cx, hN, s, hp, h => by
    obtain ⟨x, px, y, py, z, pz, n, q, v, u, t, n2, q2, p, rfl, a1, a2, a3, a4, a5, a6, a7, a8, a9, a10, a11, a12, a13, a14, a15, a16, a17, z1, z2, z3, z4, z5⟩ := k_par3 h
    exact par3_ps cx.calm cx.nd (wr_pg hN cx.nd s a1).1 (wr_pg hN cx.nd s a2).1 (wr_pg hN cx.nd s a3).1 a7 a8 a9 (loc_of s a4) (loc_of s a5) (loc_of s a6) (sE hG hF a cx hN s a10).1 (sE hG hF b cx hN s a11).1 (sE hG hF c cx hN s a12).1 a13 a14 a15
      (sw_three s.kind (loc_of s a4) (loc_of s a5) (loc_of s a6) a13 a14 a15 a16 a17 z1 z2 z3 z4 z5)
  | .sub i ix e, X, sc, ex, cx, hN, s, hp, h => by
    obtain ⟨x, p, t, p2, v, p3, rfl, h1, h2, h3, h4, h5⟩ := k_sub h
    exact sub_ps (rd_pe hN s h1) (sE hG hF ix cx hN s h2).1 (sE hG hF e cx hN s h3).1 h4 h5
  | .aug i op e, X, sc, ex, cx, hN, s, hp, h => by
    obtain ⟨x, p, v, p3, rfl, h1, h2, h3⟩ := k_aug h
    obtain ⟨w1, w2, w3⟩ := wr_pg hN cx.nd s h1
    exact aug_ps (sE hG hF e cx hN s h3).1 cx.nd w1 w2 w3 h2
  | .app i e, X, sc, ex, cx, hN, s, hp, h => by
    obtain ⟨x, p, ap, v, cp, p3, rfl, h1, h2, h3, h4⟩ := k_app h
    exact app_ps (rd_pe hN s h1) (sE hG hF e cx hN s h2).1 h3 h4
  | .ext i e, X, sc, ex, cx, hN, s, hp, h => by
    obtain ⟨x, p, ap, v, cp, p3, rfl, h1, h2, h3, h4⟩ := k_ext h
    exact ext_ps (rd_pe hN s h1) (sE hG hF e cx hN s h2).1 h3 h4
  | .ex e, X, sc, ex, cx, hN, s, hp, h => by
    obtain ⟨v, p, rfl, h1, h2⟩ := k_ex h
    exact ex_ps (sE hG hF e cx hN s h1).1 (noComp_sw h2)
  | .ret e, X, sc, ex, cx, hN, s, hp, h => by
    rcases k_ret h with ⟨v, p, rfl, h1⟩ | ⟨p, rfl, rfl⟩
    · exact ret_ps (sE hG hF e cx hN s h1).1
    · exact retN_ps
  | .iff t a b, X, sc, ex, cx, hN, s, hp, h => by
    obtain ⟨c, x, y, p, rfl, h1, h2, h3, h4⟩ := k_iff h
    exact iff_ps ((sE hG hF t cx hN s h2).2 h1) (sSs a cx hN s hp h3) (sSs b cx hN s hp h4)
  | .whl t b, X, sc, ex, cx, hN, s, hp, h => by
    obtain ⟨c, x, p, rfl, h1, h2, h3⟩ := k_whl h
    exact whl_ps hp ((sE hG hF t cx hN s h2).2 h1) (sSs b cx hN s hp h3)
  | .for_ tg it b, X, sc, ex, cx, hN, s, hp, h => by
    obtain ⟨t, i, x, p, rfl, h1, h2, h3, h4⟩ := k_for h
    exact for_ps hp cx.calm (sIt hG hF it (tg := t) cx hN s h2) (sTg cx.calm cx.nd hN s tg h1) (sSs b cx hN s hp h4) h3
  | .pass, X, sc, ex, cx, hN, s, hp, h => by
    rcases k_pass h with ⟨p, rfl⟩ | ⟨x, j, p, p2, rfl⟩
    · exact pass_ps ps_pass
    · exact pass_ps ps_doc
  | .cont, X, sc, ex, cx, hN, s, hp, h => by
    obtain ⟨p, rfl⟩ := k_cont h
    exact cont_ps
  | .brk, X, sc, ex, cx, hN, s, hp, h => by
    obtain ⟨p, rfl⟩ := k_brk h
    exact brk_ps
theorem sSs : ∀ (st : Ss) {X : Cx} {sc : Scope} {ex : List Stmt}, CtxOk X gn gv fns fuel k → C.N = X.N → ScOk X sc → PassesOwn (model X.prog X.w) X.A X.env X.xe → chkSs C sc st ex = true → PSs X ex (tSt X.K pin (evSs gv (callF gv fns fuel k) fuel pin st))
  | .nil, X, sc, ex, cx, hN, s, hp, h => by
    have := k_nil h
    subst this
    exact nil_ps
  | .cons st r, X, sc, ex, cx, hN, s, hp, h => by
    obtain ⟨y, ys, rfl, h1, h2⟩ := k_cons h
    exact seq_ps (sS st cx hN s hp h1) (sSs r cx hN s hp h2)
end
end
end IL
set_option Elab.async false
set_option linter.all false
set_option maxRecDepth 100000
set_option maxHeartbeats 4000000
/-! defs: every one keeps its promise -/
namespace IL
open PySem PySem.Spec PyProof.Rows L2

section
variable {K : PySem.W.Frag} {F H : Hp}
theorem fin_ok {σ : L2.St} {e : Env} {Os : List (List Addr)} (sl : Slots K F H σ e Os) : ∀ (io : List Bool) (vs : List V) (n : Nat) (fs : List M), io.length = vs.length → finals (pins io n) e = some fs → (∀ i v, vs[i]? = some v → n + i ∈ pins io n → σ[n + i]? = some (some v)) →
    ∃ Os2, Slots K F H ((sel io vs).map some) (fs.map some) Os2 ∧ Os2.flatten.Sublist (Os.drop n).flatten
  | [], [], n, fs, _, h, _ => by
    simp only [pins, finals] at h
    cases h
    exact ⟨[], .nil, List.nil_sublist _⟩
  | [], _ :: _, _, _, hl, _, _ => by simp at hl
  | _ :: _, [], _, _, hl, _, _ => by simp at hl
  | true :: io, v :: vs, n, fs, hl, h, hv => by
    simp only [pins, finals] at h
    split at h
    · rename_i m hm
      split at h
      · split at h
        · rename_i ms hms
          cases h
          obtain ⟨v', O, g1, g2, g3⟩ := sl.get hm
          have g0 := hv 0 v rfl (by simp [pins])
          rw [Nat.add_zero, g1] at g0
          cases g0
          obtain ⟨Os2, q1, q2⟩ := fin_ok sl io vs (n + 1) ms (by simpa using hl) hms fun i v hi hp => by
            have := hv (i + 1) v (by simpa using hi) (by
              have e1 : n + (i + 1) = n + 1 + i := by omega
              rw [e1]
              simp only [pins]
              exact List.mem_cons_of_mem _ hp)
            have e1 : n + (i + 1) = n + 1 + i := by omega
            rwa [e1] at this
          refine ⟨O :: Os2, .cons (.has g3) q1, ?_⟩
          have hn : n < Os.length := (List.getElem?_eq_some_iff.mp g2).1
          have hO : Os[n] = O := (List.getElem?_eq_some_iff.mp g2).2
          rw [List.drop_eq_getElem_cons hn, hO, List.flatten_cons, List.flatten_cons]
          exact List.Sublist.append (List.Sublist.refl _) q2
        · cases h
      · cases h
    · cases h
  | false :: io, v :: vs, n, fs, hl, h, hv => by
    simp only [pins] at h
    obtain ⟨Os2, q1, q2⟩ := fin_ok sl io vs (n + 1) fs (by simpa using hl) h fun i v hi hp => by
      have e1 : n + (i + 1) = n + 1 + i := by omega
      have := hv (i + 1) v (by simpa using hi) (by
        rw [e1]
        simpa only [pins] using hp)
      rwa [e1] at this
    refine ⟨Os2, by simpa only [sel] using q1, q2.trans ?_⟩
    by_cases hn : n < Os.length
    · rw [List.drop_eq_getElem_cons hn, List.flatten_cons]
      exact List.sublist_append_right _ _
    · rw [List.drop_eq_nil_of_le (by omega), List.drop_eq_nil_of_le (by omega)]
      exact List.Sublist.refl _
theorem slots_app : ∀ {σ σ2 : L2.St} {e e2 : Env} {Os Os2 : List (List Addr)}, Slots K F H σ e Os → Slots K F H σ2 e2 Os2 → Slots K F H (σ ++ σ2) (e ++ e2) (Os ++ Os2)
  | _, _, _, _, _, _, .nil, h => h
  | _, _, _, _, _, _, .cons s t, h => .cons s (slots_app t h)
theorem slots_rep : ∀ n : Nat, Slots K F H (List.replicate n none) (List.replicate n none) (List.replicate n [])
  | 0 => .nil
  | n + 1 => by rw [List.replicate_succ, List.replicate_succ, List.replicate_succ]; exact .cons .emp (slots_rep n)
theorem flat_repA : ∀ n : Nat, (List.replicate n ([] : List Addr)).flatten = []
  | 0 => rfl
  | n + 1 => by rw [List.replicate_succ, List.flatten_cons, flat_repA n]; rfl
end
theorem start_get {N : List Str} {vs : List V} {i : Nat} {v : V} (h : vs[i]? = some v) : (L2.start N vs)[i]? = some (some v) := by
  unfold L2.start
  have hi : i < vs.length := (List.getElem?_eq_some_iff.mp h).1
  rw [List.getElem?_append_left (by rw [List.length_map]; exact hi), List.getElem?_map, h]; rfl
/-- what is true of the text and the top, for all levels -/
structure Stat (K : PySem.W.Frag) (mg : Str → Option Value) (gn : List Str) (gv : Nat → D) (fns : List FnD) : Prop where
  fn : ∀ (f : Nat) (fd : FnD), fns[f]? = some fd → ∃ (a : Addr) (fdt : FuncData) (pa : Arguments) (body : List Stmt) (scope : Scope), mg fd.name = some (.ref a) ∧ Binds K fdt fd.ps [] ∧ FunD K fd.name fd.name pa body scope [] [] a fdt ∧ FnScope fd.N fd.ps scope ∧ chkSs ⟨fd.N, gn, fns.map (·.name)⟩ scope fd.body body = true
  blt : ∀ x, bltNames.contains x = true → mg x = none
  gl : ∀ (j : Nat) (x : Str), gn[j]? = some x → ∃ v u, mg x = some u ∧ RelV v u ∧ ∀ F, RepD K F v (gv j)
section
variable {P : Program} {w : World} {K : PySem.W.Frag} {mg : Str → Option Value} {base : Heap} {gn : List Str} {gv : Nat → D} {fns : List FnD} {fuel k : Nat}
theorem fn_step (fk : Facts P w K mg base gn gv fns fuel k) {f : Nat} {fd : FnD} {a : Addr} {fdt : FuncData} {pa : Arguments} {body : List Stmt} {scope : Scope} (hf : fns[f]? = some fd) (FD : FunD K fd.name fd.name pa body scope [] [] a fdt) (S : FnScope fd.N fd.ps scope)
    (hc : chkSs ⟨fd.N, gn, fns.map (·.name)⟩ scope fd.body body = true) : FnOk P w K mg base CX0 (k + 1) a fdt fd.ps (spF K gv fns fuel (k + 1) f fd) := by
  refine FD.ok S (fun vs H Q E ⟨F, ms, Os, ok, hl, _⟩ => hl) fun cdv A outer s H vs Q E hr h => ?_
  obtain ⟨F, ms, Os, ok, hl, r, fs, hcall, cont⟩ := h
  refine ⟨tSt K (pins fd.io 0) (evSs gv (callF gv fns fuel k) fuel (pins fd.io 0) fd.body), PSs.nox ?_, ?_⟩
  · refine sSs (C := ⟨fd.N, gn, fns.map (·.name)⟩) (gn := gn) (fns := fns) rfl rfl fd.body (X := (cxOf CX0 P w K mg base fd.N fd.name scope a cdv A outer s H E).nox) (sc := scope) ⟨rfl, S.nd, hr, fk⟩ rfl ⟨S.kind, fun x k _ h => h, fun x h => ?_, fun x h => rfl⟩ PassesOwn.never hc
    have := S.nofree (x, .free) (PySem.mem_of_lookup h)
    exact absurd rfl this
  · simp only [callF, hf, runF] at hcall
    split at hcall
    · rename_i hio
      obtain ⟨hio, hil, hpl⟩ := hio
      have hms : vs.length = ms.length := by have := ok.sl.len.1; simpa using this
      have ok0 : Ok K F H (L2.start fd.N vs) (startE fd.N.length ms) (Os ++ List.replicate (fd.N.length - vs.length) []) := by
        refine ⟨ok.le, ?_, ?_, ?_⟩
        · rw [List.flatten_append, flat_repA, List.append_nil]; exact ok.nd
        · rw [List.flatten_append, flat_repA, List.append_nil]; exact ok.dj
        · unfold L2.start startE
          rw [← hms]
          exact slots_app ok.sl (slots_rep _)
      have hfl : (Os ++ List.replicate (fd.N.length - vs.length) ([] : List Addr)).flatten = Os.flatten := by rw [List.flatten_append, flat_repA, List.append_nil]
      have close : ∀ (v : V) (σ' : L2.St) (F' H' : Hp) (O' : List Addr) (Os' : List (List Addr)) (e : Env) (m : M), Ok K F' H' σ' e Os' → Tr F H Os.flatten F' H' (O' ++ Os'.flatten) → (O' ++ Os'.flatten).Nodup → (∀ a ∈ O', F' a = none) → RepM K F' H' v m O' →
          (∀ j ∈ pins fd.io 0, σ'[j]? = (L2.start fd.N vs)[j]?) → (finals (pins fd.io 0) e).map (fun fs => (m, fs)) = some (r, fs) → Q v H' := by
        intro v σ' F' H' O' Os' e m ok' tr nd dj rm pin hfin
        rw [Option.map_eq_some_iff] at hfin
        obtain ⟨fs', h1, h2⟩ := hfin
        cases h2
        obtain ⟨Os2, q1, q2⟩ := fin_ok ok'.sl fd.io vs 0 fs (by rw [hil, hl]) h1 fun i v hi hp => by
          have := pin (0 + i) hp
          rw [Nat.zero_add] at this ⊢
          rw [this]
          exact start_get hi
        rw [List.drop_zero] at q2
        have sub : ∀ a ∈ O' ++ Os2.flatten, a ∈ O' ++ Os'.flatten := fun a ha => (List.Sublist.append (List.Sublist.refl O') q2).subset ha
        exact cont v F' H' O' Os2 (tr.sub sub) ((List.Sublist.append (List.Sublist.refl O') q2).nodup nd) dj rm ⟨ok'.le, q2.nodup ok'.nd, fun a ha => ok'.dj a (q2.subset ha), q1⟩
      split at hcall
      · rename_i m e he
        refine ⟨F, _, _, ok0, _, he, ?_⟩
        intro v σ' F' H' O' Os' ok' tr nd dj rm pin
        rw [hfl] at tr
        exact close v σ' F' H' O' Os' e m ok' tr nd dj rm pin hcall
      · rename_i e he
        refine ⟨F, _, _, ok0, _, he, ?_⟩
        intro σ' F' H' Os' ok' tr pin
        rw [hfl] at tr
        exact close .non σ' F' H' [] Os' e (.val .non) ok' (by simpa using tr) (by simpa using ok'.nd) (fun a z => (nomatch z)) (.val .non) pin hcall
      · cases hcall
    · cases hcall
theorem facts_all (st : Stat K mg gn gv fns) : ∀ k, Facts P w K mg base gn gv fns fuel k
  | 0 => ⟨fun f fd hf => (by
      obtain ⟨a, fdt, pa, body, scope, h1, h2, h3, h4, h5⟩ := st.fn f fd hf
      refine ⟨a, fdt, h1, h3.kp, h2, ⟨fun vs H Q E ⟨F, ms, Os, ok, hl, _⟩ => hl, fun A outer s H args us vs Q E hr e0 hb r h => ?_⟩⟩
      obtain ⟨F, ms, Os, ok, hl, r, fs, hcall, cont⟩ := h
      simp only [callF] at hcall
      cases hcall), st.blt, st.gl⟩
  | k + 1 => ⟨fun f fd hf => (by
      obtain ⟨a, fdt, pa, body, scope, h1, h2, h3, h4, h5⟩ := st.fn f fd hf
      exact ⟨a, fdt, h1, h3.kp, h2, fn_step (facts_all st k) hf h3 h4 h5⟩), st.blt, st.gl⟩
/-- the law itself: one parameter, the script -/
theorem law_ok (st : Stat K mg gn gv fns) {f : Nat} {fd : FnD} {x : Str} (hf : fns[f]? = some fd) (hio : fd.ps = [x]) {n : Nat} (hm : ∀ ns : List Int, ns.length ≤ n → callF gv fns fuel k f [.val (.scr ns)] = some (.val (.bl true), [])) {fa : Addr} (ha : mg fd.name = some (.ref fa)) :
    ∃ (fdt : FuncData) (sp : Sp), Binds K fdt fd.ps [] ∧ (∃ (pa : Arguments) (body : List Stmt) (scope : Scope), FunD K fd.name fd.name pa body scope [] [] fa fdt) ∧
      (∀ (H : Hp) (a : Addr) (ns : List Int), ns.length ≤ n → SqL K H a (ns.map V.int) → sp [.ref a] H (fun v _ => v = .bl true) fun _ _ _ => False) ∧ ∀ base : Heap, FnOk P w K mg base CX0 k fa fdt fd.ps sp := by
  obtain ⟨a, fdt, pa, body, scope, h1, h2, h3, h4, h5⟩ := st.fn f fd hf
  rw [ha] at h1
  cases h1
  refine ⟨fdt, spF K gv fns fuel k f fd, h2, ⟨pa, body, scope, h3⟩, fun H a ns hl hS => ?_, fun base => ?_⟩
  · refine ⟨H, [.val (.scr ns)], [[]], ⟨Same.refl H, by simp, fun a ha => by simp at ha, .cons (.has (.val (.scr hS))) .nil⟩, by rw [hio]; rfl, _, _, hm ns hl, fun v F' H' O Os' tr nd dj rm fin => ?_⟩
    cases rm with
    | val r =>
    cases r
    rfl
  · obtain ⟨a, fdt2, h6, h7, h8, h9⟩ := (facts_all (P := P) (w := w) (base := base) (fuel := fuel) st k).fn f fd hf
    rw [ha] at h6
    cases h6
    obtain ⟨oc, od, dV, kV, doc, pm, an, cdv, ct, osl, e1, lk, _⟩ := h3.ex
    cases k with
    | zero =>
      refine ⟨fun vs H Q E ⟨F, ms, Os, ok, hl, _⟩ => hl, fun A outer s H args us vs Q E hr e0 hb r h => ?_⟩
      obtain ⟨F, ms, Os, ok, hl, r, fs, hcall, cont⟩ := h
      simp only [callF] at hcall
      cases hcall
    | succ k => exact fn_step (facts_all st k) hf h3 h4 h5
end
end IL
set_option Elab.async false
set_option linter.all false
set_option maxRecDepth 100000
set_option maxHeartbeats 4000000
/-! the top: what the head shows, the law's end -/
namespace IL
open PySem PySem.Spec PyProof.Rows L2

/-! ### data of the top -/
mutual
def repB (K : PySem.W.Frag) : D → Value → Bool
  | .non, v => (match v with | .none => true | _ => false)
  | .bl b, v => (match v with | .bool c => b == c | _ => false)
  | .int i, v => (match v with | .int j _ => decide (i = j) | _ => false)
  | .str z, v => (match v with | .str y _ => decide (z = y) | _ => false)
  | .tup ds, v => (match v with
    | .ref a => (match K.lookup a with
      | some ⟨.type c, _, .seq its _, _⟩ => decide (c = "tuple") && decide (its.size ≤ sizeLine) && repBs K ds its.toList
      | _ => false)
    | _ => false)
  | .lst _, _ => false
  | .dic _, _ => false
  | .scr _, _ => false
def repBs (K : PySem.W.Frag) : List D → List Value → Bool
  | [], [] => true
  | d :: ds, v :: vs => repB K d v && repBs K ds vs
  | _, _ => false
end
mutual
theorem repB_ok {K : PySem.W.Frag} : ∀ {d : D} {v : Value}, repB K d v = true → ∃ x, RelV x v ∧ ∀ F, RepD K F x d
  | .non, v, h => by
    unfold repB at h
    split at h
    · exact ⟨.non, rfl, fun _ => .non⟩
    · cases h
  | .bl b, v, h => by
    unfold repB at h
    split at h
    · rw [eq_of_beq h]; exact ⟨.bl _, rfl, fun _ => .bl _⟩
    · cases h
  | .int i, v, h => by
    unfold repB at h
    split at h
    · rw [of_decide_eq_true h]; exact ⟨.int _, ⟨_, rfl⟩, fun _ => .int _⟩
    · cases h
  | .str i, v, h => by
    unfold repB at h
    split at h
    · rw [of_decide_eq_true h]; exact ⟨.str _, ⟨_, rfl⟩, fun _ => .str _⟩
    · cases h
  | .tup ds, v, h => by
    unfold repB at h
    split at h
    · rename_i a
      split at h
      · rename_i c od its n osl q
        simp only [Bool.and_eq_true, decide_eq_true_eq] at h
        obtain ⟨⟨h1, h2⟩, h3⟩ := h
        obtain ⟨xs, r1, r2⟩ := repBs_ok h3
        exact ⟨.ref a, rfl, fun F => .tup (.inr ⟨_, its, n, q, congrArg Value.type h1, rfl, h2, r1⟩) (r2 F)⟩
      · cases h
    · cases h
  | .lst _, _, h => by unfold repB at h; cases h
  | .dic _, _, h => by unfold repB at h; cases h
  | .scr _, _, h => by unfold repB at h; cases h
theorem repBs_ok {K : PySem.W.Frag} : ∀ {ds : List D} {vs : List Value}, repBs K ds vs = true → ∃ xs, Vals xs vs ∧ ∀ F, RepDs K F xs ds
  | [], [], _ => ⟨[], .nil, fun _ => .nil⟩
  | [], _ :: _, h => by unfold repBs at h; cases h
  | _ :: _, [], h => by unfold repBs at h; cases h
  | d :: ds, v :: vs, h => by
    unfold repBs at h
    rw [Bool.and_eq_true] at h
    obtain ⟨x, a1, a2⟩ := repB_ok h.1
    obtain ⟨xs, b1, b2⟩ := repBs_ok h.2
    exact ⟨x :: xs, .cons a1 b1, fun F => .cons (a2 F) (b2 F)⟩
end
/-! ### the hook: a look at a part of the heap, and the function objects -/
def obsI (ex : PySem.W.Frag → Bool) (fn : List He.DefD) (K : PySem.W.Frag) : He.AlD := (ex K && fn.all fun d => d.ok K, fn.map fun d => He.fnW K d.at_)
def obsIG (n : Nat) (ex : PySem.W.Frag → Bool) (fn : List He.DefD) (g : Addr → Option Obj) : He.AlD := obsI ex fn (He.frG g (He.asD g n))
def SaysI (ex : PySem.W.Frag → Bool) (fn : List He.DefD) (K : PySem.W.Frag) : Prop := obsI ex fn K = He.valD fn
def hookI (n : Nat) (ex : PySem.W.Frag → Bool) (fn : List He.DefD) : PySem.W.Hook where
  α := He.AlD
  obs := fun s => obsIG n ex fn s.heap.get?
  val := fun _ => He.valD fn
  says := fun _ h => ∃ K : PySem.W.Frag, K.In h ∧ SaysI ex fn K
  of := fun _ _ e => ⟨_, He.frG_in, e⟩
  keeps := fun _ _ _ ⟨K, hK, c⟩ k => ⟨K, PySem.W.Frag.In.keeps hK k, c⟩
theorem obsIG_eq {n : Nat} {ex : PySem.W.Frag → Bool} {fn : List He.DefD} {g : Addr → Option Obj} {s : Shared} (h : ∀ a, g a = s.heap.get? a) : obsIG n ex fn g = (hookI n ex fn).obs s := by
  have e : g = s.heap.get? := funext h
  rw [e] <;> rfl
section
variable {ex : PySem.W.Frag → Bool} {fn : List He.DefD} {K : PySem.W.Frag}
theorem SaysI.look (c : SaysI ex fn K) : ex K = true :=
  (He.ba (show (ex K && fn.all fun d => d.ok K) = true from congrArg (fun z : He.AlD => z.1) c)).1
theorem SaysI.def_ (c : SaysI ex fn K) (i : Nat) {d : He.DefD} (h : fn[i]? = some d := by rfl) : ∃ fd, FunD K d.name d.qual d.params d.body d.scope (d.dvs K) (d.kws K) (He.fAd K d.at_) fd := by
  have c2 := (He.ba (show (ex K && fn.all fun d => d.ok K) = true from congrArg (fun z : He.AlD => z.1) c)).2
  have e : fn.map (fun d => He.fnW K d.at_) = fn.map He.DefD.val := congrArg (fun z : He.AlD => z.2) c
  have e2 : (fn.map fun d => He.fnW K d.at_)[i]? = (fn.map He.DefD.val)[i]? := by rw [e]
  rw [List.getElem?_map, List.getElem?_map, h] at e2
  exact He.DefD.funD (Option.some.inj e2) (List.all_eq_true.mp c2 d (List.mem_of_getElem? h))
end
/-- what is looked at: the defs' names, the free names, the data -/
def exI (defs : List Str) (gls : List (Str × D)) (K : PySem.W.Frag) : Bool :=
  (defs.all fun x => (He.Fa.glo x).ok K) && (bltNames.all fun x => (He.Fa.free (x : Str)).ok K) && gls.all fun q => match PySem.W.nsIn K mainGlobals q.1 with
    | some (some v) => repB K q.2 v
    | _ => false
section
variable {K : PySem.W.Frag} {h : Heap} {mg : Str → Option Value} {defs : List Str} {gls : List (Str × D)}
theorem ex_glo (X : K.In h) (G : h.Ns mainGlobals mg) (c : exI defs gls K = true) {x : Str} (hx : x ∈ defs) : mg x = some (.ref (He.ga K x)) := by
  unfold exI at c
  simp only [Bool.and_eq_true] at c
  exact He.glo_ok X G (List.all_eq_true.mp c.1.1 x hx)
theorem ex_blt (X : K.In h) (G : h.Ns mainGlobals mg) (c : exI defs gls K = true) {x : Str} (hx : bltNames.contains x = true) : mg x = none := by
  unfold exI at c
  simp only [Bool.and_eq_true] at c
  exact He.free_ok X G (List.all_eq_true.mp c.1.2 x (List.contains_iff_mem.mp hx))
theorem ex_gl (X : K.In h) (G : h.Ns mainGlobals mg) (c : exI defs gls K = true) {j : Nat} {x : Str} (hx : (gls.map (·.1))[j]? = some x) : ∃ v u, mg x = some u ∧ RelV v u ∧ ∀ F, RepD K F v ((gls.map (·.2)).getD j .non) := by
  unfold exI at c
  simp only [Bool.and_eq_true] at c
  rw [List.getElem?_map, Option.map_eq_some_iff] at hx
  obtain ⟨q, h1, rfl⟩ := hx
  have c := List.all_eq_true.mp c.2 q (List.mem_of_getElem? h1)
  have hj : (gls.map (·.2)).getD j .non = q.2 := by rw [List.getD_eq_getElem?_getD, List.getElem?_map, h1]; rfl
  split at c
  · rename_i v e
    obtain ⟨x, r1, r2⟩ := repB_ok c
    exact ⟨x, v, PySem.W.mg_of X G e, r1, by rw [hj]; exact r2⟩
  · cases c
end
/-! ### a def -/
def FnI (K : PySem.W.Frag) (mg : Str → Option Value) (gn fnn : List Str) (fd : FnD) : Prop :=
  ∃ (a : Addr) (fdt : FuncData) (pa : Arguments) (body : List Stmt) (scope : Scope), mg fd.name = some (.ref a) ∧ Binds K fdt fd.ps [] ∧ FunD K fd.name fd.name pa body scope [] [] a fdt ∧ FnScope fd.N fd.ps scope ∧ chkSs ⟨fd.N, gn, fnn⟩ scope fd.body body = true
theorem stat_of {K : PySem.W.Frag} {h : Heap} {mg : Str → Option Value} {defs : List Str} {gls : List (Str × D)} {fns : List FnD} (X : K.In h) (G : h.Ns mainGlobals mg) (c : exI defs gls K = true) (hf : ∀ fd ∈ fns, FnI K mg (gls.map (·.1)) (fns.map (·.name)) fd) :
    Stat K mg (gls.map (·.1)) (fun j => (gls.map (·.2)).getD j .non) fns :=
  ⟨fun f fd e => hf fd (List.mem_of_getElem? e), fun x hx => ex_blt X G c hx, fun j x hx => ex_gl X G c hx⟩
theorem sp_law {K : PySem.W.Frag} {gv : Nat → D} {fns : List FnD} {fuel k f : Nat} {fd : FnD} {x : Str} (hio : fd.ps = [x]) {ns : List Int} (hm : callF gv fns fuel k f [.val (.scr ns)] = some (.val (.bl true), [])) {H : Hp} {a : Addr} (hS : SqL K H a (ns.map V.int)) :
    spF K gv fns fuel k f fd [.ref a] H (fun v _ => v = .bl true) fun _ _ _ => False := by
  refine ⟨H, [.val (.scr ns)], [[]], ⟨Same.refl H, by simp, fun a ha => by simp at ha, .cons (.has (.val (.scr hS))) .nil⟩, by rw [hio]; rfl, _, _, hm, fun v F' H' O Os' tr nd dj rm fin => ?_⟩
  cases rm with
  | val r =>
  cases r
  rfl
end IL
set_option Elab.async false
set_option linter.all false
set_option maxRecDepth 100000
set_option maxHeartbeats 4000000
/-! plain facts about what texts come to -/
namespace IL
open PySem PySem.Spec PyProof.Rows L2
theorem forLoop_inv {pin : List Nat} {tg : Tg} {body : Env → Option Fl} (Inv : List D → Env → Prop) : ∀ (todo done : List D) (env : Env), (∀ d1 x r env, done ++ todo = d1 ++ x :: r → Inv d1 env → ∃ e1, asg tg x env = some e1 ∧ ∃ e2, (body e1 = some (.nx e2) ∨ body e1 = some (.ct e2)) ∧ Inv (d1 ++ [x]) e2) →
    Inv done env → ∃ e2, forLoop pin tg body todo env = some (.nx e2) ∧ Inv (done ++ todo) e2
  | [], done, env, _, h => ⟨env, rfl, by simpa using h⟩
  | x :: r, done, env, st, h => by
    obtain ⟨e1, h1, e2, h2, h3⟩ := st done x r env rfl h
    obtain ⟨e3, h4, h5⟩ := forLoop_inv (pin := pin) Inv r (done ++ [x]) e2 (fun d1 y r' env' e => st d1 y r' env' (by simpa using e)) h3
    refine ⟨e3, ?_, by simpa using h5⟩
    rcases h2 with h2 | h2 <;> simp only [forLoop, h1, h2, h4]
theorem call_succ {gv : Nat → D} {fns : List FnD} {fu n f : Nat} {fd : FnD} {ms : List M} (h : fns[f]? = some fd) : callF gv fns fu (n + 1) f ms = runF gv (callF gv fns fu n) fu fd ms := by
  rw [callF, h]
/-- a comprehension whose test is always true, or none -/
theorem lcLoop_inv {tg : Tg} {test elt : Env → Option (D × Env)} {own : List Nat} (Inv : List D → List D → Env → Prop) : ∀ (todo done acc : List D) (env : Env), (∀ d1 x r acc env, done ++ todo = d1 ++ x :: r → Inv d1 acc env → ∃ e1, asg tg x (wipeE env own) = some e1 ∧ ∃ b e2, test e1 = some (.bl b, e2) ∧
      if b = true then ∃ d e3, elt e2 = some (d, e3) ∧ Inv (d1 ++ [x]) (acc ++ [d]) e3 else Inv (d1 ++ [x]) acc e2) →
    Inv done acc env → ∃ ds e2, lcLoop tg test elt own todo env = some (ds, e2) ∧ Inv (done ++ todo) (acc ++ ds) e2
  | [], done, acc, env, _, h => ⟨[], env, rfl, by simpa using h⟩
  | x :: r, done, acc, env, st, h => by
    obtain ⟨e1, h1, b, e2, h2, h3⟩ := st done x r acc env rfl h
    cases b with
    | true =>
      obtain ⟨d, e3, h4, h5⟩ := h3
      obtain ⟨ds, e4, h6, h7⟩ := lcLoop_inv Inv r (done ++ [x]) (acc ++ [d]) e3 (fun d1 y r' acc' env' e => st d1 y r' acc' env' (by simpa using e)) h5
      refine ⟨d :: ds, e4, ?_, by simpa using h7⟩
      simp only [lcLoop, h1, h2, h4, h6]
    | false =>
      obtain ⟨ds, e4, h6, h7⟩ := lcLoop_inv Inv r (done ++ [x]) acc e2 (fun d1 y r' acc' env' e => st d1 y r' acc' env' (by simpa using e)) h3
      refine ⟨ds, e4, ?_, by simpa using h7⟩
      simp only [lcLoop, h1, h2, h6]
theorem lc_eval {gv : Nat → D} {cal : Nat → List M → Option (M × List M)} {own : List (Str × Nat)} {tg : Tg} {it : It} {cond : Eo} {elt : E} {env e1 e2 : Env} {ds rs : List D} (h1 : evIt gv cal it env = some (ds, e1))
    (h2 : lcLoop tg (evC gv cal cond) (fun e => fzR (evE gv cal elt e)) (own.map (·.2)) ds e1 = some (rs, e2)) (h3 : ds.length ≤ 1000000) : evE gv cal (.lc own tg it cond elt) env = some (.lst rs, backE e1 e2 (own.map (·.2))) := by
  simp only [evE, h1, h2, if_pos h3]
theorem for_eval {gv : Nat → D} {cal : Nat → List M → Option (M × List M)} {fu : Nat} {pin : List Nat} {tg : Tg} {it : It} {b : Ss} {env e1 : Env} {ds : List D} (h1 : evIt gv cal it env = some (ds, e1)) (h2 : tgOk pin tg = true) :
    evS gv cal fu pin (.for_ tg it b) env = forLoop pin tg (evSs gv cal fu pin b) ds e1 := by
  simp only [evS, h1, if_pos h2]
theorem ss_cons {gv : Nat → D} {cal : Nat → List M → Option (M × List M)} {fu : Nat} {pin : List Nat} {s : S} {r : Ss} {env e1 : Env} (h : evS gv cal fu pin s env = some (.nx e1)) : evSs gv cal fu pin (.cons s r) env = evSs gv cal fu pin r e1 := by
  simp only [evSs, h]
theorem ss_nil {gv : Nat → D} {cal : Nat → List M → Option (M × List M)} {fu : Nat} {pin : List Nat} {env : Env} : evSs gv cal fu pin .nil env = some (.nx env) := by
  simp only [evSs]
theorem ss_ret {gv : Nat → D} {cal : Nat → List M → Option (M × List M)} {fu : Nat} {pin : List Nat} {e : E} {r : Ss} {env e1 : Env} {m : M} (h : evE gv cal e env = some (m, e1)) : evSs gv cal fu pin (.cons (.ret e) r) env = some (.rt m e1) := by
  simp only [evSs, evS, h]
end IL
set_option Elab.async false
set_option linter.all false
set_option maxRecDepth 100000
set_option maxHeartbeats 0
namespace K52
open PySem PySem.Spec PyProof.Rows L2 IL
def y0_0 : E := (.nm 2)
def z0_0 : Eo := (.some (.cmp .eq (.e (.idx (.s 3) (.e (.c (.int 0))))) (.e (.gl 1))))
def x0_0 : E := (.lc [(PySem.Str.ofString "index", 2), (PySem.Str.ofString "write", 3)] (.tup (.cons (.nm 2) (.cons (.nm 3) .nil))) (.enum (.e (.nm 0))) z0_0 y0_0)
def s0_0 : S := .setLc 1 false x0_0
def s0_1 : S := .ret (.ite (.cmp .gt (.e (.blt .len (.cons (.s 1) .nil))) (.e (.c (.int 0)))) (.idx (.s 1) (.e (.neg (.e (.c (.int 1)))))) (.neg (.e (.c (.int 1)))))
def b0 : Ss := (.cons s0_0 (.cons s0_1 .nil))
/-- barrier_of: 0 writes, 1 found, 2 index, 3 write -/
def f0 : FnD := ⟨PySem.Str.ofString "barrier_of", [PySem.Str.ofString "writes"], [PySem.Str.ofString "writes", PySem.Str.ofString "found", PySem.Str.ofString "index", PySem.Str.ofString "write"], [false], b0⟩
def y1_0 : E := (.blt .tuple (.cons (.s 7) .nil))
def x1_0 : E := (.lc [(PySem.Str.ofString "numbers", 7)] (.nm 7) (.lst (.e (.nm 0))) .none y1_0)
def s1_0 : S := .par2 3 4 true false x1_0 (.call 0 (.v (.nm 1) .nil))
def q1_0 : Ss := (.cons (.iff (.bop true (.cons (.cmp .ne (.e (.idx (.s 6) (.e (.c (.int 0))))) (.e (.gl 1))) (.cons (.bop false (.cons (.cmp .lt (.s 5) (.s 4)) (.cons (.cmp .isin (.s 5) (.s 2)) .nil))) .nil))) (.cons (.sub 3 (.idx (.s 6) (.e (.c (.int 1)))) (.blt .tuple (.cons (.e (.idx (.s 6) (.e (.c (.int 2))))) .nil))) .nil) .nil) .nil)
def s1_1 : S := .for_ (.tup (.cons (.nm 5) (.cons (.nm 6) .nil))) (.enum (.e (.nm 1))) q1_0
def s1_2 : S := .ret (.blt .tuple (.cons (.s 3) .nil))
def b1 : Ss := (.cons s1_0 (.cons s1_1 (.cons s1_2 .nil)))
/-- stop: 0 disk, 1 writes, 2 kept, 3 places, 4 last, 5 index, 6 write, 7 numbers -/
def f1 : FnD := ⟨PySem.Str.ofString "stop", [PySem.Str.ofString "disk", PySem.Str.ofString "writes", PySem.Str.ofString "kept"], [PySem.Str.ofString "disk", PySem.Str.ofString "writes", PySem.Str.ofString "kept", PySem.Str.ofString "places", PySem.Str.ofString "last", PySem.Str.ofString "index", PySem.Str.ofString "write", PySem.Str.ofString "numbers"], [false, false, false], b1⟩
def s2_0 : S := .set 2 false (.ite (.cmp .lt (.s 1) (.e (.blt .len (.cons (.s 0) .nil)))) (.idx (.s 0) (.s 1)) (.c (.int 0)))
def s2_1 : S := .ret (.lst (.cons (.bin .mul (.e (.blt .abs (.cons (.s 2) .nil))) (.e (.blt .int (.cons (.e (.cmp .ge (.e (.blt .abs (.cons (.s 2) .nil))) (.e (.bin .pow (.e (.c (.int 10))) (.e (.c (.int 18))))))) .nil)))) (.cons (.bin .add (.e (.bin .add (.e (.bin .mod (.e (.blt .int (.cons (.s 2) .nil))) (.e (.c (.int 2147483629))))) (.e (.bin .mul (.e (.c (.int 7919))) (.s 1))))) (.e (.c (.int 75)))) (.cons (.c (.int 0)) .nil))))
def b2 : Ss := (.cons s2_0 (.cons s2_1 .nil))
/-- _law_box: 0 _law_script, 1 _law_k, 2 _law_cell -/
def f2 : FnD := ⟨PySem.Str.ofString "_law_box", [PySem.Str.ofString "_law_script", PySem.Str.ofString "_law_k"], [PySem.Str.ofString "_law_script", PySem.Str.ofString "_law_k", PySem.Str.ofString "_law_cell"], [false, false], b2⟩
def s3_0 : S := .iff (.cmp .gt (.e (.idx (.s 0) (.e (.c (.int 0))))) (.e (.c (.int 0)))) (.cons (.set 3 false (.bin .mod (.e (.blt .int (.cons (.e (.idx (.s 0) (.e (.c (.int 0))))) .nil))) (.s 1))) (.cons (.sub 0 (.c (.int 0)) (.bin .fdiv (.e (.idx (.s 0) (.e (.c (.int 0))))) (.s 1))) (.cons (.ret (.nm 3)) .nil))) .nil
def s3_1 : S := .iff (.cmp .gt (.s 1) (.e (.bin .pow (.e (.c (.int 10))) (.e (.c (.int 7)))))) (.cons (.ret (.bin .mod (.e (.bin .add (.e (.call 3 (.io 0 (.v (.bin .pow (.e (.c (.int 10))) (.e (.c (.int 7)))) .nil)))) (.e (.bin .mul (.e (.bin .pow (.e (.c (.int 10))) (.e (.c (.int 7))))) (.e (.call 3 (.io 0 (.v (.bin .add (.e (.bin .fdiv (.e (.bin .sub (.s 1) (.e (.c (.int 1))))) (.e (.bin .pow (.e (.c (.int 10))) (.e (.c (.int 7))))))) (.e (.c (.int 1)))) .nil)))))))) (.s 1))) .nil) .nil
def s3_2 : S := .sub 0 (.c (.int 2)) (.bin .add (.e (.idx (.s 0) (.e (.c (.int 2))))) (.e (.c (.int 1))))
def s3_3 : S := .set 2 false (.bin .mod (.e (.bin .pow (.e (.bin .add (.e (.idx (.s 0) (.e (.c (.int 1))))) (.e (.bin .mul (.e (.c (.int 48271))) (.e (.idx (.s 0) (.e (.c (.int 2))))))))) (.e (.c (.int 5))))) (.e (.c (.int 2147483647))))
def s3_4 : S := .ret (.bin .mod (.e (.bin .fdiv (.e (.bin .mod (.e (.bin .add (.e (.bin .mul (.s 2) (.e (.bin .add (.e (.bin .mod (.e (.blt .int (.cons (.s 2) .nil))) (.e (.c (.int 30011))))) (.e (.c (.int 7))))))) (.e (.bin .mul (.e (.idx (.s 0) (.e (.c (.int 2))))) (.e (.c (.int 7919))))))) (.e (.c (.int 2147483629))))) (.e (.c (.int 64))))) (.s 1))
def b3 : Ss := (.cons s3_0 (.cons s3_1 (.cons s3_2 (.cons s3_3 (.cons s3_4 .nil)))))
/-- _law_take: 0 _law_box_here, 1 _law_below, 2 _law_once, 3 _law_found -/
def f3 : FnD := ⟨PySem.Str.ofString "_law_take", [PySem.Str.ofString "_law_box_here", PySem.Str.ofString "_law_below"], [PySem.Str.ofString "_law_box_here", PySem.Str.ofString "_law_below", PySem.Str.ofString "_law_once", PySem.Str.ofString "_law_found"], [true, false], b3⟩
def s4_0 : S := .ret (.idx (.s 1) (.e (.call 3 (.io 0 (.v (.blt .len (.cons (.s 1) .nil)) .nil)))))
def b4 : Ss := (.cons s4_0 .nil)
/-- _law_pick: 0 _law_box_here, 1 _law_some -/
def f4 : FnD := ⟨PySem.Str.ofString "_law_pick", [PySem.Str.ofString "_law_box_here", PySem.Str.ofString "_law_some"], [PySem.Str.ofString "_law_box_here", PySem.Str.ofString "_law_some"], [true, false], b4⟩
def y5_0 : E := (.call 5 (.v (.nm 2) (.v (.nm 3) .nil)))
def x5_0 : E := (.lc [(PySem.Str.ofString "_law_mine", 2), (PySem.Str.ofString "_law_its", 3)] (.tup (.cons (.nm 2) (.cons (.nm 3) .nil))) (.zip (.e (.nm 0)) (.e (.nm 1))) .none y5_0)
def s5_0 : S := .iff (.isi (.s 1) [.list, .tuple] true) (.cons (.iff (.bop false (.cons (.cmp .ne (.e (.isi (.s 0) [.list] false)) (.e (.isi (.s 1) [.list] false))) (.cons (.cmp .ne (.e (.isi (.s 0) [.tuple] false)) (.e (.isi (.s 1) [.tuple] false))) .nil))) (.cons (.ret (.c (.bl false))) .nil) .nil) (.cons (.ret (.bop true (.cons (.cmp .eq (.e (.blt .len (.cons (.s 0) .nil))) (.e (.blt .len (.cons (.s 1) .nil)))) (.cons (.blt .all (.cons (.e x5_0) .nil)) .nil)))) .nil)) .nil
def s5_1 : S := .iff (.bop false (.cons (.isN (.s 1)) (.cons (.isi (.s 1) [.bool, .str] true) .nil))) (.cons (.ret (.bop true (.cons (.cmp .eq (.s 0) (.s 1)) (.cons (.cmp .eq (.e (.isi (.s 0) [.bool] false)) (.e (.isi (.s 1) [.bool] false))) (.cons (.cmp .eq (.e (.isN (.s 0))) (.e (.isN (.s 1)))) .nil))))) .nil) .nil
def s5_2 : S := .ret (.bop true (.cons (.isi (.s 0) [.int] false) (.cons (.not (.isi (.s 0) [.bool] false)) (.cons (.cmp .eq (.s 0) (.s 1)) .nil))))
def b5 : Ss := (.cons s5_0 (.cons s5_1 (.cons s5_2 .nil)))
/-- _law_same: 0 _law_found, 1 _law_due, 2 _law_mine, 3 _law_its -/
def f5 : FnD := ⟨PySem.Str.ofString "_law_same", [PySem.Str.ofString "_law_found", PySem.Str.ofString "_law_due"], [PySem.Str.ofString "_law_found", PySem.Str.ofString "_law_due", PySem.Str.ofString "_law_mine", PySem.Str.ofString "_law_its"], [false, false], b5⟩
def y6_0 : E := (.call 6 (.v (.nm 1) .nil))
def x6_0 : E := (.lc [(PySem.Str.ofString "_law_its", 1)] (.nm 1) (.lst (.e (.nm 0))) .none y6_0)
def s6_0 : S := .ret (.ite (.isi (.s 0) [.list, .tuple] true) x6_0 (.nm 0))
def b6 : Ss := (.cons s6_0 .nil)
/-- _law_lists: 0 _law_part, 1 _law_its -/
def f6 : FnD := ⟨PySem.Str.ofString "_law_lists", [PySem.Str.ofString "_law_part"], [PySem.Str.ofString "_law_part", PySem.Str.ofString "_law_its"], [false], b6⟩
def y7_0 : E := (.call 4 (.io 0 (.v (.lst (.cons (.c (.int 0)) (.cons (.c (.int 1)) (.cons (.c (.int 7)) (.cons (.bin .pow (.e (.c (.int 10))) (.e (.c (.int 12)))) (.cons (.call 3 (.io 0 (.v (.c (.int 100)) .nil))) .nil)))))) .nil)))
def x7_0 : E := (.lc [(PySem.Str.ofString "_law_at", 1)] (.nm 1) (.rng1 (.e (.call 3 (.io 0 (.v (.c (.int 9)) .nil))))) .none y7_0)
def s7_0 : S := .ret (.blt .tuple (.cons (.e x7_0) .nil))
def b7 : Ss := (.cons s7_0 .nil)
/-- _law_numbers: 0 _law_box_here, 1 _law_at -/
def f7 : FnD := ⟨PySem.Str.ofString "_law_numbers", [PySem.Str.ofString "_law_box_here"], [PySem.Str.ofString "_law_box_here", PySem.Str.ofString "_law_at"], [true], b7⟩
def s8_0 : S := .set 1 true (.bin .mul (.e (.lst (.cons (.tup .nil) .nil))) (.e (.c (.int 64))))
def q8_0 : Ss := (.cons (.sub 1 (.call 4 (.io 0 (.v (.lst (.cons (.c (.int 0)) (.cons (.c (.int 1)) (.cons (.c (.int 2)) (.cons (.c (.int 63)) .nil))))) .nil))) (.call 7 (.io 0 .nil))) .nil)
def s8_1 : S := .for_ (.nm 2) (.rng1 (.e (.call 3 (.io 0 (.v (.c (.int 6)) .nil))))) q8_0
def s8_2 : S := .set 3 true (.lst .nil)
def q8_1 : Ss := (.cons (.set 7 false (.tup (.cons (.c (.str (PySem.Str.ofString "write"))) (.cons (.call 4 (.io 0 (.v (.lst (.cons (.c (.int 0)) (.cons (.c (.int 1)) (.cons (.c (.int 2)) (.cons (.c (.int 5)) (.cons (.c (.int 63)) .nil)))))) .nil))) (.cons (.call 7 (.io 0 .nil)) .nil))))) (.cons (.app 3 (.ite (.cmp .eq (.e (.call 3 (.io 0 (.v (.c (.int 4)) .nil)))) (.e (.c (.int 0)))) (.tup (.cons (.c (.str (PySem.Str.ofString "barrier"))) .nil)) (.nm 7))) .nil))
def s8_3 : S := .for_ (.nm 2) (.rng1 (.e (.call 3 (.io 0 (.v (.c (.int 13)) .nil))))) q8_1
def y8_0 : E := (.nm 11)
def z8_0 : Eo := (.some (.cmp .eq (.s 7) (.e (.tup (.cons (.c (.str (PySem.Str.ofString "barrier"))) .nil)))))
def x8_0 : E := (.lc [(PySem.Str.ofString "_law_at", 11), (PySem.Str.ofString "_law_made", 7)] (.tup (.cons (.nm 11) (.cons (.nm 7) .nil))) (.enum (.e (.nm 3))) z8_0 y8_0)
def s8_4 : S := .set 4 false (.blt .max1 (.cons (.e (.bin .add (.e x8_0) (.e (.lst (.cons (.neg (.e (.c (.int 1)))) .nil))))) .nil))
def y8_1 : E := (.nm 11)
def z8_1 : Eo := (.some (.cmp .eq (.e (.call 3 (.io 0 (.v (.c (.int 2)) .nil)))) (.e (.c (.int 0)))))
def x8_1 : E := (.lc [(PySem.Str.ofString "_law_at", 11)] (.nm 11) (.rng2 (.e (.bin .add (.s 4) (.e (.c (.int 1))))) (.e (.blt .len (.cons (.s 3) .nil)))) z8_1 y8_1)
def s8_5 : S := .setLc 5 false x8_1
def q8_2 : Ss := (.cons (.iff (.bop true (.cons (.cmp .ne (.s 7) (.e (.tup (.cons (.c (.str (PySem.Str.ofString "barrier"))) .nil)))) (.cons (.bop false (.cons (.cmp .lt (.s 11) (.s 4)) (.cons (.cmp .isin (.s 11) (.s 6)) .nil))) .nil))) (.cons (.sub 8 (.idx (.s 7) (.e (.c (.int 1)))) (.idx (.s 7) (.e (.c (.int 2))))) .nil) .nil) .nil)
def q8_3 : Ss := (.cons (.par3 8 9 10 true false false (.blt .list (.cons (.s 1) .nil)) (.blt .tuple (.cons (.s 1) .nil)) (.blt .tuple (.cons (.s 3) .nil))) (.cons (.for_ (.tup (.cons (.nm 11) (.cons (.nm 7) .nil))) (.enum (.e (.nm 3))) q8_2) (.cons (.set 12 false (.lst (.cons (.call 1 (.v (.nm 9) (.v (.nm 3) (.v (.nm 6) .nil)))) (.cons (.call 1 (.v (.call 6 (.v (.nm 9) .nil)) (.v (.call 6 (.v (.nm 10) .nil)) (.v (.blt .tuple (.cons (.s 6) .nil)) .nil)))) .nil)))) (.cons (.iff (.bop false (.cons (.not (.call 5 (.v (.nm 12) (.v (.bin .mul (.e (.lst (.cons (.blt .tuple (.cons (.s 8) .nil)) .nil))) (.e (.c (.int 2)))) .nil)))) (.cons (.cmp .ne (.e (.blt .tuple (.cons (.s 3) .nil))) (.s 10)) .nil))) (.cons (.ret (.c (.bl false))) .nil) .nil) .nil))))
def s8_6 : S := .for_ (.nm 6) (.lst (.e (.tup (.cons (.lst .nil) (.cons (.nm 5) (.cons (.lrng true (.e (.bin .add (.s 4) (.e (.c (.int 1))))) (.e (.blt .len (.cons (.s 3) .nil)))) .nil)))))) q8_3
def s8_7 : S := .ret (.call 5 (.v (.lst (.cons (.gl 2) (.cons (.call 1 (.v (.gl 2) (.v (.lst .nil) (.v (.lst .nil) .nil)))) (.cons (.call 1 (.v (.gl 2) (.v (.lst (.cons (.tup (.cons (.c (.str (PySem.Str.ofString "barrier"))) .nil)) .nil)) (.v (.lst .nil) .nil)))) .nil)))) (.v (.bin .mul (.e (.lst (.cons (.bin .mul (.e (.tup (.cons (.tup .nil) .nil))) (.e (.c (.int 64)))) .nil))) (.e (.c (.int 3)))) .nil)))
def b8 : Ss := (.cons s8_0 (.cons s8_1 (.cons s8_2 (.cons s8_3 (.cons s8_4 (.cons s8_5 (.cons s8_6 (.cons s8_7 .nil))))))))
/-- _law_right: 0 _law_box_here, 1 _law_disk, 2 _law_turn, 3 _law_row, 4 _law_last, 5 _law_some, 6 _law_kept, 7 _law_made, 8 _law_due, 9 _law_begun, 10 _law_rows, 11 _law_at, 12 _law_told -/
def f8 : FnD := ⟨PySem.Str.ofString "_law_right", [PySem.Str.ofString "_law_box_here"], [PySem.Str.ofString "_law_box_here", PySem.Str.ofString "_law_disk", PySem.Str.ofString "_law_turn", PySem.Str.ofString "_law_row", PySem.Str.ofString "_law_last", PySem.Str.ofString "_law_some", PySem.Str.ofString "_law_kept", PySem.Str.ofString "_law_made", PySem.Str.ofString "_law_due", PySem.Str.ofString "_law_begun", PySem.Str.ofString "_law_rows", PySem.Str.ofString "_law_at", PySem.Str.ofString "_law_told"], [true], b8⟩
def y9_0 : E := (.call 8 (.t (.call 2 (.v (.nm 0) (.v (.nm 1) .nil)))))
def x9_0 : E := (.lc [(PySem.Str.ofString "_law_k", 1)] (.nm 1) (.rng1 (.e (.bin .add (.e (.c (.int 1))) (.e (.blt .min2 (.cons (.e (.c (.int 4))) (.cons (.e (.blt .len (.cons (.s 0) .nil))) .nil))))))) .none y9_0)
def s9_0 : S := .ret (.blt .all (.cons (.e x9_0) .nil))
def b9 : Ss := (.cons s9_0 .nil)
/-- law: 0 _law_script, 1 _law_k -/
def f9 : FnD := ⟨PySem.Str.ofString "law", [PySem.Str.ofString "_law_script"], [PySem.Str.ofString "_law_script", PySem.Str.ofString "_law_k"], [false], b9⟩
def fns : List FnD := [f0, f1, f2, f3, f4, f5, f6, f7, f8, f9]
def gls : List (Str × D) := [(PySem.Str.ofString "PLACES", (.int 64)), (PySem.Str.ofString "BARRIER", (.str (PySem.Str.ofString "barrier"))), (PySem.Str.ofString "BARE_DISK", (.tup (List.replicate 64 (.tup []))))]
def gv : Nat → D := fun j => (gls.map (·.2)).getD j .non
end K52
set_option Elab.async false
set_option linter.all false
set_option maxRecDepth 100000
set_option maxHeartbeats 0
namespace K52
open PySem PySem.Spec PyProof.Rows L2 IL
def top (i : Nat) : Stmt := PySem.Challenge.pw_neededfirst_k52_disks_found_at_a_stop.main.body.getD i (.Pass ⟨0, 0, 0, 0⟩)
abbrev t0 : Stmt := top 4
def d0 : He.DefD := ⟨(PySem.Str.ofString "barrier_of", none), PySem.Str.ofString "barrier_of", PySem.Str.ofString "barrier_of", defArgs t0, defBody t0, defScope t0, [], []⟩
abbrev t1 : Stmt := top 5
def d1 : He.DefD := ⟨(PySem.Str.ofString "stop", none), PySem.Str.ofString "stop", PySem.Str.ofString "stop", defArgs t1, defBody t1, defScope t1, [], []⟩
abbrev t2 : Stmt := top 7
def d2 : He.DefD := ⟨(PySem.Str.ofString "_law_box", none), PySem.Str.ofString "_law_box", PySem.Str.ofString "_law_box", defArgs t2, defBody t2, defScope t2, [], []⟩
abbrev t3 : Stmt := top 8
def d3 : He.DefD := ⟨(PySem.Str.ofString "_law_take", none), PySem.Str.ofString "_law_take", PySem.Str.ofString "_law_take", defArgs t3, defBody t3, defScope t3, [], []⟩
abbrev t4 : Stmt := top 9
def d4 : He.DefD := ⟨(PySem.Str.ofString "_law_pick", none), PySem.Str.ofString "_law_pick", PySem.Str.ofString "_law_pick", defArgs t4, defBody t4, defScope t4, [], []⟩
abbrev t5 : Stmt := top 10
def d5 : He.DefD := ⟨(PySem.Str.ofString "_law_same", none), PySem.Str.ofString "_law_same", PySem.Str.ofString "_law_same", defArgs t5, defBody t5, defScope t5, [], []⟩
abbrev t6 : Stmt := top 11
def d6 : He.DefD := ⟨(PySem.Str.ofString "_law_lists", none), PySem.Str.ofString "_law_lists", PySem.Str.ofString "_law_lists", defArgs t6, defBody t6, defScope t6, [], []⟩
abbrev t7 : Stmt := top 12
def d7 : He.DefD := ⟨(PySem.Str.ofString "_law_numbers", none), PySem.Str.ofString "_law_numbers", PySem.Str.ofString "_law_numbers", defArgs t7, defBody t7, defScope t7, [], []⟩
abbrev t8 : Stmt := top 13
def d8 : He.DefD := ⟨(PySem.Str.ofString "_law_right", none), PySem.Str.ofString "_law_right", PySem.Str.ofString "_law_right", defArgs t8, defBody t8, defScope t8, [], []⟩
abbrev t9 : Stmt := top 14
def d9 : He.DefD := ⟨(PySem.Str.ofString "law", none), PySem.Str.ofString "law", PySem.Str.ofString "law", defArgs t9, defBody t9, defScope t9, [], []⟩
def dn : List He.DefD := [d0, d1, d2, d3, d4, d5, d6, d7, d8, d9]
def dnm : List Str := [PySem.Str.ofString "barrier_of", PySem.Str.ofString "stop", PySem.Str.ofString "_law_box", PySem.Str.ofString "_law_take", PySem.Str.ofString "_law_pick", PySem.Str.ofString "_law_same", PySem.Str.ofString "_law_lists", PySem.Str.ofString "_law_numbers", PySem.Str.ofString "_law_right", PySem.Str.ofString "law"]
def exK : PySem.W.Frag → Bool := exI dnm gls
abbrev R : PySem.W.OpenRow := PySem.W.OpenLaw.row PySem.Challenge.rw_neededfirst_k52_disks_found_at_a_stop
abbrev hk : PySem.W.Hook := hookI 4 exK dn
def ob (s : PySem.W.SharedT) : He.AlD := obsIG 4 exK dn (HandSHeadRun.getT s)
theorem ob_eq (s : PySem.W.SharedT) : ob s = hk.obs s.abs := obsIG_eq (HandSHeadRun.getT_eq s)
def nm0 : List PySem.Str := [PySem.Str.ofString "barrier_of", PySem.Str.ofString "stop", PySem.Str.ofString "_law_box", PySem.Str.ofString "_law_take", PySem.Str.ofString "_law_pick", PySem.Str.ofString "_law_same", PySem.Str.ofString "_law_lists", PySem.Str.ofString "_law_numbers", PySem.Str.ofString "_law_right", PySem.Str.ofString "PLACES", PySem.Str.ofString "BARRIER", PySem.Str.ofString "BARE_DISK"]
def names : List PySem.Str := nm0
theorem run0 (w : World) : HandSHeadRun.RunEq R (PySem.W.view R.prog [14]) hk ob 400 names (w.withFollow "special-get-raises" false) := by
  intro os
  kernel_rfl
theorem run1 (w : World) : HandSHeadRun.RunEq R (PySem.W.view R.prog [14]) hk ob 400 names (w.withFollow "special-get-raises" true) := by
  intro os
  kernel_rfl
theorem run (w : World) : HandSHeadRun.RunEq R (PySem.W.view R.prog [14]) hk ob 400 names w :=
  PySem.W.byRow2 "special-get-raises" (P := fun w => HandSHeadRun.RunEq R (PySem.W.view R.prog [14]) hk ob 400 names w) run0 run1 w
theorem k0 : chkSs ⟨f0.N, gls.map (·.1), fns.map (·.name)⟩ (defScope t0) f0.body (defBody t0) = true := by decide +kernel
theorem c0 : FnScope f0.N f0.ps (defScope t0) := C8.fnScope_by (by decide +kernel)
theorem k1 : chkSs ⟨f1.N, gls.map (·.1), fns.map (·.name)⟩ (defScope t1) f1.body (defBody t1) = true := by decide +kernel
theorem c1 : FnScope f1.N f1.ps (defScope t1) := C8.fnScope_by (by decide +kernel)
theorem k2 : chkSs ⟨f2.N, gls.map (·.1), fns.map (·.name)⟩ (defScope t2) f2.body (defBody t2) = true := by decide +kernel
theorem c2 : FnScope f2.N f2.ps (defScope t2) := C8.fnScope_by (by decide +kernel)
theorem k3 : chkSs ⟨f3.N, gls.map (·.1), fns.map (·.name)⟩ (defScope t3) f3.body (defBody t3) = true := by decide +kernel
theorem c3 : FnScope f3.N f3.ps (defScope t3) := C8.fnScope_by (by decide +kernel)
theorem k4 : chkSs ⟨f4.N, gls.map (·.1), fns.map (·.name)⟩ (defScope t4) f4.body (defBody t4) = true := by decide +kernel
theorem c4 : FnScope f4.N f4.ps (defScope t4) := C8.fnScope_by (by decide +kernel)
theorem k5 : chkSs ⟨f5.N, gls.map (·.1), fns.map (·.name)⟩ (defScope t5) f5.body (defBody t5) = true := by decide +kernel
theorem c5 : FnScope f5.N f5.ps (defScope t5) := C8.fnScope_by (by decide +kernel)
theorem k6 : chkSs ⟨f6.N, gls.map (·.1), fns.map (·.name)⟩ (defScope t6) f6.body (defBody t6) = true := by decide +kernel
theorem c6 : FnScope f6.N f6.ps (defScope t6) := C8.fnScope_by (by decide +kernel)
theorem k7 : chkSs ⟨f7.N, gls.map (·.1), fns.map (·.name)⟩ (defScope t7) f7.body (defBody t7) = true := by decide +kernel
theorem c7 : FnScope f7.N f7.ps (defScope t7) := C8.fnScope_by (by decide +kernel)
theorem k8 : chkSs ⟨f8.N, gls.map (·.1), fns.map (·.name)⟩ (defScope t8) f8.body (defBody t8) = true := by decide +kernel
theorem c8 : FnScope f8.N f8.ps (defScope t8) := C8.fnScope_by (by decide +kernel)
theorem k9 : chkSs ⟨f9.N, gls.map (·.1), fns.map (·.name)⟩ (defScope t9) f9.body (defBody t9) = true := by decide +kernel
theorem c9 : FnScope f9.N f9.ps (defScope t9) := C8.fnScope_by (by decide +kernel)
section
variable {K : PySem.W.Frag} {h : Heap} {mg : Str → Option Value}
theorem g0 (X : K.In h) (G : h.Ns mainGlobals mg) (c : SaysI exK dn K) : FnI K mg (gls.map (·.1)) (fns.map (·.name)) f0 := by
  obtain ⟨fd, F⟩ := c.def_ 0 (d := d0) rfl
  have b : Binds K fd f0.ps [] := FunD.bindsN (ps := f0.ps) F fun _ _ _ _ _ _ us hl => match us, hl with | [_], _ => rfl
  exact ⟨_, fd, _, _, _, ex_glo X G c.look (x := PySem.Str.ofString "barrier_of") (by decide +kernel), b, F, c0, k0⟩
theorem g1 (X : K.In h) (G : h.Ns mainGlobals mg) (c : SaysI exK dn K) : FnI K mg (gls.map (·.1)) (fns.map (·.name)) f1 := by
  obtain ⟨fd, F⟩ := c.def_ 1 (d := d1) rfl
  have b : Binds K fd f1.ps [] := FunD.bindsN (ps := f1.ps) F fun _ _ _ _ _ _ us hl => match us, hl with | [_, _, _], _ => rfl
  exact ⟨_, fd, _, _, _, ex_glo X G c.look (x := PySem.Str.ofString "stop") (by decide +kernel), b, F, c1, k1⟩
theorem g2 (X : K.In h) (G : h.Ns mainGlobals mg) (c : SaysI exK dn K) : FnI K mg (gls.map (·.1)) (fns.map (·.name)) f2 := by
  obtain ⟨fd, F⟩ := c.def_ 2 (d := d2) rfl
  have b : Binds K fd f2.ps [] := FunD.bindsN (ps := f2.ps) F fun _ _ _ _ _ _ us hl => match us, hl with | [_, _], _ => rfl
  exact ⟨_, fd, _, _, _, ex_glo X G c.look (x := PySem.Str.ofString "_law_box") (by decide +kernel), b, F, c2, k2⟩
theorem g3 (X : K.In h) (G : h.Ns mainGlobals mg) (c : SaysI exK dn K) : FnI K mg (gls.map (·.1)) (fns.map (·.name)) f3 := by
  obtain ⟨fd, F⟩ := c.def_ 3 (d := d3) rfl
  have b : Binds K fd f3.ps [] := FunD.bindsN (ps := f3.ps) F fun _ _ _ _ _ _ us hl => match us, hl with | [_, _], _ => rfl
  exact ⟨_, fd, _, _, _, ex_glo X G c.look (x := PySem.Str.ofString "_law_take") (by decide +kernel), b, F, c3, k3⟩
theorem g4 (X : K.In h) (G : h.Ns mainGlobals mg) (c : SaysI exK dn K) : FnI K mg (gls.map (·.1)) (fns.map (·.name)) f4 := by
  obtain ⟨fd, F⟩ := c.def_ 4 (d := d4) rfl
  have b : Binds K fd f4.ps [] := FunD.bindsN (ps := f4.ps) F fun _ _ _ _ _ _ us hl => match us, hl with | [_, _], _ => rfl
  exact ⟨_, fd, _, _, _, ex_glo X G c.look (x := PySem.Str.ofString "_law_pick") (by decide +kernel), b, F, c4, k4⟩
theorem g5 (X : K.In h) (G : h.Ns mainGlobals mg) (c : SaysI exK dn K) : FnI K mg (gls.map (·.1)) (fns.map (·.name)) f5 := by
  obtain ⟨fd, F⟩ := c.def_ 5 (d := d5) rfl
  have b : Binds K fd f5.ps [] := FunD.bindsN (ps := f5.ps) F fun _ _ _ _ _ _ us hl => match us, hl with | [_, _], _ => rfl
  exact ⟨_, fd, _, _, _, ex_glo X G c.look (x := PySem.Str.ofString "_law_same") (by decide +kernel), b, F, c5, k5⟩
theorem g6 (X : K.In h) (G : h.Ns mainGlobals mg) (c : SaysI exK dn K) : FnI K mg (gls.map (·.1)) (fns.map (·.name)) f6 := by
  obtain ⟨fd, F⟩ := c.def_ 6 (d := d6) rfl
  have b : Binds K fd f6.ps [] := FunD.bindsN (ps := f6.ps) F fun _ _ _ _ _ _ us hl => match us, hl with | [_], _ => rfl
  exact ⟨_, fd, _, _, _, ex_glo X G c.look (x := PySem.Str.ofString "_law_lists") (by decide +kernel), b, F, c6, k6⟩
theorem g7 (X : K.In h) (G : h.Ns mainGlobals mg) (c : SaysI exK dn K) : FnI K mg (gls.map (·.1)) (fns.map (·.name)) f7 := by
  obtain ⟨fd, F⟩ := c.def_ 7 (d := d7) rfl
  have b : Binds K fd f7.ps [] := FunD.bindsN (ps := f7.ps) F fun _ _ _ _ _ _ us hl => match us, hl with | [_], _ => rfl
  exact ⟨_, fd, _, _, _, ex_glo X G c.look (x := PySem.Str.ofString "_law_numbers") (by decide +kernel), b, F, c7, k7⟩
theorem g8 (X : K.In h) (G : h.Ns mainGlobals mg) (c : SaysI exK dn K) : FnI K mg (gls.map (·.1)) (fns.map (·.name)) f8 := by
  obtain ⟨fd, F⟩ := c.def_ 8 (d := d8) rfl
  have b : Binds K fd f8.ps [] := FunD.bindsN (ps := f8.ps) F fun _ _ _ _ _ _ us hl => match us, hl with | [_], _ => rfl
  exact ⟨_, fd, _, _, _, ex_glo X G c.look (x := PySem.Str.ofString "_law_right") (by decide +kernel), b, F, c8, k8⟩
theorem g9 (X : K.In h) (G : h.Ns mainGlobals mg) (c : SaysI exK dn K) : FnI K mg (gls.map (·.1)) (fns.map (·.name)) f9 := by
  obtain ⟨fd, F⟩ := c.def_ 9 (d := d9) rfl
  have b : Binds K fd f9.ps [] := FunD.bindsN (ps := f9.ps) F fun _ _ _ _ _ _ us hl => match us, hl with | [_], _ => rfl
  exact ⟨_, fd, _, _, _, ex_glo X G c.look (x := PySem.Str.ofString "law") (by decide +kernel), b, F, c9, k9⟩
theorem stat (X : K.In h) (G : h.Ns mainGlobals mg) (c : SaysI exK dn K) : Stat K mg (gls.map (·.1)) gv fns := stat_of X G c.look (List.forall_mem_cons.mpr ⟨g0 X G c, (List.forall_mem_cons.mpr ⟨g1 X G c, (List.forall_mem_cons.mpr ⟨g2 X G c, (List.forall_mem_cons.mpr ⟨g3 X G c, (List.forall_mem_cons.mpr ⟨g4 X G c, (List.forall_mem_cons.mpr ⟨g5 X G c, (List.forall_mem_cons.mpr ⟨g6 X G c, (List.forall_mem_cons.mpr ⟨g7 X G c, (List.forall_mem_cons.mpr ⟨g8 X G c, (List.forall_mem_cons.mpr ⟨g9 X G c, (fun _ z => nomatch z)⟩)⟩)⟩)⟩)⟩)⟩)⟩)⟩)⟩)⟩)
end
/-- THE END: given what the law comes to -/
theorem law_end {lv : Nat} {fu : Nat} (hr : Room (lv + 1) callerA) (hm : ∀ ns : List Int, ns.length ≤ 63 → callF gv fns fu (lv + 1) 9 [.val (.scr ns)] = some (.val (.bl true), [])) {P : Program} {w : World} {K : PySem.W.Frag} {h : Heap} {mg : Str → Option Value} {fa : Addr} (X : K.In h) (G : h.Ns mainGlobals mg) (c : SaysI exK dn K) (hmg : mg (PySem.Str.ofString "law") = some (.ref fa)) :
    ∃ (fd : FuncData) (sp : Sp), (∀ (s : Shared) (u : Value), BindsTo s fd ⟨[u], []⟩ [(PySem.Str.ofString "_law_script", u)]) ∧
      (∀ (H : Hp) (a : Addr) (ns : List Int), ns.length ≤ 63 → SqL K H a (ns.map V.int) → sp [.ref a] H (fun v _ => v = .bl true) fun _ _ _ => False) ∧ ∀ base : Heap, FnOk P w K mg base C8.CX0 (lv + 1) fa fd [PySem.Str.ofString "_law_script"] sp := by
  obtain ⟨fd, F⟩ := c.def_ 9 (d := d9) rfl
  have e := hmg.symm.trans (ex_glo X G c.look (x := PySem.Str.ofString "law") (by decide +kernel))
  cases e
  have b := FunD.bindsA (ps := f9.ps) F fun _ _ _ _ _ _ us hl => match us, hl with | [_], _ => rfl
  exact ⟨fd, spF K gv fns fu (lv + 1) 9 f9, fun s u => b s [u] rfl, fun H a ns hl hS => sp_law (x := PySem.Str.ofString "_law_script") rfl (hm ns hl) hS,
    fun base => fn_step (facts_all (stat X G c) lv) rfl F c9 k9⟩
end K52
set_option Elab.async false
set_option linter.all false
set_option maxRecDepth 100000
set_option maxHeartbeats 4000000
namespace K52
open PySem PySem.Spec PyProof.Rows L2 IL
/-- the box: what is left of the first number, the seed, the count of draws -/
def Bx (B : Int) (ds : List D) : Prop := ∃ a b c : Int, ds = [.int a, .int b, .int c] ∧ 0 ≤ a ∧ 0 ≤ b ∧ b < 2 ^ 40 ∧ 0 ≤ c ∧ c ≤ B
theorem Bx.mono {B B' : Int} {ds : List D} (h : Bx B ds) (l : B ≤ B') : Bx B' ds := by
  obtain ⟨a, b, c, e, h1, h2, h3, h4, h5⟩ := h
  exact ⟨a, b, c, e, h1, h2, h3, h4, Int.le_trans h5 l⟩
variable {fu : Nat}
theorem take_spec (n : Nat) {B : Int} {ds : List D} (h : Bx B ds) (hB : B < 2 ^ 30) {k : Int} (h1 : 1 ≤ k) (h2 : k ≤ 10000000) : ∃ r ds', callF gv fns fu (n + 1) 3 [.lst ds, .val (.int k)] = some (.val (.int r), [.lst ds']) ∧ 0 ≤ r ∧ r < k ∧ Bx (B + 1) ds' := by
  obtain ⟨a, b, c, rfl, p1, p2, p3, p4, p5⟩ := h
  by_cases ha : 0 < a
  · refine ⟨a % k, [.int (a / k), .int b, .int c], ?_, Int.emod_nonneg _ (by omega), Int.emod_lt_of_pos _ (by omega), a / k, b, c, rfl, Int.ediv_nonneg p1 (by omega), p2, p3, p4, by omega⟩
    have hk : (0 : Int) < k := by omega
    have hk2 : k < 1073741824 := by omega
    rw [call_succ (fd := f3) rfl]
    simp [runF, f3, b3, s3_0, ownedAs, M.owned, startE, pins, evSs, evS, evE, evO, evOs, ovD, ovDs, idxF, ixN, cmpF, binF, bltF, fzR, stow, finals, ha, hk, hk2]
  · have hn : ¬ (10000000 : Int) < k := by omega
    have hp : (b + 48271 * (c + 1)).natAbs < 18446744073709551616 := by omega
    obtain ⟨q, hq⟩ : ∃ q, q = (b + 48271 * (c + 1)) ^ 5 % 2147483647 := ⟨_, rfl⟩
    have q1 : 0 ≤ q := by rw [hq]; exact Int.emod_nonneg _ (by decide)
    have q2 : q < 2147483647 := by rw [hq]; exact Int.emod_lt_of_pos _ (by decide)
    have hk : (0 : Int) < k := by omega
    refine ⟨(q * (q % 30011 + 7) + (c + 1) * 7919) % 2147483629 / 64 % k, [.int a, .int b, .int (c + 1)], ?_, Int.emod_nonneg _ (by omega), Int.emod_lt_of_pos _ (by omega), a, b, c + 1, rfl, p1, p2, p3, by omega, by omega⟩
    have m1 : -18446744073709551616 < q := by omega
    have m2 : q < 18446744073709551616 := by omega
    rw [call_succ (fd := f3) rfl]
    simp [runF, f3, b3, s3_0, s3_1, s3_2, s3_3, s3_4, ownedAs, M.owned, startE, pins, evSs, evS, evE, evO, evOs, ovD, ovDs, idxF, ixN, cmpF, binF, bltF, fzR, stow, finals, ha, hk, hn, hp, ← hq, m1, m2]
theorem pick_spec (n : Nat) {B : Int} {ds : List D} (h : Bx B ds) (hB : B < 2 ^ 30) (xs : List D) (h1 : xs ≠ []) (h2 : xs.length ≤ 1000) : ∃ x ds', callF gv fns fu (n + 2) 4 [.lst ds, .val (.lst xs)] = some (.val x, [.lst ds']) ∧ x ∈ xs ∧ Bx (B + 1) ds' := by
  have hl : 1 ≤ xs.length := by
    cases xs with
    | nil => exact absurd rfl h1
    | cons x r => simp
  obtain ⟨r, ds', e, r1, r2, bx⟩ := take_spec (fu := fu) n h hB (k := (xs.length : Int)) (by omega) (by omega)
  obtain ⟨i, rfl⟩ := Int.eq_ofNat_of_zero_le r1
  have hi : i < xs.length := by omega
  refine ⟨xs[i], ds', ?_, List.getElem_mem hi, bx⟩
  have hi2 : ixN xs.length (i : Int) = some i := by
    unfold ixN
    simp [hi]
  rw [call_succ (fd := f4) rfl]
  simp [runF, f4, b4, s4_0, ownedAs, M.owned, startE, pins, evSs, evS, evE, evO, evOs, evAs, takeA, giveA, ovD, ovDs, idxF, bltF, fzR, stow, finals, e, hi2, hi]
theorem numbers_spec (n : Nat) {B : Int} {ds : List D} (h : Bx B ds) (hB : B + 20 < 2 ^ 30) : ∃ (xs : List Int) (ds' : List D), callF gv fns fu (n + 3) 7 [.lst ds] = some (.val (.tup (xs.map D.int)), [.lst ds']) ∧ xs.length ≤ 9 ∧ Bx (B + 20) ds' := by
  obtain ⟨r, ds1, e, r1, r2, bx⟩ := take_spec (fu := fu) (n + 1) h (by omega) (k := 9) (by omega) (by omega)
  obtain ⟨i, rfl⟩ := Int.eq_ofNat_of_zero_le r1
  have hi : i < 9 := by omega
  obtain ⟨rs, e2, l1, xs, ds2, v, l2, l3, l4⟩ := lcLoop_inv (tg := .nm 1) (own := [1]) (test := evC gv (callF gv fns fu (n + 2)) .none) (elt := fun e => fzR (evE gv (callF gv fns fu (n + 2)) y7_0 e))
    (fun done acc env => ∃ (xs : List Int) (ds2 : List D) (v : Option M), acc = xs.map D.int ∧ xs.length = done.length ∧ env = [some (.lst ds2), v] ∧ Bx (B + 1 + 2 * (done.length : Int)) ds2) (rngD 0 (i : Int)) [] [] [some (.lst ds1), none] (by
      rintro d1 x rest acc env hsp ⟨xs, ds2, v, rfl, hxl, rfl, b2⟩
      have hd : d1.length < i := by
        have := congrArg List.length hsp
        rw [List.nil_append, rngD, List.length_map, List.length_range, List.length_append, List.length_cons] at this
        omega
      refine ⟨[some (.lst ds2), some (.val x)], by simp [asg, wipeE], true, _, rfl, ?_⟩
      rw [if_pos rfl]
      obtain ⟨q, ds3, e3, q1, q2, b3⟩ := take_spec (fu := fu) (n + 1) b2 (by omega) (k := 100) (by omega) (by omega)
      obtain ⟨y, ds4, e4, y1, b4⟩ := pick_spec (fu := fu) n b3 (by omega) [.int 0, .int 1, .int 7, .int 1000000000000, .int q] (by simp) (by simp)
      obtain ⟨z, rfl⟩ : ∃ z, y = .int z := by
        simp at y1
        rcases y1 with h | h | h | h | h <;> exact ⟨_, h⟩
      refine ⟨.int z, [some (.lst ds4), some (.val x)], ?_, xs ++ [z], ds4, _, by simp, by simp [hxl], rfl, b4.mono (by simp; omega)⟩
      simp [y7_0, evE, evO, evAs, evEs, takeA, giveA, ovD, binF, fzR, M.owned, e3, e4, sizeLine]) ⟨[], ds1, none, rfl, rfl, rfl, by simpa using bx⟩
  rw [List.nil_append] at l2 l3 l4
  obtain ⟨l4, l5⟩ := l4
  subst l2 l4
  have hlen : (rngD 0 (i : Int)).length = i := by simp [rngD]
  rw [hlen] at l3 l5
  refine ⟨xs, ds2, ?_, by omega, l5.mono (by omega)⟩
  rw [call_succ (fd := f7) rfl]
  have i1 : (i : Int) < 4611686018427387904 := by omega
  have i2 : (-4611686018427387904 : Int) ≤ (i : Int) := by omega
  have i3 : i ≤ 1000000 := by omega
  have hx : evE gv (callF gv fns fu (n + 2)) x7_0 [some (.lst ds), none] = some (.lst (xs.map D.int), [some (.lst ds2), none]) := by
    rw [x7_0, lc_eval (by simp [evIt, evO, evE, evAs, takeA, giveA, ovD, fzR, M.owned, e, i1, i2]) l1 (by omega)]
    rfl
  simp [runF, f7, b7, s7_0, ownedAs, M.owned, startE, pins, evSs, evS, evE, evO, evOs, ovD, ovDs, bltF, fzR, stow, finals, hx]
theorem box_spec (n : Nat) {ns : List Int} {k : Int} (h1 : 0 ≤ k) (h2 : k ≤ 4) : ∃ ds, callF gv fns fu (n + 1) 2 [.val (.scr ns), .val (.int k)] = some (.lst ds, []) ∧ Bx 0 ds := by
  obtain ⟨i, rfl⟩ := Int.eq_ofNat_of_zero_le h1
  have fin : ∀ c : Int, ∃ ds, Bx 0 ds ∧ ∀ v, evSs gv (callF gv fns fu n) fu [] (.cons s2_1 .nil) [v, some (.val (.int i)), some (.val (.int c))] = some (.rt (.lst ds) [v, some (.val (.int i)), some (.val (.int c))]) := fun c => by
    obtain ⟨q, hq⟩ : ∃ q : Int, q = (if c < 0 then -c else c) := ⟨_, rfl⟩
    have hq0 : 0 ≤ q := by rw [hq]; split <;> omega
    have hc1 : 0 ≤ c % 2147483629 := Int.emod_nonneg _ (by decide)
    have hc2 : c % 2147483629 < 2147483629 := Int.emod_lt_of_pos _ (by decide)
    by_cases hb : (1000000000000000000 : Int) ≤ q
    · refine ⟨[.int q, .int (c % 2147483629 + 7919 * i + 75), .int 0], ⟨_, _, _, rfl, hq0, by omega, by omega, by decide, by decide⟩, fun v => ?_⟩
      simp [s2_1, evSs, evS, evE, evO, evOs, evEs, ovD, ovDs, fzR, bltF, binF, cmpF, sizeLine, ← hq, hb]
    · refine ⟨[.int 0, .int (c % 2147483629 + 7919 * i + 75), .int 0], ⟨_, _, _, rfl, by decide, by omega, by omega, by decide, by decide⟩, fun v => ?_⟩
      simp [s2_1, evSs, evS, evE, evO, evOs, evEs, ovD, ovDs, fzR, bltF, binF, cmpF, sizeLine, ← hq, hb]
  rw [call_succ (fd := f2) rfl]
  by_cases hi : i < ns.length
  · obtain ⟨ds, b, e⟩ := fin ns[i]
    have hx : ixN ns.length (i : Int) = some i := by unfold ixN; simp [hi]
    have e1 : evS gv (callF gv fns fu n) fu [] s2_0 [some (.val (.scr ns)), some (.val (.int i)), none] = some (.nx [some (.val (.scr ns)), some (.val (.int i)), some (.val (.int ns[i]))]) := by
      simp [s2_0, evS, evE, evO, evOs, ovD, ovDs, fzR, bltF, cmpF, idxF, stow, hi, hx]
    refine ⟨ds, ?_, b⟩
    have e2 : evSs gv (callF gv fns fu n) fu [] b2 [some (.val (.scr ns)), some (.val (.int i)), none] = some (.rt (.lst ds) [some (.val (.scr ns)), some (.val (.int i)), some (.val (.int ns[i]))]) := by
      rw [b2, ss_cons e1, e]
    simp [runF, f2, ownedAs, M.owned, startE, pins, e2, finals]
  · obtain ⟨ds, b, e⟩ := fin 0
    have e1 : evS gv (callF gv fns fu n) fu [] s2_0 [some (.val (.scr ns)), some (.val (.int i)), none] = some (.nx [some (.val (.scr ns)), some (.val (.int i)), some (.val (.int 0))]) := by
      simp [s2_0, evS, evE, evO, evOs, ovD, ovDs, fzR, bltF, cmpF, idxF, stow, hi]
    refine ⟨ds, ?_, b⟩
    have e2 : evSs gv (callF gv fns fu n) fu [] b2 [some (.val (.scr ns)), some (.val (.int i)), none] = some (.rt (.lst ds) [some (.val (.scr ns)), some (.val (.int i)), some (.val (.int 0))]) := by
      rw [b2, ss_cons e1, e]
    simp [runF, f2, ownedAs, M.owned, startE, pins, e2, finals]
theorem lists_int (n : Nat) (i : Int) : callF gv fns fu (n + 1) 6 [.val (.int i)] = some (.val (.int i), []) := by
  rw [call_succ (fd := f6) rfl]
  simp [runF, f6, b6, s6_0, ownedAs, M.owned, startE, pins, evSs, evS, evE, evO, fzR, ovD, isTyD, finals]
theorem lists_str (n : Nat) (i : Str) : callF gv fns fu (n + 1) 6 [.val (.str i)] = some (.val (.str i), []) := by
  rw [call_succ (fd := f6) rfl]
  simp [runF, f6, b6, s6_0, ownedAs, M.owned, startE, pins, evSs, evS, evE, evO, fzR, ovD, isTyD, finals]
theorem lists_tup (n : Nat) (g : D → D) (ds : List D) (hg : ∀ x ∈ ds, callF gv fns fu n 6 [.val x] = some (.val (g x), [])) (hl : ds.length ≤ 1000000) : callF gv fns fu (n + 1) 6 [.val (.tup ds)] = some (.val (.lst (ds.map g)), []) := by
  obtain ⟨rs, e2, l1, l2, v, l3⟩ := lcLoop_inv (tg := .nm 1) (own := [1]) (test := evC gv (callF gv fns fu n) .none) (elt := fun e => fzR (evE gv (callF gv fns fu n) y6_0 e))
    (fun done acc env => acc = done.map g ∧ ∃ v, env = [some (.val (.tup ds)), v]) ds [] [] [some (.val (.tup ds)), none] (by
      rintro d1 x rest acc env hsp ⟨rfl, v, rfl⟩
      refine ⟨[some (.val (.tup ds)), some (.val x)], by simp [asg, wipeE], true, _, rfl, ?_⟩
      rw [if_pos rfl]
      have hx := hg x (by rw [List.nil_append] at hsp; rw [hsp]; simp)
      refine ⟨g x, [some (.val (.tup ds)), some (.val x)], ?_, by simp, _, rfl⟩
      simp [y6_0, evE, evAs, takeA, giveA, fzR, hx]) ⟨rfl, none, rfl⟩
  rw [List.nil_append] at l2
  subst l2 l3
  rw [call_succ (fd := f6) rfl]
  have hx : evE gv (callF gv fns fu n) x6_0 [some (.val (.tup ds)), none] = some (.lst (ds.map g), [some (.val (.tup ds)), none]) := by
    rw [x6_0, lc_eval (by simp [evIt, evO, evE, fzR]) l1 hl]
    rfl
  simp [runF, f6, b6, s6_0, ownedAs, M.owned, startE, pins, evSs, evS, evE, evO, fzR, ovD, isTyD, finals, hx]
theorem same_int (n : Nat) (i : Int) : callF gv fns fu (n + 1) 5 [.val (.int i), .val (.int i)] = some (.val (.bl true), []) := by
  rw [call_succ (fd := f5) rfl]
  simp [runF, f5, b5, s5_0, s5_1, s5_2, ownedAs, M.owned, startE, pins, evSs, evS, evE, evO, evB, fzR, ovD, isTyD, finals, cmpF, eqD, toP, SeqAt.shaped, PyData.canLay0, PyData.depth, PyData.eqv]
theorem blsOf_true : ∀ l : List D, blsOf (l.map fun _ => D.bl true) = some (l.map fun _ => true)
  | [] => rfl
  | x :: r => by simp [blsOf, blsOf_true r]
theorem same_seq (n : Nat) (tp : Bool) (ds : List D) (hg : ∀ x ∈ ds, callF gv fns fu n 5 [.val x, .val x] = some (.val (.bl true), [])) (hl : ds.length ≤ 1000000) : callF gv fns fu (n + 1) 5 [.val (if tp = true then .tup ds else .lst ds), .val (if tp = true then .tup ds else .lst ds)] = some (.val (.bl true), []) := by
  obtain ⟨T, hT⟩ : ∃ T, T = (if tp = true then D.tup ds else D.lst ds) := ⟨_, rfl⟩
  obtain ⟨rs, e2, l1, l2, v, w, l3⟩ := lcLoop_inv (tg := .tup (.cons (.nm 2) (.cons (.nm 3) .nil))) (own := [2, 3]) (test := evC gv (callF gv fns fu n) .none) (elt := fun e => fzR (evE gv (callF gv fns fu n) y5_0 e))
    (fun done acc env => acc = done.map (fun _ => D.bl true) ∧ ∃ v w, env = [some (.val T), some (.val T), v, w]) ((ds.zip ds).map fun p => .tup [p.1, p.2]) [] [] [some (.val T), some (.val T), none, none] (by
      rintro d1 x rest acc env hsp ⟨rfl, v, w, rfl⟩
      have hx : x ∈ (ds.zip ds).map fun p => D.tup [p.1, p.2] := by rw [List.nil_append] at hsp; rw [hsp]; simp
      rw [List.mem_map] at hx
      obtain ⟨⟨p, q⟩, hp, rfl⟩ := hx
      have hpq : p = q ∧ p ∈ ds := by
        have : ∀ (l : List D), (p, q) ∈ l.zip l → p = q ∧ p ∈ l := by
          intro l
          induction l with
          | nil => intro h; simp at h
          | cons a r ih =>
            intro h
            rw [List.zip_cons_cons, List.mem_cons] at h
            rcases h with h | h
            · cases h; exact ⟨rfl, List.mem_cons_self⟩
            · exact ⟨(ih h).1, List.mem_cons_of_mem _ (ih h).2⟩
        exact this ds hp
      obtain ⟨rfl, hm⟩ := hpq
      refine ⟨[some (.val T), some (.val T), some (.val p), some (.val p)], by simp [asg, asgs, wipeE], true, _, rfl, ?_⟩
      rw [if_pos rfl]
      refine ⟨.bl true, [some (.val T), some (.val T), some (.val p), some (.val p)], ?_, by simp, _, _, rfl⟩
      simp [y5_0, evE, evAs, takeA, giveA, fzR, hg p hm]) ⟨rfl, none, none, rfl⟩
  rw [List.nil_append, List.nil_append] at l2
  subst l2 l3
  have hz : ((ds.zip ds).map fun p => D.tup [p.1, p.2]).length ≤ 1000000 := by simp; omega
  rw [call_succ (fd := f5) rfl, ← hT]
  have hb := blsOf_true ((ds.zip ds).map fun p => .tup [p.1, p.2])
  have ha : (((ds.zip ds).map fun p => D.tup [p.1, p.2]).map fun _ => true).all id = true := by simp
  have hx : evE gv (callF gv fns fu n) x5_0 [some (.val T), some (.val T), none, none] = some (.lst (((ds.zip ds).map fun p => D.tup [p.1, p.2]).map fun _ => .bl true), [some (.val T), some (.val T), none, none]) := by
    rw [x5_0, lc_eval (e1 := [some (.val T), some (.val T), none, none]) (ds := (ds.zip ds).map fun p => D.tup [p.1, p.2]) (by
      cases tp with
      | true => rw [if_pos rfl] at hT; subst hT; simp [evIt, evO, evE, fzR]
      | false => rw [if_neg Bool.false_ne_true] at hT; subst hT; simp [evIt, evO, evE, fzR]) l1 hz]
    rfl
  clear l1
  have hall : bltF .all [.lst (((ds.zip ds).map fun p => D.tup [p.1, p.2]).map fun _ => .bl true)] = some (.val (.bl true)) := by
    simp only [bltF, hb, Option.map_some, ha]
  have hlen : bltF .len [T] = some (.val (.int (ds.length : Nat))) := by
    cases tp with
    | true => rw [if_pos rfl] at hT; subst hT; rfl
    | false => rw [if_neg Bool.false_ne_true] at hT; subst hT; rfl
  have hty : ∀ t : Ty, ([t].any (isTyD T)) = true ∨ ([t].any (isTyD T)) = false := fun t => by cases ([t].any (isTyD T)) <;> simp
  have heq : ∀ b : Bool, cmpF .ne (.bl b) (.bl b) = some false := fun b => by cases b <;> rfl
  have hei : cmpF .eq (.int (ds.length : Nat)) (.int (ds.length : Nat)) = some true := by simp [cmpF, eqD, toP, SeqAt.shaped, PyData.canLay0, PyData.depth, PyData.eqv]
  generalize hw : evE gv (callF gv fns fu n) x5_0 [some (.val T), some (.val T), none, none] = w at hx
  cases tp with
  | true =>
    rw [if_pos rfl] at hT
    subst hT
    simp only [runF, f5, b5, s5_0, ownedAs, M.owned, startE, pins, evSs, evS, evE, evO, evOs, evB, fzR, ovD, ovDs, finals]
    simp [isTyD, heq, hei, hlen, hall, hw, hx, ovDs, ovD, -List.map_map]
  | false =>
    rw [if_neg Bool.false_ne_true] at hT
    subst hT
    simp only [runF, f5, b5, s5_0, ownedAs, M.owned, startE, pins, evSs, evS, evE, evO, evOs, evB, fzR, ovD, ovDs, finals]
    simp [isTyD, heq, hei, hlen, hall, hw, hx, ovDs, ovD, -List.map_map]
end K52
set_option Elab.async false
set_option linter.all false
set_option maxRecDepth 100000
set_option maxHeartbeats 4000000
namespace K52
open PySem PySem.Spec PyProof.Rows L2 IL
variable {fu : Nat}
/-! ### the row, what a stop leaves -/
inductive Wr where
  | bar
  | wr (i : Nat) (xs : List Int)
def sq (b : Bool) (ds : List D) : D := if b = true then .tup ds else .lst ds
def num (b : Bool) (xs : List Int) : D := sq b (xs.map D.int)
def wD (b : Bool) : Wr → D
  | .bar => sq b [.str (PySem.Str.ofString "barrier")]
  | .wr i xs => sq b [.str (PySem.Str.ofString "write"), .int (i : Int), num b xs]
def bars : Nat → List Wr → List Int
  | _, [] => []
  | k, .bar :: r => (k : Int) :: bars (k + 1) r
  | k, .wr _ _ :: r => bars (k + 1) r
theorem bars_app : ∀ (k : Nat) (a b : List Wr), bars k (a ++ b) = bars k a ++ bars (k + a.length) b
  | k, [], b => by simp [bars]
  | k, .bar :: a, b => by
    have e : k + 1 + a.length = k + (a.length + 1) := by omega
    simp [bars, bars_app (k + 1) a b, e]
  | k, .wr _ _ :: a, b => by
    have e : k + 1 + a.length = k + (a.length + 1) := by omega
    simp [bars, bars_app (k + 1) a b, e]
def lastB (row : List Wr) : Int := ((bars 0 row).getLast?).getD (-1)
def stp (last : Int) (kept : List Int) (k : Nat) (w : Wr) (P : List (List Int)) : List (List Int) := match w with
  | .bar => P
  | .wr i xs => if (k : Int) < last ∨ (k : Int) ∈ kept then P.set i xs else P
def app (last : Int) (kept : List Int) : Nat → List Wr → List (List Int) → List (List Int)
  | _, [], P => P
  | k, w :: r, P => app last kept (k + 1) r (stp last kept k w P)
theorem app_snoc (last : Int) (kept : List Int) : ∀ (k : Nat) (a : List Wr) (w : Wr) (P : List (List Int)), app last kept k (a ++ [w]) P = stp last kept (k + a.length) w (app last kept k a P)
  | k, [], w, P => rfl
  | k, x :: a, w, P => by
    have e : k + 1 + a.length = k + (a.length + 1) := by omega
    simp only [List.cons_append, app, List.length_cons]
    rw [app_snoc last kept (k + 1) a w, e]
theorem stp_len {last : Int} {kept : List Int} {k : Nat} {w : Wr} {P : List (List Int)} : (stp last kept k w P).length = P.length := by
  unfold stp
  split
  · rfl
  · split
    · rw [List.length_set]
    · rfl
theorem app_len {last : Int} {kept : List Int} : ∀ {k : Nat} {row : List Wr} {P : List (List Int)}, (app last kept k row P).length = P.length
  | _, [], _ => rfl
  | k, w :: r, P => by rw [app, app_len, stp_len]
theorem flats_int : ∀ xs : List Int, flatsOf (xs.map D.int) = some (xs.map V.int)
  | [] => rfl
  | x :: r => by simp [flatsOf, flatOf, flats_int r]
theorem in_int (b : Bool) (k : Int) (xs : List Int) : inD (.int k) (num b xs) = some (decide (k ∈ xs)) := by
  have h : inV (.int k) (xs.map V.int) = decide (k ∈ xs) := by
    induction xs with
    | nil => rfl
    | cons x r ih =>
      have e1 : inV (.int k) ((x :: r).map V.int) = (eqV (.int x) (.int k) || inV (.int k) (r.map V.int)) := rfl
      rw [e1, ih]
      have e2 : eqV (.int x) (.int k) = decide (x = k) := by
        show (x == k) = _
        by_cases q : x = k <;> simp [q]
      rw [e2]
      by_cases q : x = k
      · subst q; simp
      · have : ¬ k = x := fun z => q z.symm
        simp [q, this]
  cases b <;> simp [num, sq, inD, flatOf, seqOf, flats_int, h]
theorem at_enum (ds d1 : List D) (x : D) (r : List D) (h : (ds.mapIdx fun i d => D.tup [.int (i : Nat), d]) = d1 ++ x :: r) : ∃ d, ds[d1.length]? = some d ∧ x = .tup [.int (d1.length : Nat), d] := by
  have e : (ds.mapIdx fun i d => D.tup [.int (i : Nat), d])[d1.length]? = some x := by rw [h]; simp
  rw [List.getElem?_mapIdx, Option.map_eq_some_iff] at e
  obtain ⟨d, h1, h2⟩ := e
  exact ⟨d, h1, h2.symm⟩
theorem take_snoc {α : Type} {l : List α} {k : Nat} {x : α} (h : l[k]? = some x) : l.take (k + 1) = l.take k ++ [x] := by
  rw [List.take_add_one, h]; rfl
/-- the last barrier -/
theorem barrier_spec (n : Nat) (b : Bool) (row : List Wr) (hl : row.length ≤ 1000) : callF gv fns fu (n + 1) 0 [.val (.lst (row.map (wD b)))] = some (.val (.int (lastB row)), []) := by
  obtain ⟨W, hW⟩ : ∃ W, W = row.map (wD b) := ⟨_, rfl⟩
  have eB : cmpF .eq (.str (PySem.Str.ofString "barrier")) (.str (PySem.Str.ofString "barrier")) = some true := by decide +kernel
  have eW : cmpF .eq (.str (PySem.Str.ofString "write")) (.str (PySem.Str.ofString "barrier")) = some false := by decide +kernel
  have g1 : gv 1 = .str (PySem.Str.ofString "barrier") := rfl
  obtain ⟨rs, e2, l1, l2, v, w, l3⟩ := lcLoop_inv (tg := .tup (.cons (.nm 2) (.cons (.nm 3) .nil))) (own := [2, 3]) (test := evC gv (callF gv fns fu n) z0_0) (elt := fun e => fzR (evE gv (callF gv fns fu n) y0_0 e))
    (fun done acc env => acc = (bars 0 (row.take done.length)).map D.int ∧ ∃ v w, env = [some (.val (.lst W)), none, v, w]) (W.mapIdx fun i d => .tup [.int (i : Nat), d]) [] [] [some (.val (.lst W)), none, none, none] (by
      rintro d1 x rest acc env hsp ⟨rfl, v, w, rfl⟩
      rw [List.nil_append] at hsp
      obtain ⟨d, h1, rfl⟩ := at_enum W d1 x rest hsp
      rw [hW, List.getElem?_map, Option.map_eq_some_iff] at h1
      obtain ⟨u, hu, rfl⟩ := h1
      have hk : d1.length < row.length := (List.getElem?_eq_some_iff.mp hu).1
      refine ⟨[some (.val (.lst W)), none, some (.val (.int (d1.length : Nat))), some (.val (wD b u))], by simp [asg, asgs, wipeE], ?_⟩
      have ht : bars 0 (row.take (d1.length + 1)) = bars 0 (row.take d1.length) ++ bars d1.length [u] := by
        rw [take_snoc hu, bars_app, Nat.zero_add, List.length_take, Nat.min_eq_left (Nat.le_of_lt hk)]
      cases u with
      | bar =>
        refine ⟨true, [some (.val (.lst W)), none, some (.val (.int (d1.length : Nat))), some (.val (wD b .bar))], ?_, ?_⟩
        · cases b <;> simp [z0_0, evC, evE, evO, ovD, fzR, idxF, ixN, wD, sq, g1, eB]
        · rw [if_pos rfl]
          refine ⟨.int (d1.length : Nat), [some (.val (.lst W)), none, some (.val (.int (d1.length : Nat))), some (.val (wD b .bar))], by simp [y0_0, evE, fzR], ?_, _, _, rfl⟩
          rw [List.length_append, List.length_singleton, ht]
          simp [bars]
      | wr i xs =>
        refine ⟨false, [some (.val (.lst W)), none, some (.val (.int (d1.length : Nat))), some (.val (wD b (.wr i xs)))], ?_, ?_⟩
        · cases b <;> simp [z0_0, evC, evE, evO, ovD, fzR, idxF, ixN, wD, sq, g1, eW]
        · rw [if_neg Bool.false_ne_true]
          refine ⟨?_, _, _, rfl⟩
          rw [List.length_append, List.length_singleton, ht]
          simp [bars]) ⟨by simp [bars], none, none, rfl⟩
  rw [List.nil_append, List.nil_append] at l2
  have hlen : (W.mapIdx fun i d => D.tup [.int (i : Nat), d]).length = row.length := by rw [List.length_mapIdx, hW, List.length_map]
  rw [hlen, List.take_length] at l2
  subst l2 l3
  have hx : evE gv (callF gv fns fu n) x0_0 [some (.val (.lst W)), none, none, none] = some (.lst ((bars 0 row).map D.int), [some (.val (.lst W)), none, none, none]) := by
    rw [x0_0, lc_eval (by simp [evIt, evO, evE, fzR]) l1 (by rw [hlen]; omega)]
    rfl
  clear l1
  have key : ∀ (bs : List Int), evE gv (callF gv fns fu n) (.ite (.cmp .gt (.e (.blt .len (.cons (.s 1) .nil))) (.e (.c (.int 0)))) (.idx (.s 1) (.e (.neg (.e (.c (.int 1)))))) (.neg (.e (.c (.int 1))))) [some (.val (.lst W)), some (.val (.lst (bs.map D.int))), none, none] = some (.val (.int ((bs.getLast?).getD (-1))), [some (.val (.lst W)), some (.val (.lst (bs.map D.int))), none, none]) := by
    intro bs
    rcases List.eq_nil_or_concat bs with rfl | ⟨r, y, rfl⟩
    · simp [evE, evO, evOs, ovD, ovDs, fzR, bltF, cmpF]
    · have e1 : ixN (r.length + 1) (-1) = some r.length := by
        unfold ixN
        rw [if_neg (by decide), if_pos (by omega)]
        congr 1
        omega
      simp [evE, evO, evOs, ovD, ovDs, fzR, bltF, cmpF, idxF, e1]
  rw [call_succ (fd := f0) rfl, ← hW]
  have e1 : evS gv (callF gv fns fu n) fu [] s0_0 [some (.val (.lst W)), none, none, none] = some (.nx [some (.val (.lst W)), some (.val (.lst ((bars 0 row).map D.int))), none, none]) := by
    simp [s0_0, evS, hx, stow]
  have e2 : evSs gv (callF gv fns fu n) fu [] b0 [some (.val (.lst W)), none, none, none] = some (.rt (.val (.int (lastB row))) [some (.val (.lst W)), some (.val (.lst ((bars 0 row).map D.int))), none, none]) := by
    rw [b0, ss_cons e1, s0_1, ss_ret (key _)]
    rfl
  simp [runF, f0, ownedAs, M.owned, startE, pins, e2, finals]
def nums (P : List (List Int)) : List D := P.map (num true)
def wOk (m : Nat) (row : List Wr) : Prop := ∀ w ∈ row, match w with
  | .bar => True
  | .wr i xs => i < m ∧ xs.length ≤ 9
/-- a stop's disk -/
theorem stop_spec (n : Nat) (b c : Bool) (P : List (List Int)) (row : List Wr) (kept : List Int) (hP : P.length ≤ 1000) (hl : row.length ≤ 1000) (hw : wOk P.length row) :
    callF gv fns fu (n + 2) 1 [.val (sq b (P.map (num b))), .val (.lst (row.map (wD b))), .val (num c kept)] = some (.val (.tup (nums (app (lastB row) kept 0 row P))), []) := by
  obtain ⟨T, hT⟩ : ∃ T, T = sq b (P.map (num b)) := ⟨_, rfl⟩
  obtain ⟨W, hW⟩ : ∃ W, W = row.map (wD b) := ⟨_, rfl⟩
  obtain ⟨Kp, hK⟩ : ∃ Kp, Kp = num c kept := ⟨_, rfl⟩
  have hin : ∀ k : Int, inD (.int k) Kp = some (decide (k ∈ kept)) := fun k => by rw [hK]; exact in_int c k kept
  have hbar := barrier_spec (fu := fu) n b row hl
  rw [← hW] at hbar
  rw [call_succ (fd := f1) rfl, ← hT, ← hW, ← hK]
  -- the places
  obtain ⟨rs, e2, l1, l2, v, l3⟩ := lcLoop_inv (tg := .nm 7) (own := [7]) (test := evC gv (callF gv fns fu (n + 1)) .none) (elt := fun e => fzR (evE gv (callF gv fns fu (n + 1)) y1_0 e))
    (fun done acc env => acc = nums (P.take done.length) ∧ ∃ v, env = [some (.val T), some (.val (.lst W)), some (.val Kp), none, none, none, none, v]) (P.map (num b)) [] [] [some (.val T), some (.val (.lst W)), some (.val Kp), none, none, none, none, none] (by
      rintro d1 x rest acc env hsp ⟨rfl, v, rfl⟩
      rw [List.nil_append] at hsp
      have hx : (P.map (num b))[d1.length]? = some x := by rw [hsp]; simp
      rw [List.getElem?_map, Option.map_eq_some_iff] at hx
      obtain ⟨xs, hu, rfl⟩ := hx
      refine ⟨[some (.val T), some (.val (.lst W)), some (.val Kp), none, none, none, none, some (.val (num b xs))], by simp [asg, wipeE], true, _, rfl, ?_⟩
      rw [if_pos rfl]
      refine ⟨num true xs, [some (.val T), some (.val (.lst W)), some (.val Kp), none, none, none, none, some (.val (num b xs))], ?_, ?_, _, rfl⟩
      · cases b <;> simp [y1_0, evE, evO, evOs, ovD, ovDs, bltF, fzR, num, sq]
      · rw [List.length_append, List.length_singleton, take_snoc hu]
        simp [nums]) ⟨by simp [nums], none, rfl⟩
  rw [List.nil_append, List.nil_append, List.length_map, List.take_length] at l2
  subst l2 l3
  have hx : evE gv (callF gv fns fu (n + 1)) x1_0 [some (.val T), some (.val (.lst W)), some (.val Kp), none, none, none, none, none] = some (.lst (nums P), [some (.val T), some (.val (.lst W)), some (.val Kp), none, none, none, none, none]) := by
    rw [x1_0, lc_eval (e1 := [some (.val T), some (.val (.lst W)), some (.val Kp), none, none, none, none, none]) (ds := P.map (num b)) (by rw [hT]; cases b <;> simp [evIt, evO, evE, fzR, sq]) l1 (by rw [List.length_map]; omega)]
    rfl
  clear l1
  have g1 : evS gv (callF gv fns fu (n + 1)) fu [] s1_0 [some (.val T), some (.val (.lst W)), some (.val Kp), none, none, none, none, none] = some (.nx [some (.val T), some (.val (.lst W)), some (.val Kp), some (.lst (nums P)), some (.val (.int (lastB row))), none, none, none]) := by
    simp [s1_0, evS, hx, evE, evAs, takeA, giveA, fzR, hbar, stow]
  -- the writes
  have eB : cmpF .ne (.str (PySem.Str.ofString "barrier")) (.str (PySem.Str.ofString "barrier")) = some false := by decide +kernel
  have eW : cmpF .ne (.str (PySem.Str.ofString "write")) (.str (PySem.Str.ofString "barrier")) = some true := by decide +kernel
  have cLt : ∀ a b : Int, cmpF .lt (.int a) (.int b) = some (decide (a < b)) := fun _ _ => rfl
  have cIn : ∀ a b : D, cmpF .isin a b = inD a b := fun _ _ => rfl
  have gB : gv 1 = .str (PySem.Str.ofString "barrier") := rfl
  obtain ⟨e3, m1, v5, v6, m2⟩ := forLoop_inv (pin := []) (tg := .tup (.cons (.nm 5) (.cons (.nm 6) .nil))) (body := evSs gv (callF gv fns fu (n + 1)) fu [] q1_0)
    (fun done env => ∃ v5 v6, env = [some (.val T), some (.val (.lst W)), some (.val Kp), some (.lst (nums (app (lastB row) kept 0 (row.take done.length) P))), some (.val (.int (lastB row))), v5, v6, none]) (W.mapIdx fun i d => .tup [.int (i : Nat), d]) [] [some (.val T), some (.val (.lst W)), some (.val Kp), some (.lst (nums P)), some (.val (.int (lastB row))), none, none, none] (by
      rintro d1 x rest env hsp ⟨v5, v6, rfl⟩
      rw [List.nil_append] at hsp
      obtain ⟨d, h1, rfl⟩ := at_enum W d1 x rest hsp
      rw [hW, List.getElem?_map, Option.map_eq_some_iff] at h1
      obtain ⟨u, hu, rfl⟩ := h1
      have hk : d1.length < row.length := (List.getElem?_eq_some_iff.mp hu).1
      have hap : app (lastB row) kept 0 (row.take (d1.length + 1)) P = stp (lastB row) kept d1.length u (app (lastB row) kept 0 (row.take d1.length) P) := by
        rw [take_snoc hu, app_snoc, Nat.zero_add, List.length_take, Nat.min_eq_left (Nat.le_of_lt hk)]
      obtain ⟨Q, hQ⟩ : ∃ Q, Q = app (lastB row) kept 0 (row.take d1.length) P := ⟨_, rfl⟩
      have hQl : Q.length = P.length := by rw [hQ, app_len]
      refine ⟨[some (.val T), some (.val (.lst W)), some (.val Kp), some (.lst (nums Q)), some (.val (.int (lastB row))), some (.val (.int (d1.length : Nat))), some (.val (wD b u)), none], by rw [hQ]; simp [asg, asgs], ?_⟩
      refine ⟨[some (.val T), some (.val (.lst W)), some (.val Kp), some (.lst (nums (stp (lastB row) kept d1.length u Q))), some (.val (.int (lastB row))), some (.val (.int (d1.length : Nat))), some (.val (wD b u)), none], .inl ?_, _, _, by rw [List.length_append, List.length_singleton, hap, hQ]⟩
      cases u with
      | bar => cases b <;> simp [q1_0, evSs, evS, evE, evB, evO, ovD, fzR, idxF, ixN, wD, sq, gB, eB, stp]
      | wr i xs =>
        have hi : i < Q.length := by rw [hQl]; exact (hw _ (List.mem_of_getElem? hu)).1
        have hix : ixN (nums Q).length (i : Int) = some i := by unfold ixN; simp [nums, hi]
        have hset : (nums Q).set i (.tup (xs.map D.int)) = nums (Q.set i xs) := by simp [nums, List.map_set, num, sq]
        obtain ⟨t1, ht1⟩ : ∃ t, t = wD b (.wr i xs) := ⟨_, rfl⟩
        have a0 : idxF t1 (.int 0) = some (.str (PySem.Str.ofString "write")) := by rw [ht1]; cases b <;> rfl
        have a1 : idxF t1 (.int 1) = some (.int (i : Int)) := by rw [ht1]; cases b <;> rfl
        have a2 : idxF t1 (.int 2) = some (num b xs) := by rw [ht1]; cases b <;> rfl
        have a3 : bltF .tuple [num b xs] = some (.val (.tup (xs.map D.int))) := by cases b <;> rfl
        rw [← ht1]
        by_cases c1 : ((d1.length : Nat) : Int) < lastB row
        · simp only [stp, c1, true_or, if_true, ← hset]
          simp [q1_0, evSs, evS, evE, evB, evO, evOs, ovD, ovDs, fzR, a0, a1, a2, a3, gB, eW, cLt, cIn, c1, hix]
        · by_cases c2 : ((d1.length : Nat) : Int) ∈ kept
          · simp only [stp, c2, or_true, if_true, ← hset]
            simp [q1_0, evSs, evS, evE, evB, evO, evOs, ovD, ovDs, fzR, a0, a1, a2, a3, gB, eW, cLt, cIn, c1, hin, c2, hix]
          · simp only [stp, c1, c2, or_self, if_false]
            simp [q1_0, evSs, evS, evE, evB, evO, evOs, ovD, ovDs, fzR, a0, a1, a2, a3, gB, eW, cLt, cIn, c1, hin, c2]) ⟨none, none, by simp [app]⟩
  have hlen : (W.mapIdx fun i d => D.tup [.int (i : Nat), d]).length = row.length := by rw [List.length_mapIdx, hW, List.length_map]
  rw [List.nil_append, hlen, List.take_length] at m2
  subst m2
  have g2 : evS gv (callF gv fns fu (n + 1)) fu [] s1_1 [some (.val T), some (.val (.lst W)), some (.val Kp), some (.lst (nums P)), some (.val (.int (lastB row))), none, none, none] = some (.nx [some (.val T), some (.val (.lst W)), some (.val Kp), some (.lst (nums (app (lastB row) kept 0 row P))), some (.val (.int (lastB row))), v5, v6, none]) := by
    rw [s1_1, for_eval (e1 := [some (.val T), some (.val (.lst W)), some (.val Kp), some (.lst (nums P)), some (.val (.int (lastB row))), none, none, none]) (ds := W.mapIdx fun i d => .tup [.int (i : Nat), d]) (by simp [evIt, evO, evE, fzR]) rfl, m1]
  have g3 : evSs gv (callF gv fns fu (n + 1)) fu [] b1 [some (.val T), some (.val (.lst W)), some (.val Kp), none, none, none, none, none] = some (.rt (.val (.tup (nums (app (lastB row) kept 0 row P)))) [some (.val T), some (.val (.lst W)), some (.val Kp), some (.lst (nums (app (lastB row) kept 0 row P))), some (.val (.int (lastB row))), v5, v6, none]) := by
    rw [b1, ss_cons g1, ss_cons g2, s1_2, ss_ret]
    simp [evE, evO, evOs, ovD, ovDs, bltF]
  simp [runF, f1, ownedAs, M.owned, startE, pins, g3, finals]
end K52
set_option Elab.async false
set_option linter.all false
set_option maxRecDepth 100000
set_option maxHeartbeats 4000000
namespace K52
open PySem PySem.Spec PyProof.Rows L2 IL
variable {fu : Nat}
mutual
theorem eqv_me : ∀ p : PyData, p.canLay0 = true → PyData.eqv p p = true
  | .none, _ => rfl
  | .bool b, _ => by simp [PyData.eqv]
  | .int b, _ => by simp [PyData.eqv]
  | .str b, _ => by simp [PyData.eqv]
  | .list xs, h => by
    have h : PyData.canLayAll0 xs = true := h
    simpa [PyData.eqv] using eqvs_me xs h
  | .tuple xs, h => by
    have h : PyData.canLayAll0 xs = true := h
    simpa [PyData.eqv] using eqvs_me xs h
  | .dict _, h => by simp [PyData.canLay0] at h
theorem eqvs_me : ∀ p : List PyData, PyData.canLayAll0 p = true → PyData.eqvAll p p = true
  | [], _ => rfl
  | x :: r, h => by
    have h : (x.canLay0 && PyData.canLayAll0 r) = true := h
    rw [Bool.and_eq_true] at h
    simp [PyData.eqvAll, eqv_me x h.1, eqvs_me r h.2]
end
theorem eqD_me {d : D} {p : PyData} (h : toP d = some p) (hs : SeqAt.shaped p = true) : eqD d d = some true := by
  unfold eqD
  rw [h]
  show (if _ then _ else _) = _
  rw [if_pos ⟨hs, hs⟩, eqv_me p (SeqAt.canLay_of_shaped hs)]
theorem toPs_int : ∀ xs : List Int, toPs (xs.map D.int) = some (xs.map PyData.int)
  | [] => rfl
  | x :: r => by simp [toPs, toP, toPs_int r]
theorem can_int : ∀ xs : List Int, PyData.canLayAll0 (xs.map PyData.int) = true
  | [] => rfl
  | x :: r => by simp [PyData.canLayAll0, PyData.canLay0, can_int r]
theorem dep_int : ∀ xs : List Int, PyData.depthAll (xs.map PyData.int) = 0
  | [] => rfl
  | x :: r => by simp [PyData.depthAll, PyData.depth, dep_int r]
def pW : Wr → PyData
  | .bar => .tuple [.str (PySem.Str.ofString "barrier")]
  | .wr i xs => .tuple [.str (PySem.Str.ofString "write"), .int (i : Int), .tuple (xs.map PyData.int)]
theorem toP_w (u : Wr) : toP (wD true u) = some (pW u) := by
  cases u with
  | bar => rfl
  | wr i xs => simp [wD, sq, num, toP, toPs, toPs_int, pW]
theorem sW1 : PyData.canLay0 (.str (PySem.Str.ofString "write")) = true := by decide +kernel
theorem sB1 : PyData.canLay0 (.str (PySem.Str.ofString "barrier")) = true := by decide +kernel
theorem can_w (u : Wr) : (pW u).canLay0 = true ∧ (pW u).depth ≤ 2 := by
  cases u with
  | bar => exact ⟨by simp [pW, PyData.canLay0, PyData.canLayAll0]; exact sB1, by simp [pW, PyData.depth, PyData.depthAll]⟩
  | wr i xs =>
    refine ⟨?_, by simp [pW, PyData.depth, PyData.depthAll, dep_int]⟩
    show PyData.canLayAll0 [.str (PySem.Str.ofString "write"), .int (i : Int), .tuple (xs.map PyData.int)] = true
    simp only [PyData.canLayAll0, sW1, Bool.true_and, Bool.and_true]
    simp [PyData.canLay0, can_int]
theorem shaped_of {p : PyData} (h : p.canLay0 = true) (d : p.depth ≤ 64) : SeqAt.shaped p = true := by
  unfold SeqAt.shaped
  rw [h, decide_eq_true d]; rfl
def isBar : Wr → Bool
  | .bar => true
  | _ => false
theorem eq_bar (u : Wr) : eqD (wD true u) (.tup [.str (PySem.Str.ofString "barrier")]) = some (isBar u) := by
  have hb : toP (.tup [.str (PySem.Str.ofString "barrier")]) = some (pW .bar) := rfl
  have s1 := shaped_of (can_w u).1 (Nat.le_trans (can_w u).2 (by decide))
  have s2 := shaped_of (can_w .bar).1 (Nat.le_trans (can_w .bar).2 (by decide))
  unfold eqD
  rw [toP_w, hb]
  show (if _ then _ else _) = _
  rw [if_pos ⟨s1, s2⟩]
  cases u with
  | bar => rw [eqv_me _ (can_w .bar).1]; rfl
  | wr i xs => simp [pW, PyData.eqv, PyData.eqvAll, isBar]
theorem toPs_row : ∀ row : List Wr, toPs (row.map (wD true)) = some (row.map pW)
  | [] => rfl
  | u :: r => by simp [toPs, toP_w, toPs_row r]
theorem can_row : ∀ row : List Wr, PyData.canLayAll0 (row.map pW) = true ∧ PyData.depthAll (row.map pW) ≤ 2
  | [] => ⟨rfl, Nat.zero_le _⟩
  | u :: r => by
    have h := can_row r
    have g := can_w u
    refine ⟨by simp [PyData.canLayAll0, g.1, h.1], ?_⟩
    simp only [List.map_cons, PyData.depthAll]
    exact Nat.max_le.mpr ⟨g.2, h.2⟩
theorem eq_row (row : List Wr) : eqD (.tup (row.map (wD true))) (.tup (row.map (wD true))) = some true := by
  refine eqD_me (p := .tuple (row.map pW)) (by simp [toP, toPs_row]) (shaped_of (can_row row).1 ?_)
  have := (can_row row).2
  show PyData.depthAll (row.map pW) + 1 ≤ 64
  omega
/-! the greatest of the barriers' places -/
theorem bars_ge : ∀ (k : Nat) (row : List Wr), ∀ x ∈ bars k row, (k : Int) ≤ x
  | _, [] => fun x h => by simp [bars] at h
  | k, .bar :: r => fun x h => by
    simp only [bars, List.mem_cons] at h
    rcases h with rfl | h
    · exact Int.le_refl _
    · have := bars_ge (k + 1) r x h
      omega
  | k, .wr _ _ :: r => fun x h => by
    simp only [bars] at h
    have := bars_ge (k + 1) r x h
    omega
theorem maxI_bars : ∀ (k : Nat) (row : List Wr), maxI (bars k row ++ [-1]) = ((bars k row).getLast?).getD (-1)
  | _, [] => rfl
  | k, .wr _ _ :: r => by simp only [bars]; exact maxI_bars (k + 1) r
  | k, .bar :: r => by
    have ih := maxI_bars (k + 1) r
    have ge := bars_ge (k + 1) r
    simp only [bars]
    cases hb : bars (k + 1) r with
    | nil =>
      have : ¬ ((k : Int) ≤ -1) := by omega
      simp [maxI, this]
    | cons y t =>
      rw [hb] at ih ge
      have e1 : maxI ((k : Int) :: y :: t ++ [-1]) = if (k : Int) ≤ maxI (y :: t ++ [-1]) then maxI (y :: t ++ [-1]) else (k : Int) := rfl
      rw [e1, ih]
      have hl : ((y :: t).getLast?).getD (-1) = (y :: t).getLast (by simp) := by rw [List.getLast?_eq_some_getLast (by simp)]; rfl
      have hg := ge _ (List.getLast_mem (l := y :: t) (by simp))
      rw [hl, if_pos (by omega), ← hl, List.getLast?_cons_cons]
theorem ints_map : ∀ xs : List Int, intsOf (xs.map D.int) = some xs
  | [] => rfl
  | x :: r => by simp [intsOf, ints_map r]
theorem max_bars (row : List Wr) : bltF .max1 [.lst ((bars 0 row).map D.int ++ [.int (-1)])] = some (.val (.int (lastB row))) := by
  have e : (bars 0 row).map D.int ++ [.int (-1)] = (bars 0 row ++ [-1]).map D.int := by simp
  have hm := maxI_bars 0 row
  rw [e]
  cases hb : bars 0 row ++ [-1] with
  | nil => simp at hb
  | cons y t =>
    rw [hb] at hm
    simp only [bltF, ints_map, hm]
    rfl
/-! the other form -/
def deL : D → D
  | .tup ds => .lst ds
  | d => d
def deW : D → D
  | .tup ds => .lst (ds.map deL)
  | d => d
theorem lists_num (n : Nat) (xs : List Int) (h : xs.length ≤ 9) : callF gv fns fu (n + 2) 6 [.val (num true xs)] = some (.val (num false xs), []) := by
  have := lists_tup (fu := fu) (n + 1) (fun d => d) (xs.map D.int) (fun x hx => by
    rw [List.mem_map] at hx
    obtain ⟨i, _, rfl⟩ := hx
    exact lists_int n i) (by rw [List.length_map]; omega)
  rw [show (fun d : D => d) = id from rfl, List.map_id] at this
  exact this
theorem lists_w (n : Nat) (u : Wr) (m : Nat) (h : wOk m [u]) : callF gv fns fu (n + 3) 6 [.val (wD true u)] = some (.val (wD false u), []) := by
  cases u with
  | bar =>
    have := lists_tup (fu := fu) (n + 2) (fun d => d) [.str (PySem.Str.ofString "barrier")] (fun x hx => by
      rw [List.mem_singleton] at hx
      subst hx
      exact lists_str (n + 1) _) (by decide)
    simpa [wD, sq] using this
  | wr i xs =>
    have hx := (h (.wr i xs) (by simp)).2
    have := lists_tup (fu := fu) (n + 2) deL [.str (PySem.Str.ofString "write"), .int (i : Int), num true xs] (fun x hx => by
      simp only [List.mem_cons, List.not_mem_nil, or_false] at hx
      rcases hx with rfl | rfl | rfl
      · exact lists_str (n + 1) _
      · exact lists_int (n + 1) _
      · exact lists_num n xs (by assumption)) (by simp)
    simpa [wD, sq, num, deL] using this
theorem lists_row (n : Nat) (row : List Wr) (m : Nat) (h : wOk m row) (hl : row.length ≤ 1000) : callF gv fns fu (n + 4) 6 [.val (.tup (row.map (wD true)))] = some (.val (.lst (row.map (wD false))), []) := by
  have := lists_tup (fu := fu) (n + 3) deW (row.map (wD true)) (fun x hx => by
    rw [List.mem_map] at hx
    obtain ⟨u, hu, rfl⟩ := hx
    rw [lists_w n u m (fun w hw => by rw [List.mem_singleton] at hw; subst hw; exact h _ hu)]
    cases u <;> simp [deW, deL, wD, sq, num]) (by rw [List.length_map]; omega)
  rw [this, List.map_map]
  have e : deW ∘ wD true = wD false := by
    funext u
    cases u <;> simp [deW, deL, wD, sq, num]
  rw [e]
theorem lists_disk (n : Nat) (P : List (List Int)) (h : ∀ xs ∈ P, xs.length ≤ 9) (hl : P.length ≤ 1000) : callF gv fns fu (n + 3) 6 [.val (.tup (nums P))] = some (.val (.lst (P.map (num false))), []) := by
  have := lists_tup (fu := fu) (n + 2) deL (nums P) (fun x hx => by
    unfold nums at hx
    rw [List.mem_map] at hx
    obtain ⟨xs, hu, rfl⟩ := hx
    rw [lists_num n xs (h _ hu)]
    simp [deL, num, sq]) (by simp [nums]; omega)
  rw [this, nums, List.map_map]
  have e : deL ∘ num true = num false := by
    funext u
    simp [deL, num, sq]
  rw [e]
theorem same_disk (n : Nat) (P : List (List Int)) (h : ∀ xs ∈ P, xs.length ≤ 9) (hl : P.length ≤ 1000) : callF gv fns fu (n + 3) 5 [.val (.tup (nums P)), .val (.tup (nums P))] = some (.val (.bl true), []) := by
  have := same_seq (fu := fu) (n + 2) true (nums P) (fun x hx => by
    unfold nums at hx
    rw [List.mem_map] at hx
    obtain ⟨xs, hu, rfl⟩ := hx
    have h2 := same_seq (fu := fu) (n + 1) true (xs.map D.int) (fun x hx => by
      rw [List.mem_map] at hx
      obtain ⟨i, _, rfl⟩ := hx
      exact same_int n i) (by rw [List.length_map]; have := h _ hu; omega)
    simpa [num, sq] using h2) (by simp [nums]; omega)
  simpa using this
theorem same_list (n : Nat) (k : Nat) (hk : k ≤ 1000) (P : List (List Int)) (h : ∀ xs ∈ P, xs.length ≤ 9) (hl : P.length ≤ 1000) :
    callF gv fns fu (n + 4) 5 [.val (.lst (List.replicate k (.tup (nums P)))), .val (.lst (List.replicate k (.tup (nums P))))] = some (.val (.bl true), []) := by
  have := same_seq (fu := fu) (n + 3) false (List.replicate k (.tup (nums P))) (fun x hx => by
    rw [List.eq_of_mem_replicate hx]
    exact same_disk n P h hl) (by simp; omega)
  simpa using this
theorem app_nine {last : Int} {kept : List Int} : ∀ {k : Nat} {row : List Wr} {P : List (List Int)} {m : Nat}, wOk m row → (∀ xs ∈ P, xs.length ≤ 9) → ∀ xs ∈ app last kept k row P, xs.length ≤ 9
  | _, [], _, _, _, h => h
  | k, w :: r, P, m, hw, h => app_nine (k := k + 1) (fun u hu => hw u (List.mem_cons_of_mem _ hu)) fun xs hx => by
    unfold stp at hx
    split at hx
    · exact h xs hx
    · rename_i i ys
      split at hx
      · rcases List.mem_or_eq_of_mem_set hx with z | rfl
        · exact h xs z
        · exact (hw (.wr i xs) List.mem_cons_self).2
      · exact h xs hx
end K52
set_option Elab.async false
set_option linter.all false
set_option maxRecDepth 100000
set_option maxHeartbeats 4000000
namespace K52
open PySem PySem.Spec PyProof.Rows L2 IL
variable {fu : Nat}
theorem z1 : 1 ≤ sizeLine := by decide +kernel
theorem z3 : 3 ≤ sizeLine := by decide +kernel
theorem z4 : 4 ≤ sizeLine := by decide +kernel
theorem z5 : 5 ≤ sizeLine := by decide +kernel
theorem zk : 1000 ≤ sizeLine := by decide +kernel
theorem nat_mem {y : D} {l : List Nat} {m : Nat} (h : y ∈ l.map fun i => D.int (i : Nat)) (hl : ∀ i ∈ l, i < m) : ∃ j : Nat, y = .int (j : Int) ∧ j < m := by
  rw [List.mem_map] at h
  obtain ⟨j, hj, rfl⟩ := h
  exact ⟨j, rfl, hl j hj⟩
/-- the disk is drawn -/
theorem disk_drawn (n : Nat) {B : Int} {ds : List D} (h : Bx B ds) (hB : B + 1000 < 2 ^ 30) : ∃ (P : List (List Int)) (ds' : List D) (v : Option M), evS gv (callF gv fns fu (n + 5)) fu [0] s8_1 [some (.lst ds), some (.lst (nums (List.replicate 64 []))), none, none, none, none, none, none, none, none, none, none, none] =
      some (.nx [some (.lst ds'), some (.lst (nums P)), v, none, none, none, none, none, none, none, none, none, none]) ∧ P.length = 64 ∧ (∀ xs ∈ P, xs.length ≤ 9) ∧ Bx (B + 200) ds' := by
  obtain ⟨r, ds1, e, r1, r2, bx⟩ := take_spec (fu := fu) (n + 4) h (by omega) (k := 6) (by omega) (by omega)
  obtain ⟨i, rfl⟩ := Int.eq_ofNat_of_zero_le r1
  have i1 : (i : Int) < 4611686018427387904 := by omega
  have i2 : (-4611686018427387904 : Int) ≤ (i : Int) := by omega
  have hlen : (rngD 0 (i : Int)).length = i := by simp [rngD]
  obtain ⟨e2, l1, P, ds2, v, rfl, p1, p2, p3⟩ := forLoop_inv (pin := [0]) (tg := .nm 2) (body := evSs gv (callF gv fns fu (n + 5)) fu [0] q8_0)
    (fun done env => ∃ (P : List (List Int)) (ds2 : List D) (v : Option M), env = [some (.lst ds2), some (.lst (nums P)), v, none, none, none, none, none, none, none, none, none, none] ∧ P.length = 64 ∧ (∀ xs ∈ P, xs.length ≤ 9) ∧ Bx (B + 1 + 21 * (done.length : Int)) ds2) (rngD 0 (i : Int)) [] [some (.lst ds1), some (.lst (nums (List.replicate 64 []))), none, none, none, none, none, none, none, none, none, none, none] (by
      rintro d1 x rest env hsp ⟨P, ds2, v, rfl, p1, p2, b2⟩
      have hd : d1.length < i := by
        have := congrArg List.length hsp
        rw [List.nil_append, hlen, List.length_append, List.length_cons] at this
        omega
      obtain ⟨xs, ds3, e3, q1, b3⟩ := numbers_spec (fu := fu) (n + 2) b2 (by omega)
      obtain ⟨y, ds4, e4, y1, b4⟩ := pick_spec (fu := fu) (n + 3) b3 (by omega) [.int 0, .int 1, .int 2, .int 63] (by simp) (by simp)
      obtain ⟨j, rfl, hj⟩ := nat_mem (l := [0, 1, 2, 63]) (m := 64) y1 (by simp)
      refine ⟨[some (.lst ds2), some (.lst (nums P)), some (.val x), none, none, none, none, none, none, none, none, none, none], by simp [asg], [some (.lst ds4), some (.lst (nums (P.set j xs))), some (.val x), none, none, none, none, none, none, none, none, none, none], .inl ?_, _, _, _, rfl, by rw [List.length_set]; exact p1, fun ys hy => ?_, b4.mono (by simp; omega)⟩
      · have hj2 : (j : Int) < 64 := by omega
        have hix : ixN (nums P).length (j : Int) = some j := by unfold ixN; simp [nums, p1, hj2]
        have hset : (nums P).set j (.tup (xs.map D.int)) = nums (P.set j xs) := by simp [nums, List.map_set, num, sq]
        simp [q8_0, evSs, evS, evE, evO, evAs, evEs, takeA, giveA, fzR, M.owned, z4, e3, e4, hix, hset]
      · rcases List.mem_or_eq_of_mem_set hy with z | rfl
        · exact p2 _ z
        · exact q1) ⟨_, ds1, none, rfl, by simp, fun xs hx => by rw [List.eq_of_mem_replicate hx]; simp, by simpa using bx⟩
  rw [List.nil_append, hlen] at p3
  refine ⟨P, ds2, v, ?_, p1, p2, p3.mono (by omega)⟩
  rw [s8_1, for_eval (e1 := [some (.lst ds1), some (.lst (nums (List.replicate 64 []))), none, none, none, none, none, none, none, none, none, none, none]) (ds := rngD 0 (i : Int)) (by simp [evIt, evO, evE, evAs, takeA, giveA, ovD, fzR, M.owned, e, i1, i2]) rfl, l1]
/-- the row is drawn -/
theorem row_drawn (n : Nat) {B : Int} {ds : List D} (h : Bx B ds) (hB : B + 1000 < 2 ^ 30) (dk : Option M) (v2 : Option M) : ∃ (row : List Wr) (ds' : List D) (v w : Option M), evS gv (callF gv fns fu (n + 5)) fu [0] s8_3 [some (.lst ds), dk, v2, some (.lst []), none, none, none, none, none, none, none, none, none] =
      some (.nx [some (.lst ds'), dk, v, some (.lst (row.map (wD true))), none, none, none, w, none, none, none, none, none]) ∧ (w = none ∨ ∃ d, w = some (.val d)) ∧ row.length ≤ 13 ∧ wOk 64 row ∧ Bx (B + 400) ds' := by
  obtain ⟨r, ds1, e, r1, r2, bx⟩ := take_spec (fu := fu) (n + 4) h (by omega) (k := 13) (by omega) (by omega)
  obtain ⟨i, rfl⟩ := Int.eq_ofNat_of_zero_le r1
  have i1 : (i : Int) < 4611686018427387904 := by omega
  have i2 : (-4611686018427387904 : Int) ≤ (i : Int) := by omega
  have hlen : (rngD 0 (i : Int)).length = i := by simp [rngD]
  obtain ⟨e2, l1, row, ds2, v, w, rfl, p0, p1, p2, p3⟩ := forLoop_inv (pin := [0]) (tg := .nm 2) (body := evSs gv (callF gv fns fu (n + 5)) fu [0] q8_1)
    (fun done env => ∃ (row : List Wr) (ds2 : List D) (v w : Option M), env = [some (.lst ds2), dk, v, some (.lst (row.map (wD true))), none, none, none, w, none, none, none, none, none] ∧ (w = none ∨ ∃ d, w = some (.val d)) ∧ row.length = done.length ∧ wOk 64 row ∧ Bx (B + 1 + 22 * (done.length : Int)) ds2) (rngD 0 (i : Int)) [] [some (.lst ds1), dk, v2, some (.lst []), none, none, none, none, none, none, none, none, none] (by
      rintro d1 x rest env hsp ⟨row, ds2, v, w, rfl, p0, p1, p2, b2⟩
      have hd : d1.length < i := by
        have := congrArg List.length hsp
        rw [List.nil_append, hlen, List.length_append, List.length_cons] at this
        omega
      obtain ⟨y, ds3, e3, y1, b3⟩ := pick_spec (fu := fu) (n + 3) b2 (by omega) [.int 0, .int 1, .int 2, .int 5, .int 63] (by simp) (by simp)
      obtain ⟨j, rfl, hj⟩ := nat_mem (l := [0, 1, 2, 5, 63]) (m := 64) y1 (by simp)
      obtain ⟨xs, ds4, e4, q1, b4⟩ := numbers_spec (fu := fu) (n + 2) b3 (by omega)
      obtain ⟨q, ds5, e5, r5, r6, b5⟩ := take_spec (fu := fu) (n + 4) b4 (by omega) (k := 4) (by omega) (by omega)
      refine ⟨[some (.lst ds2), dk, some (.val x), some (.lst (row.map (wD true))), none, none, none, w, none, none, none, none, none], by simp [asg], ?_⟩
      have hsz : row.length < sizeLine := Nat.lt_of_lt_of_le (by omega : row.length < 1000) zk
      have hw : D.tup [.str (PySem.Str.ofString "write"), .int (j : Int), .tup (xs.map D.int)] = wD true (.wr j xs) := rfl
      have hb : D.tup [.str (PySem.Str.ofString "barrier")] = wD true .bar := rfl
      by_cases hq : q = 0
      · subst hq
        have ec : cmpF .eq (.int 0) (.int 0) = some true := by decide +kernel
        refine ⟨[some (.lst ds5), dk, some (.val x), some (.lst ((row ++ [Wr.bar]).map (wD true))), none, none, none, some (.val (wD true (.wr j xs))), none, none, none, none, none], .inl ?_, _, _, _, _, rfl, .inr ⟨_, rfl⟩, by simp [p1], fun u hu => ?_, b5.mono (by simp; omega)⟩
        · simp [q8_1, evSs, evS, evE, evO, evAs, evEs, ovD, takeA, giveA, fzR, M.owned, stow, e3, e4, e5, hw, hb, ec, hsz, z1, z3, z5]
        · rcases List.mem_append.mp hu with z | z
          · exact p2 u z
          · rw [List.mem_singleton] at z; subst z; trivial
      · have ec : cmpF .eq (.int q) (.int 0) = some false := by
          have : (q == 0) = false := by simpa using hq
          simp [cmpF, eqD, toP, SeqAt.shaped, PyData.canLay0, PyData.depth, PyData.eqv, this]
        refine ⟨[some (.lst ds5), dk, some (.val x), some (.lst ((row ++ [Wr.wr j xs]).map (wD true))), none, none, none, some (.val (wD true (.wr j xs))), none, none, none, none, none], .inl ?_, _, _, _, _, rfl, .inr ⟨_, rfl⟩, by simp [p1], fun u hu => ?_, b5.mono (by simp; omega)⟩
        · simp [q8_1, evSs, evS, evE, evO, evAs, evEs, ovD, takeA, giveA, fzR, M.owned, stow, e3, e4, e5, hw, hb, ec, hsz, z1, z3, z5]
        · rcases List.mem_append.mp hu with z | z
          · exact p2 u z
          · rw [List.mem_singleton] at z; subst z; exact ⟨hj, q1⟩) ⟨[], ds1, v2, none, rfl, .inl rfl, rfl, fun u hu => by simp at hu, by simpa using bx⟩
  rw [List.nil_append, hlen] at p1 p3
  refine ⟨row, ds2, v, w, ?_, p0, by omega, p2, p3.mono (by omega)⟩
  rw [s8_3, for_eval (e1 := [some (.lst ds1), dk, v2, some (.lst []), none, none, none, none, none, none, none, none, none]) (ds := rngD 0 (i : Int)) (by simp [evIt, evO, evE, evAs, takeA, giveA, ovD, fzR, M.owned, e, i1, i2]) rfl, l1]
end K52
set_option Elab.async false
set_option linter.all false
set_option maxRecDepth 100000
set_option maxHeartbeats 4000000
namespace K52
open PySem PySem.Spec PyProof.Rows L2 IL
variable {fu : Nat}
theorem bars_len : ∀ (k : Nat) (row : List Wr), (bars k row).length ≤ row.length
  | _, [] => Nat.le_refl _
  | k, .bar :: r => by simp only [bars, List.length_cons]; exact Nat.succ_le_succ (bars_len (k + 1) r)
  | k, .wr _ _ :: r => by simp only [bars, List.length_cons]; exact Nat.le_succ_of_le (bars_len (k + 1) r)
theorem bars_lt : ∀ (k : Nat) (row : List Wr), ∀ x ∈ bars k row, x < ((k + row.length : Nat) : Int)
  | _, [] => fun x h => by simp [bars] at h
  | k, .bar :: r => fun x h => by
    simp only [bars, List.mem_cons] at h
    rcases h with rfl | h
    · simp only [List.length_cons]; omega
    · have := bars_lt (k + 1) r x h
      simp only [List.length_cons]; omega
  | k, .wr _ _ :: r => fun x h => by
    simp only [bars] at h
    have := bars_lt (k + 1) r x h
    simp only [List.length_cons]; omega
theorem last_rng (row : List Wr) : -1 ≤ lastB row ∧ lastB row < (row.length : Int) := by
  unfold lastB
  rcases List.eq_nil_or_concat (bars 0 row) with h | ⟨r, y, h⟩
  · rw [h]; simp
    omega
  · have h1 := bars_ge 0 row y (by rw [h]; simp)
    have h2 := bars_lt 0 row y (by rw [h]; simp)
    rw [h]
    simp
    omega
theorem last_set (n : Nat) (row : List Wr) (hl : row.length ≤ 13) (b dk v w : Option M) (hw : w = none ∨ ∃ d, w = some (.val d)) : evS gv (callF gv fns fu (n + 5)) fu [0] s8_4 [b, dk, v, some (.lst (row.map (wD true))), none, none, none, w, none, none, none, none, none] =
    some (.nx [b, dk, v, some (.val (.lst (row.map (wD true)))), some (.val (.int (lastB row))), none, none, w, none, none, none, none, none]) := by
  obtain ⟨R, hR⟩ : ∃ R, R = row.map (wD true) := ⟨_, rfl⟩
  have hb : D.tup [.str (PySem.Str.ofString "barrier")] = wD true .bar := rfl
  obtain ⟨rs, e2, l1, l2, v7, v11, l3⟩ := lcLoop_inv (tg := .tup (.cons (.nm 11) (.cons (.nm 7) .nil))) (own := [11, 7]) (test := evC gv (callF gv fns fu (n + 5)) z8_0) (elt := fun e => fzR (evE gv (callF gv fns fu (n + 5)) y8_0 e))
    (fun done acc env => acc = (bars 0 (row.take done.length)).map D.int ∧ ∃ v7 v11, env = [b, dk, v, some (.val (.lst R)), none, none, none, v7, none, none, none, v11, none]) (R.mapIdx fun i d => .tup [.int (i : Nat), d]) [] [] [b, dk, v, some (.val (.lst R)), none, none, none, w, none, none, none, none, none] (by
      rintro d1 x rest acc env hsp ⟨rfl, v7, v11, rfl⟩
      rw [List.nil_append] at hsp
      obtain ⟨d, h1, rfl⟩ := at_enum R d1 x rest hsp
      rw [hR, List.getElem?_map, Option.map_eq_some_iff] at h1
      obtain ⟨u, hu, rfl⟩ := h1
      have hk : d1.length < row.length := (List.getElem?_eq_some_iff.mp hu).1
      have ht : bars 0 (row.take (d1.length + 1)) = bars 0 (row.take d1.length) ++ bars d1.length [u] := by
        rw [take_snoc hu, bars_app, Nat.zero_add, List.length_take, Nat.min_eq_left (Nat.le_of_lt hk)]
      have heq : cmpF .eq (wD true u) (.tup [.str (PySem.Str.ofString "barrier")]) = some (isBar u) := eq_bar u
      refine ⟨[b, dk, v, some (.val (.lst R)), none, none, none, some (.val (wD true u)), none, none, none, some (.val (.int (d1.length : Nat))), none], by simp [asg, asgs, wipeE], isBar u, [b, dk, v, some (.val (.lst R)), none, none, none, some (.val (wD true u)), none, none, none, some (.val (.int (d1.length : Nat))), none], ?_, ?_⟩
      · simp [z8_0, evC, evE, evO, evEs, ovD, fzR, heq, z1]
      · cases u with
        | bar =>
          rw [if_pos (show isBar Wr.bar = true from rfl)]
          refine ⟨.int (d1.length : Nat), [b, dk, v, some (.val (.lst R)), none, none, none, some (.val (wD true .bar)), none, none, none, some (.val (.int (d1.length : Nat))), none], by simp [y8_0, evE, fzR], ?_, _, _, rfl⟩
          rw [List.length_append, List.length_singleton, ht]
          simp [bars]
        | wr i xs =>
          rw [if_neg (show ¬ isBar (Wr.wr i xs) = true from Bool.false_ne_true)]
          refine ⟨?_, _, _, rfl⟩
          rw [List.length_append, List.length_singleton, ht]
          simp [bars]) ⟨by simp [bars], w, none, rfl⟩
  have hlen : (R.mapIdx fun i d => D.tup [.int (i : Nat), d]).length = row.length := by rw [List.length_mapIdx, hR, List.length_map]
  rw [List.nil_append, List.nil_append, hlen, List.take_length] at l2
  subst l2 l3
  have hx : evE gv (callF gv fns fu (n + 5)) x8_0 [b, dk, v, some (.lst R), none, none, none, w, none, none, none, none, none] = some (.lst ((bars 0 row).map D.int), [b, dk, v, some (.val (.lst R)), none, none, none, w, none, none, none, none, none]) := by
    rw [x8_0, lc_eval (e1 := [b, dk, v, some (.val (.lst R)), none, none, none, w, none, none, none, none, none]) (ds := R.mapIdx fun i d => .tup [.int (i : Nat), d]) (by simp [evIt, evO, evE, fzR]) l1 (by rw [hlen]; omega)]
    rcases hw with rfl | ⟨d, rfl⟩ <;> rfl
  clear l1
  have hz : (bars 0 row).length + 1 ≤ sizeLine := Nat.le_trans (by have := bars_len 0 row; omega) zk
  have hm := max_bars row
  rw [← hR]
  simp [s8_4, evS, evE, evO, evOs, evEs, ovD, ovDs, fzR, hx, binF, hz, hm, stow, z1]
theorem rng_num (a b : Int) : ∃ ks : List Int, rngD a b = ks.map D.int := ⟨(List.range (b - a).toNat).map fun i : Nat => a + (i : Int), by simp [rngD]⟩
theorem some_set (n : Nat) {B : Int} {ds : List D} (h : Bx B ds) (hB : B + 1000 < 2 ^ 30) (row : List Wr) (hl : row.length ≤ 13) (dk v w : Option M) : ∃ (ks : List Int) (ds' : List D), evS gv (callF gv fns fu (n + 5)) fu [0] s8_5 [some (.lst ds), dk, v, some (.val (.lst (row.map (wD true)))), some (.val (.int (lastB row))), none, none, w, none, none, none, none, none] =
    some (.nx [some (.lst ds'), dk, v, some (.val (.lst (row.map (wD true)))), some (.val (.int (lastB row))), some (.val (.lst (ks.map D.int))), none, w, none, none, none, none, none]) ∧ Bx (B + 100) ds' := by
  obtain ⟨R, hR⟩ : ∃ R, R = row.map (wD true) := ⟨_, rfl⟩
  obtain ⟨L, hL⟩ : ∃ L, L = lastB row := ⟨_, rfl⟩
  have hr := last_rng row
  rw [← hL] at hr
  have hRl : R.length = row.length := by rw [hR, List.length_map]
  have hlen : (rngD (L + 1) (R.length : Nat)).length ≤ 13 := by simp [rngD]; omega
  obtain ⟨rs, e2, l1, ks, ds2, v11, l2, l3, l4⟩ := lcLoop_inv (tg := .nm 11) (own := [11]) (test := evC gv (callF gv fns fu (n + 5)) z8_1) (elt := fun e => fzR (evE gv (callF gv fns fu (n + 5)) y8_1 e))
    (fun done acc env => ∃ (ks : List Int) (ds2 : List D) (v11 : Option M), acc = ks.map D.int ∧ env = [some (.lst ds2), dk, v, some (.val (.lst R)), some (.val (.int L)), none, none, w, none, none, none, v11, none] ∧ Bx (B + (done.length : Int)) ds2) (rngD (L + 1) (R.length : Nat)) [] [] [some (.lst ds), dk, v, some (.val (.lst R)), some (.val (.int L)), none, none, w, none, none, none, none, none] (by
      rintro d1 x rest acc env hsp ⟨ks, ds2, v11, rfl, rfl, b2⟩
      have hd : d1.length < 13 := by
        have := congrArg List.length hsp
        rw [List.nil_append, List.length_append, List.length_cons] at this
        omega
      obtain ⟨q, ds3, e3, q1, q2, b3⟩ := take_spec (fu := fu) (n + 4) b2 (by omega) (k := 2) (by omega) (by omega)
      obtain ⟨j, rfl⟩ : ∃ j, x = .int j := by
        have hx : x ∈ rngD (L + 1) (R.length : Nat) := by rw [List.nil_append] at hsp; rw [hsp]; simp
        obtain ⟨ks, hk⟩ := rng_num (L + 1) (R.length : Nat)
        rw [hk, List.mem_map] at hx
        obtain ⟨j, _, rfl⟩ := hx
        exact ⟨j, rfl⟩
      have ec : cmpF .eq (.int q) (.int 0) = some (decide (q = 0)) := by
        by_cases hq : q = 0 <;> simp [cmpF, eqD, toP, SeqAt.shaped, PyData.canLay0, PyData.depth, PyData.eqv, hq]
      refine ⟨[some (.lst ds2), dk, v, some (.val (.lst R)), some (.val (.int L)), none, none, w, none, none, none, some (.val (.int j)), none], by simp [asg, wipeE], decide (q = 0), [some (.lst ds3), dk, v, some (.val (.lst R)), some (.val (.int L)), none, none, w, none, none, none, some (.val (.int j)), none], ?_, ?_⟩
      · simp [z8_1, evC, evE, evO, evAs, takeA, giveA, ovD, fzR, M.owned, e3, ec]
      · split
        · exact ⟨.int j, [some (.lst ds3), dk, v, some (.val (.lst R)), some (.val (.int L)), none, none, w, none, none, none, some (.val (.int j)), none], by simp [y8_1, evE, fzR], ks ++ [j], ds3, _, by simp, rfl, b3.mono (by simp; omega)⟩
        · exact ⟨ks, ds3, _, rfl, rfl, b3.mono (by simp; omega)⟩) ⟨[], ds, none, rfl, rfl, by simpa using h⟩
  rw [List.nil_append] at l2
  subst l2 l3
  rw [List.nil_append] at l4
  have i1 : (-4611686018427387904 : Int) ≤ L + 1 := by omega
  have i2 : L + 1 < 4611686018427387904 := by omega
  have i3 : (-4611686018427387904 : Int) ≤ (R.length : Int) := by omega
  have i4 : (R.length : Int) < 4611686018427387904 := by omega
  have hx : evE gv (callF gv fns fu (n + 5)) x8_1 [some (.lst ds), dk, v, some (.val (.lst R)), some (.val (.int L)), none, none, w, none, none, none, none, none] = some (.lst (ks.map D.int), [some (.lst ds2), dk, v, some (.val (.lst R)), some (.val (.int L)), none, none, w, none, none, none, none, none]) := by
    rw [x8_1, lc_eval (e1 := [some (.lst ds), dk, v, some (.val (.lst R)), some (.val (.int L)), none, none, w, none, none, none, none, none]) (ds := rngD (L + 1) (R.length : Nat)) (by simp [evIt, evO, evOs, evE, ovD, ovDs, fzR, binF, bltF, i1, i2, i3, i4]) l1 (by omega)]
    rfl
  clear l1
  refine ⟨ks, ds2, ?_, l4.mono (by omega)⟩
  rw [← hR, ← hL]
  simp [s8_5, evS, hx, stow]
end K52
set_option Elab.async false
set_option linter.all false
set_option maxRecDepth 100000
set_option maxHeartbeats 4000000
namespace K52
open PySem PySem.Spec PyProof.Rows L2 IL
variable {fu : Nat}
/-- what is due -/
theorem due_made (n : Nat) (P : List (List Int)) (row : List Wr) (ks : List Int) (L : Int) (hw : wOk P.length row) (hl : row.length ≤ 13) (b dk v so v7 be rs v11 v12 : Option M) : ∃ v7' v11' : Option M, evS gv (callF gv fns fu (n + 5)) fu [0] (.for_ (.tup (.cons (.nm 11) (.cons (.nm 7) .nil))) (.enum (.e (.nm 3))) q8_2)
      [b, dk, v, some (.val (.lst (row.map (wD true)))), some (.val (.int L)), so, some (.val (num false ks)), v7, some (.lst (nums P)), be, rs, v11, v12] =
    some (.nx [b, dk, v, some (.val (.lst (row.map (wD true)))), some (.val (.int L)), so, some (.val (num false ks)), v7', some (.lst (nums (app L ks 0 row P))), be, rs, v11', v12]) := by
  obtain ⟨R, hR⟩ : ∃ R, R = row.map (wD true) := ⟨_, rfl⟩
  obtain ⟨Kp, hK⟩ : ∃ Kp, Kp = num false ks := ⟨_, rfl⟩
  have hin : ∀ k : Int, inD (.int k) Kp = some (decide (k ∈ ks)) := fun k => by rw [hK]; exact in_int false k ks
  have cLt : ∀ a b : Int, cmpF .lt (.int a) (.int b) = some (decide (a < b)) := fun _ _ => rfl
  have cIn : ∀ a b : D, cmpF .isin a b = inD a b := fun _ _ => rfl
  have cNe : ∀ u : Wr, cmpF .ne (wD true u) (.tup [.str (PySem.Str.ofString "barrier")]) = some (!isBar u) := fun u => by
    show (eqD _ _).map (!·) = _
    rw [eq_bar]; rfl
  have cB : isBar Wr.bar = true := rfl
  have cW : ∀ i xs, isBar (Wr.wr i xs) = false := fun _ _ => rfl
  obtain ⟨e2, m1, v7', v11', m2⟩ := forLoop_inv (pin := [0]) (tg := .tup (.cons (.nm 11) (.cons (.nm 7) .nil))) (body := evSs gv (callF gv fns fu (n + 5)) fu [0] q8_2)
    (fun done env => ∃ v7 v11, env = [b, dk, v, some (.val (.lst R)), some (.val (.int L)), so, some (.val Kp), v7, some (.lst (nums (app L ks 0 (row.take done.length) P))), be, rs, v11, v12]) (R.mapIdx fun i d => .tup [.int (i : Nat), d]) [] [b, dk, v, some (.val (.lst R)), some (.val (.int L)), so, some (.val Kp), v7, some (.lst (nums P)), be, rs, v11, v12] (by
      rintro d1 x rest env hsp ⟨v7, v11, rfl⟩
      rw [List.nil_append] at hsp
      obtain ⟨d, h1, rfl⟩ := at_enum R d1 x rest hsp
      rw [hR, List.getElem?_map, Option.map_eq_some_iff] at h1
      obtain ⟨u, hu, rfl⟩ := h1
      have hk : d1.length < row.length := (List.getElem?_eq_some_iff.mp hu).1
      have hap : app L ks 0 (row.take (d1.length + 1)) P = stp L ks d1.length u (app L ks 0 (row.take d1.length) P) := by
        rw [take_snoc hu, app_snoc, Nat.zero_add, List.length_take, Nat.min_eq_left (Nat.le_of_lt hk)]
      obtain ⟨Q, hQ⟩ : ∃ Q, Q = app L ks 0 (row.take d1.length) P := ⟨_, rfl⟩
      have hQl : Q.length = P.length := by rw [hQ, app_len]
      refine ⟨[b, dk, v, some (.val (.lst R)), some (.val (.int L)), so, some (.val Kp), some (.val (wD true u)), some (.lst (nums Q)), be, rs, some (.val (.int (d1.length : Nat))), v12], by rw [hQ]; simp [asg, asgs], ?_⟩
      refine ⟨[b, dk, v, some (.val (.lst R)), some (.val (.int L)), so, some (.val Kp), some (.val (wD true u)), some (.lst (nums (stp L ks d1.length u Q))), be, rs, some (.val (.int (d1.length : Nat))), v12], .inl ?_, _, _, by rw [List.length_append, List.length_singleton, hap, hQ]⟩
      cases u with
      | bar => simp [q8_2, evSs, evS, evE, evB, evO, evEs, ovD, fzR, cNe, cB, stp, z1]
      | wr i xs =>
        have hi : i < Q.length := by rw [hQl]; exact (hw _ (List.mem_of_getElem? hu)).1
        have hix : ixN (nums Q).length (i : Int) = some i := by unfold ixN; simp [nums, hi]
        have hset : (nums Q).set i (num true xs) = nums (Q.set i xs) := by simp [nums, List.map_set]
        have a1 : idxF (wD true (.wr i xs)) (.int 1) = some (.int (i : Int)) := rfl
        have a2 : idxF (wD true (.wr i xs)) (.int 2) = some (num true xs) := rfl
        by_cases c1 : ((d1.length : Nat) : Int) < L
        · simp only [stp, c1, true_or, if_true, ← hset]
          simp [q8_2, evSs, evS, evE, evB, evO, evEs, ovD, fzR, a1, a2, cNe, cW, cLt, cIn, c1, hix, z1]
        · by_cases c2 : ((d1.length : Nat) : Int) ∈ ks
          · simp only [stp, c2, or_true, if_true, ← hset]
            simp [q8_2, evSs, evS, evE, evB, evO, evEs, ovD, fzR, a1, a2, cNe, cW, cLt, cIn, c1, hin, c2, hix, z1]
          · simp only [stp, c1, c2, or_self, if_false]
            simp [q8_2, evSs, evS, evE, evB, evO, evEs, ovD, fzR, a1, a2, cNe, cW, cLt, cIn, c1, hin, c2, z1]) ⟨v7, v11, by simp [app]⟩
  have hlen : (R.mapIdx fun i d => D.tup [.int (i : Nat), d]).length = row.length := by rw [List.length_mapIdx, hR, List.length_map]
  rw [List.nil_append, hlen, List.take_length] at m2
  subst m2
  refine ⟨v7', v11', ?_⟩
  rw [← hR, ← hK, for_eval (e1 := [b, dk, v, some (.val (.lst R)), some (.val (.int L)), so, some (.val Kp), v7, some (.lst (nums P)), be, rs, v11, v12]) (ds := R.mapIdx fun i d => .tup [.int (i : Nat), d]) (by simp [evIt, evO, evE, fzR]) rfl, m1]
/-- one set of kept writes -/
theorem kept_ok (n : Nat) (P : List (List Int)) (row : List Wr) (ks : List Int) (hP : P.length = 64) (h9 : ∀ xs ∈ P, xs.length ≤ 9) (hw : wOk 64 row) (hl : row.length ≤ 13) (b v so v7 v8 v9 v10 v11 v12 : Option M) : ∃ v7' v8' v9' v10' v11' v12' : Option M, evSs gv (callF gv fns fu (n + 5)) fu [0] q8_3
      [b, some (.lst (nums P)), v, some (.val (.lst (row.map (wD true)))), some (.val (.int (lastB row))), so, some (.val (num false ks)), v7, v8, v9, v10, v11, v12] =
    some (.nx [b, some (.lst (nums P)), v, some (.val (.lst (row.map (wD true)))), some (.val (.int (lastB row))), so, some (.val (num false ks)), v7', v8', v9', v10', v11', v12']) := by
  have hwP : wOk P.length row := by rw [hP]; exact hw
  obtain ⟨T, hT⟩ : ∃ T, T = nums (app (lastB row) ks 0 row P) := ⟨_, rfl⟩
  obtain ⟨v7', v11', d1⟩ := due_made (fu := fu) n P row ks (lastB row) hwP hl b (some (.lst (nums P))) v so v7 (some (.val (.tup (nums P)))) (some (.val (.tup (row.map (wD true))))) v11 v12
  have s1 := stop_spec (fu := fu) (n + 3) true false P row ks (by omega) (by omega) hwP
  have s2 := stop_spec (fu := fu) (n + 3) false true P row ks (by omega) (by omega) hwP
  have l1 := lists_disk (fu := fu) (n + 2) P h9 (by omega)
  have l2 := lists_row (fu := fu) (n + 1) row 64 hw (by omega)
  have sm := same_list (fu := fu) (n + 1) 2 (by decide) (app (lastB row) ks 0 row P) (app_nine hwP h9) (by rw [app_len]; omega)
  have er : cmpF .ne (.tup (row.map (wD true))) (.tup (row.map (wD true))) = some false := by
    show (eqD _ _).map (!·) = _
    rw [eq_row]; rfl
  rw [← hT] at s1 s2 sm d1
  have e1 : sq true (P.map (num true)) = .tup (nums P) := rfl
  have e2 : sq false (P.map (num false)) = .lst (P.map (num false)) := rfl
  have e3 : bltF .tuple [num false ks] = some (.val (num true ks)) := rfl
  rw [e1] at s1
  rw [e2] at s2
  obtain ⟨R, hR⟩ : ∃ R, R = row.map (wD true) := ⟨_, rfl⟩
  obtain ⟨R2, hR2⟩ : ∃ R, R = row.map (wD false) := ⟨_, rfl⟩
  rw [← hR] at d1 l2 er s1
  rw [← hR2] at l2 s2
  rw [← hR]
  have z2 : 2 ≤ sizeLine := by decide +kernel
  have sm : callF gv fns fu (n + 5) 5 [.val (.lst [.tup T, .tup T]), .val (.lst [.tup T, .tup T])] = some (.val (.bl true), []) := sm
  have hd : evS gv (callF gv fns fu (n + 5)) fu [0] (.par3 8 9 10 true false false (.blt .list (.cons (.s 1) .nil)) (.blt .tuple (.cons (.s 1) .nil)) (.blt .tuple (.cons (.s 3) .nil))) [b, some (.lst (nums P)), v, some (.val (.lst R)), some (.val (.int (lastB row))), so, some (.val (num false ks)), v7, v8, v9, v10, v11, v12] =
      some (.nx [b, some (.lst (nums P)), v, some (.val (.lst R)), some (.val (.int (lastB row))), so, some (.val (num false ks)), v7, some (.lst (nums P)), some (.val (.tup (nums P))), some (.val (.tup R)), v11, v12]) := by
    simp [evS, evE, evO, evOs, ovD, ovDs, bltF, stow]
  have ht : evS gv (callF gv fns fu (n + 5)) fu [0] (.set 12 false (.lst (.cons (.call 1 (.v (.nm 9) (.v (.nm 3) (.v (.nm 6) .nil)))) (.cons (.call 1 (.v (.call 6 (.v (.nm 9) .nil)) (.v (.call 6 (.v (.nm 10) .nil)) (.v (.blt .tuple (.cons (.s 6) .nil)) .nil)))) .nil))))
      [b, some (.lst (nums P)), v, some (.val (.lst R)), some (.val (.int (lastB row))), so, some (.val (num false ks)), v7', some (.lst T), some (.val (.tup (nums P))), some (.val (.tup R)), v11', v12] =
      some (.nx [b, some (.lst (nums P)), v, some (.val (.lst R)), some (.val (.int (lastB row))), so, some (.val (num false ks)), v7', some (.lst T), some (.val (.tup (nums P))), some (.val (.tup R)), v11', some (.val (.lst [.tup T, .tup T]))]) := by
    simp [evS, evE, evO, evOs, evEs, evAs, takeA, giveA, ovD, ovDs, fzR, stow, s1, s2, l1, l2, e3, z2]
  refine ⟨v7', some (.lst T), some (.val (.tup (nums P))), some (.val (.tup R)), v11', some (.val (.lst [.tup T, .tup T])), ?_⟩
  rw [q8_3, ss_cons hd, ss_cons d1, ss_cons ht]
  simp [evSs, evS, evE, evO, evOs, evEs, evB, evAs, takeA, giveA, ovD, ovDs, fzR, bltF, binF, sm, er, z1, z2]
end K52
set_option Elab.async false
set_option linter.all false
set_option maxRecDepth 100000
set_option maxHeartbeats 4000000
namespace K52
open PySem PySem.Spec PyProof.Rows L2 IL
variable {fu : Nat}
def P0 : List (List Int) := List.replicate 64 []
theorem P0_9 : ∀ xs ∈ P0, xs.length ≤ 9 := fun xs hx => by rw [List.eq_of_mem_replicate hx]; simp
theorem bare_eq : (List.replicate 64 [D.tup []]).flatten = nums P0 := by rfl
theorem bare_gl : gv 2 = .tup (nums P0) := by
  show D.tup (List.replicate 64 (D.tup [])) = .tup (nums P0)
  congr 1
theorem bare_set (n : Nat) (b : Option M) : evS gv (callF gv fns fu (n + 5)) fu [0] s8_0 [b, none, none, none, none, none, none, none, none, none, none, none, none] = some (.nx [b, some (.lst (nums P0)), none, none, none, none, none, none, none, none, none, none, none]) := by
  have hz : 64 ≤ sizeLine := by decide +kernel
  have hm : binF .mul (.lst [.tup []]) (.int 64) = some (.lst (nums P0)) := by
    have : binF .mul (.lst [.tup []]) (.int 64) = some (.lst (List.replicate 64 [D.tup []]).flatten) := by simp [binF, hz]
    rw [this, bare_eq]
  simp [s8_0, evS, evE, evO, evEs, ovD, fzR, hm, stow, z1]
/-- the kept sets, one after another -/
theorem all_kept (n : Nat) (P : List (List Int)) (row : List Wr) (ks : List Int) (hP : P.length = 64) (h9 : ∀ xs ∈ P, xs.length ≤ 9) (hw : wOk 64 row) (hl : row.length ≤ 13) (b v w : Option M) : ∃ v6 v7 v8 v9 v10 v11 v12 : Option M, evS gv (callF gv fns fu (n + 5)) fu [0] s8_6
      [b, some (.lst (nums P)), v, some (.val (.lst (row.map (wD true)))), some (.val (.int (lastB row))), some (.val (.lst (ks.map D.int))), none, w, none, none, none, none, none] =
    some (.nx [b, some (.lst (nums P)), v, some (.val (.lst (row.map (wD true)))), some (.val (.int (lastB row))), some (.val (.lst (ks.map D.int))), v6, v7, v8, v9, v10, v11, v12]) := by
  obtain ⟨rs, hrs⟩ := rng_num (lastB row + 1) ((row.length : Nat) : Int)
  have hr := last_rng row
  obtain ⟨L, hL⟩ : ∃ L, L = lastB row := ⟨_, rfl⟩
  have kp := fun (ks : List Int) (b v so v7 v8 v9 v10 v11 v12 : Option M) => kept_ok (fu := fu) n P row ks hP h9 hw hl b v so v7 v8 v9 v10 v11 v12
  rw [← hL] at hrs hr kp
  obtain ⟨R, hR⟩ : ∃ R, R = row.map (wD true) := ⟨_, rfl⟩
  have hRl : R.length = row.length := by rw [hR, List.length_map]
  rw [← hR] at kp
  obtain ⟨e2, m1, v6, v7, v8, v9, v10, v11, v12, m2⟩ := forLoop_inv (pin := [0]) (tg := .nm 6) (body := evSs gv (callF gv fns fu (n + 5)) fu [0] q8_3)
    (fun done env => ∃ v6 v7 v8 v9 v10 v11 v12, env = [b, some (.lst (nums P)), v, some (.val (.lst R)), some (.val (.int L)), some (.val (.lst (ks.map D.int))), v6, v7, v8, v9, v10, v11, v12]) [.lst [], .lst (ks.map D.int), .lst (rs.map D.int)] [] [b, some (.lst (nums P)), v, some (.val (.lst R)), some (.val (.int L)), some (.val (.lst (ks.map D.int))), none, w, none, none, none, none, none] (by
      rintro d1 x rest env hsp ⟨v6, v7, v8, v9, v10, v11, v12, rfl⟩
      obtain ⟨qs, rfl⟩ : ∃ qs, x = num false qs := by
        have hx : x ∈ [D.lst [], .lst (ks.map D.int), .lst (rs.map D.int)] := by rw [List.nil_append] at hsp; rw [hsp]; simp
        simp only [List.mem_cons, List.not_mem_nil, or_false] at hx
        rcases hx with rfl | rfl | rfl
        · exact ⟨[], rfl⟩
        · exact ⟨ks, rfl⟩
        · exact ⟨rs, rfl⟩
      obtain ⟨w7, w8, w9, w10, w11, w12, h⟩ := kp qs b v (some (.val (.lst (ks.map D.int)))) v7 v8 v9 v10 v11 v12
      exact ⟨[b, some (.lst (nums P)), v, some (.val (.lst R)), some (.val (.int L)), some (.val (.lst (ks.map D.int))), some (.val (num false qs)), v7, v8, v9, v10, v11, v12], by simp [asg], _, .inl h, _, _, _, _, _, _, _, rfl⟩) ⟨none, w, none, none, none, none, none, rfl⟩
  subst m2
  refine ⟨v6, v7, v8, v9, v10, v11, v12, ?_⟩
  have i1 : (-4611686018427387904 : Int) ≤ L + 1 := by omega
  have i2 : L + 1 < 4611686018427387904 := by omega
  have i3 : (-4611686018427387904 : Int) ≤ (row.length : Int) := by omega
  have i4 : (row.length : Int) < 4611686018427387904 := by omega
  have i5 : (row.length : Int) - (L + 1) ≤ 1000000 := by omega
  rw [← hR, ← hL, s8_6, for_eval (e1 := [b, some (.lst (nums P)), v, some (.val (.lst R)), some (.val (.int L)), some (.val (.lst (ks.map D.int))), none, w, none, none, none, none, none]) (ds := [.lst [], .lst (ks.map D.int), .lst (rs.map D.int)]) (by simp [evIt, evO, evOs, evE, evEs, ovD, ovDs, fzR, binF, bltF, hRl, i1, i2, i3, i4, i5, hrs, z3]) rfl, m1]
theorem bare_ret (n : Nat) (b v1 v2 v3 v4 v5 v6 v7 v8 v9 v10 v11 v12 : Option M) : evSs gv (callF gv fns fu (n + 5)) fu [0] (.cons s8_7 .nil) [b, v1, v2, v3, v4, v5, v6, v7, v8, v9, v10, v11, v12] = some (.rt (.val (.bl true)) [b, v1, v2, v3, v4, v5, v6, v7, v8, v9, v10, v11, v12]) := by
  have w0 : wOk P0.length [] := fun u hu => by simp at hu
  have w1 : wOk P0.length [Wr.bar] := fun u hu => by rw [List.mem_singleton] at hu; subst hu; trivial
  have s1 : callF gv fns fu (n + 5) 1 [.val (.tup (nums P0)), .val (.lst []), .val (.lst [])] = some (.val (.tup (nums P0)), []) := stop_spec (fu := fu) (n + 3) true false P0 [] [] (by decide) (by decide) w0
  have s2 : callF gv fns fu (n + 5) 1 [.val (.tup (nums P0)), .val (.lst [.tup [.str (PySem.Str.ofString "barrier")]]), .val (.lst [])] = some (.val (.tup (nums P0)), []) := stop_spec (fu := fu) (n + 3) true false P0 [Wr.bar] [] (by decide) (by decide) w1
  have sm : callF gv fns fu (n + 5) 5 [.val (.lst [.tup (nums P0), .tup (nums P0), .tup (nums P0)]), .val (.lst [.tup (nums P0), .tup (nums P0), .tup (nums P0)])] = some (.val (.bl true), []) := same_list (fu := fu) (n + 1) 3 (by decide) P0 P0_9 (by decide)
  have hm : binF .mul (.tup [.tup []]) (.int 64) = some (.val (.tup (nums P0))) := by
    have : binF .mul (.tup [.tup []]) (.int 64) = some (.val (.tup (List.replicate 64 [D.tup []]).flatten)) := by simp [binF]
    rw [this, bare_eq]
  have hm3 : ∀ T : D, binF .mul (.lst [T]) (.int 3) = some (.lst [T, T, T]) := fun T => by simp [binF, z3]
  obtain ⟨T, hT⟩ : ∃ T, T = D.tup (nums P0) := ⟨_, rfl⟩
  have gb := bare_gl
  rw [← hT] at s1 s2 sm hm gb
  simp [s8_7, evSs, evS, evE, evO, evEs, evAs, takeA, giveA, ovD, fzR, gb, s1, s2, sm, hm, hm3, z1, z3]
theorem right_spec (n : Nat) {B : Int} {ds : List D} (h : Bx B ds) (hB : B + 10000 < 2 ^ 30) : ∃ fs, callF gv fns fu (n + 6) 8 [.lst ds] = some (.val (.bl true), fs) ∧ ∃ ds', fs = [.lst ds'] := by
  obtain ⟨P, ds1, v, g1, p1, p2, b1⟩ := disk_drawn (fu := fu) n h (by omega)
  obtain ⟨row, ds2, v', w, g2, hw, r1, r2, b2⟩ := row_drawn (fu := fu) n b1 (by omega) (some (.lst (nums P))) v
  have g3 := last_set (fu := fu) n row r1 (some (.lst ds2)) (some (.lst (nums P))) v' w hw
  obtain ⟨ks, ds3, g4, b3⟩ := some_set (fu := fu) n b2 (by omega) row r1 (some (.lst (nums P))) v' w
  obtain ⟨v6, v7, v8, v9, v10, v11, v12, g5⟩ := all_kept (fu := fu) n P row ks p1 p2 r2 r1 (some (.lst ds3)) v' w
  have g6 := bare_ret (fu := fu) n (some (.lst ds3)) (some (.lst (nums P))) v' (some (.val (.lst (row.map (wD true))))) (some (.val (.int (lastB row)))) (some (.val (.lst (ks.map D.int)))) v6 v7 v8 v9 v10 v11 v12
  have g0 := bare_set (fu := fu) n (some (.lst ds))
  have gr : evS gv (callF gv fns fu (n + 5)) fu [0] s8_2 [some (.lst ds1), some (.lst (nums P)), v, none, none, none, none, none, none, none, none, none, none] = some (.nx [some (.lst ds1), some (.lst (nums P)), v, some (.lst []), none, none, none, none, none, none, none, none, none]) := by
    simp [s8_2, evS, evE, evEs, stow]
  have all : evSs gv (callF gv fns fu (n + 5)) fu [0] b8 [some (.lst ds), none, none, none, none, none, none, none, none, none, none, none, none] = some (.rt (.val (.bl true)) [some (.lst ds3), some (.lst (nums P)), v', some (.val (.lst (row.map (wD true)))), some (.val (.int (lastB row))), some (.val (.lst (ks.map D.int))), v6, v7, v8, v9, v10, v11, v12]) := by
    have g1 : evS gv (callF gv fns fu (n + 5)) fu [0] s8_1 [some (.lst ds), some (.lst (nums P0)), none, none, none, none, none, none, none, none, none, none, none] = _ := g1
    rw [b8, ss_cons g0, ss_cons g1, ss_cons gr, ss_cons g2, ss_cons g3, ss_cons g4, ss_cons g5, g6]
  refine ⟨[.lst ds3], ?_, ds3, rfl⟩
  rw [call_succ (fd := f8) rfl]
  simp [runF, f8, ownedAs, M.owned, startE, pins, all, finals]
theorem law_spec (n : Nat) (ns : List Int) : callF gv fns fu (n + 7) 9 [.val (.scr ns)] = some (.val (.bl true), []) := by
  have hb := fun (k : Int) (h1 : 0 ≤ k) (h2 : k ≤ 4) => box_spec (fu := fu) (n + 5) (ns := ns) (k := k) h1 h2
  obtain ⟨m, hm⟩ : ∃ m : Int, m = 1 + (if (ns.length : Int) < 4 then (ns.length : Int) else 4) := ⟨_, rfl⟩
  have m1 : 0 ≤ m := by rw [hm]; split <;> omega
  have m2 : m ≤ 5 := by rw [hm]; split <;> omega
  have hlen : (rngD 0 m).length ≤ 5 := by simp [rngD]; omega
  obtain ⟨rs, e2, l1, l2, v, l3⟩ := lcLoop_inv (tg := .nm 1) (own := [1]) (test := evC gv (callF gv fns fu (n + 6)) .none) (elt := fun e => fzR (evE gv (callF gv fns fu (n + 6)) y9_0 e))
    (fun done acc env => acc = done.map (fun _ => D.bl true) ∧ ∃ v, env = [some (.val (.scr ns)), v]) (rngD 0 m) [] [] [some (.val (.scr ns)), none] (by
      rintro d1 x rest acc env hsp ⟨rfl, v, rfl⟩
      obtain ⟨i, rfl, hi⟩ : ∃ i : Nat, x = .int (i : Int) ∧ i ≤ 4 := by
        have hx : x ∈ rngD 0 m := by rw [List.nil_append] at hsp; rw [hsp]; simp
        unfold rngD at hx
        rw [List.mem_map] at hx
        obtain ⟨i, hi, rfl⟩ := hx
        rw [List.mem_range] at hi
        exact ⟨i, by simp, by omega⟩
      obtain ⟨ds, e1, b1⟩ := hb (i : Int) (by omega) (by omega)
      obtain ⟨fs, e2, ds', rfl⟩ := right_spec (fu := fu) n b1 (by decide)
      refine ⟨[some (.val (.scr ns)), some (.val (.int (i : Int)))], by simp [asg, wipeE], true, _, rfl, ?_⟩
      rw [if_pos rfl]
      refine ⟨.bl true, [some (.val (.scr ns)), some (.val (.int (i : Int)))], ?_, by simp, _, rfl⟩
      simp [y9_0, evE, evAs, takeA, giveA, fzR, M.owned, e1, e2]) ⟨rfl, none, rfl⟩
  rw [List.nil_append, List.nil_append] at l2
  subst l2 l3
  have i1 : (-4611686018427387904 : Int) ≤ m := by omega
  have i2 : m < 4611686018427387904 := by omega
  have hx : evE gv (callF gv fns fu (n + 6)) x9_0 [some (.val (.scr ns)), none] = some (.lst ((rngD 0 m).map fun _ => .bl true), [some (.val (.scr ns)), none]) := by
    rw [x9_0, lc_eval (e1 := [some (.val (.scr ns)), none]) (ds := rngD 0 m) (by simp [evIt, evO, evOs, evE, ovD, ovDs, fzR, binF, bltF, ← hm, i1, i2]) l1 (by omega)]
    rfl
  have hall : bltF .all [.lst ((rngD 0 m).map fun _ => .bl true)] = some (.val (.bl true)) := by
    have hb := blsOf_true (rngD 0 m)
    simp only [bltF, hb, Option.map_some]
    simp
  rw [call_succ (fd := f9) rfl]
  simp [runF, f9, b9, s9_0, ownedAs, M.owned, startE, pins, evSs, evS, evE, evO, evOs, ovD, ovDs, fzR, hx, hall, finals]
end K52
set_option Elab.async false
set_option linter.all false
set_option maxRecDepth 100000
set_option maxHeartbeats 0
open PySem PySem.W PySem.Calls PyProof.Rows
theorem PySem.Challenge.cw_neededfirst_k52_disks_found_at_a_stop_holds : PySem.Challenge.rw_neededfirst_k52_disks_found_at_a_stop.Holds := by
  w_on; o_law
  refine HandSHeadRun.head_any (r := K52.R) (q := view K52.R.prog [14]) (H := K52.hk) (ob := K52.ob) (M := 400) (loose := K52.names) (d := HandSHeadRun.topDef K52.R.prog 14) (kwd := []) K52.ob_eq
    (by kernel_rfl) (fun s => by kernel_rfl) K52.run (by kernel_rfl) (by kernel_rfl) (by kernel_rfl) (by rfl) (by first | assumption | decide +kernel) (by decide +kernel) ⟨rfl, rfl, rfl, rfl, rfl, by decide +kernel⟩ ?hw ?hc
  case hw => w_witness2
  case hc =>
    refine L2.walk_ofE (l := PySem.Challenge.rw_neededfirst_k52_disks_found_at_a_stop) (n := 63) (k := 7) (x := PySem.Str.ofString "_law_script") (CX := C8.CX0) rfl (by decide) (by kernel_rfl) ⟨rfl, by decide, by decide⟩ ?F (fun _ _ _ _ z => z)
    intro w mg fa h Y G hmg0
    obtain ⟨K, KX, c⟩ := Y
    have hmg : mg (PySem.Str.ofString "law") = some (.ref fa) := by
      have e : (HandSHeadRun.topDef K52.R.prog 14).name = PySem.Str.ofString "law" := by kernel_rfl
      rw [← e]
      exact hmg0
    obtain ⟨fd, sp, hb, hs, hF⟩ := K52.law_end (lv := 6) (fu := 1000) ⟨rfl, by decide, by decide⟩ (fun ns _ => K52.law_spec 0 ns) (P := (PySem.Challenge.rw_neededfirst_k52_disks_found_at_a_stop).prog) (w := w) KX G c hmg
    exact ⟨K, fd, sp, KX, hb, fun H a ns hl _ hS => hs H a ns hl hS, fun base _ _ => hF base⟩
