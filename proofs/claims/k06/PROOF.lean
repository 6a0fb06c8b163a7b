import PyProof.Rows.All
import Wide.All
import OpenK.AllK
import Wide.FinOn
import KE.KStateDown
import HandS.Base
import HandS.Call
import HandS.Ends
import HandS.More
import HandS.Words
import HandS.WordsExc
import HandS.Defaults
import HandS.Head0
import HandS.Head1
import HandS.Head2
import HandS.HeadEnd
import HandS.HeadHook1
import HandS.HeadHook2
import PySem.Challenge.RW_carrynet_k06_whole_nets_side_by_side
import HandS.ForMost
import HandS.Exc
import HandS.TryOnly
import HandS.ExcOwn
import HandS.ExcInit
import HandS.TupAny
import HandS.TupMul
import HandS.Wide
import HandS.Walk
import HandS.IsInst
import HandS.Zip
import HandS.FStr
import PyProof.ReprRoads
import HandS.Small
import HandS.TupLe
import HandS.Deep
import HandS.Conv
import KE.GoesEnum
import KE.GoesMore
import HandS.Star
set_option Elab.async false
set_option linter.all false
set_option maxRecDepth 100000
set_option maxHeartbeats 0
set_option autoImplicit false
/-! D values: data trees; refs to cells of a store for what is shared and changed; own slots for what is fresh and changed in place. The evaluator's monad. -/
namespace DL
open PySem

inductive D where
  | non | bl (b : Bool) | int (i : Int) | str (x : Str)
  | tup (xs : List D) | lst (xs : List D) | dic (ks : List L2.Key) (vs : List D)
  | ref (n : Nat) | ty (n : String) | glo (x : Str)
  | ins (c : Str) (ks : List Str) (vs : List D)
  | scr (ns : List Int)

/-- what a slot of a frame holds: nothing, a value, a fresh object of the frame's own -/
inductive Slot where
  | un | val (d : D) | own (d : D)
/-- what an expression gives: a value, a fresh object that nobody holds, or what a slot holds -/
inductive R where
  | val (d : D) | own (d : D) | slot (i : Nat)
structure DS where
  env : List Slot
  sto : List D
inductive Out (α : Type) where
  | ok (a : α) (s : DS)
  | exn (x : D) (s : DS)
  | bad
abbrev M (α : Type) := DS → Out α
def M.pure {α : Type} (a : α) : M α := fun s => .ok a s
def M.bind {α β : Type} (f : M α) (g : α → M β) : M β := fun s => match f s with
  | .ok a s' => g a s'
  | .exn x s' => .exn x s'
  | .bad => .bad
instance : Monad M where
  pure := M.pure
  bind := M.bind
def M.bad {α : Type} : M α := fun _ => .bad
def M.get : M DS := fun s => .ok s s
def M.setSlot (i : Nat) (x : Slot) : M Unit := fun s => .ok () { s with env := s.env.set i x }
def M.ofOpt {α : Type} (o : Option α) : M α := match o with
  | some a => M.pure a
  | none => M.bad

theorem pure_run {α : Type} (a : α) (s : DS) : (Pure.pure a : M α) s = .ok a s := rfl
theorem bind_run {α β : Type} (f : M α) (g : α → M β) (s : DS) : (f >>= g) s = (match f s with | .ok a s' => g a s' | .exn x s' => .exn x s' | .bad => .bad) := rfl
theorem bind_ok {α β : Type} {f : M α} {g : α → M β} {s s' : DS} {a : α} (h : f s = .ok a s') : (f >>= g) s = g a s' := by rw [bind_run, h]

/-- the value that an expression gives, held from now on by others too -/
def R.toD (r : R) : M D := match r with
  | .val d => M.pure d
  | .own d => M.pure d
  | .slot i => fun s => match s.env[i]? with
    | some (.val d) => .ok d s
    | some (.own d) => .ok d { s with env := s.env.set i (.val d) }
    | _ => .bad
/-- what it holds now, for an operation that only reads -/
def R.look (r : R) : M D := match r with
  | .val (.ref n) => fun s => match s.sto[n]? with
    | some d => .ok d s
    | none => .bad
  | .val d => M.pure d
  | .own d => M.pure d
  | .slot i => fun s => match s.env[i]? with
    | some (.val (.ref n)) => (match s.sto[n]? with
      | some d => .ok d s
      | none => .bad)
    | some (.val d) => .ok d s
    | some (.own d) => .ok d s
    | _ => .bad
end DL

/-! How D values, slots and the store lie in the abstract heap. -/
namespace DL
open PySem L2

/-- what is known of the text: the written part, the module's names -/
structure GD where
  K : PySem.W.Frag
  mg : Str → Option Value
/-- what has become fixed (lists and dicts that nobody changes any more), and where the cells lie -/
structure WD where
  fz : Addr → Prop
  mu : List Addr

/-- a list among the text's own objects -/
def KList (K : PySem.W.Frag) (a : Addr) (xs : List V) : Prop := ∃ (o : Obj) (its : Array Value) (n : Nat), K.lookup a = some o ∧ o.cls = .type "list" ∧ o.dict = none ∧ o.data = .seq its n ∧ its.size ≤ sizeLine ∧ Vals xs its.toList
mutual
def RepD (G : GD) (W : WD) (H : Hp) : D → V → Prop
  | .non, v => v = .non
  | .bl b, v => v = .bl b
  | .int i, v => v = .int i
  | .str x, v => v = .str x
  | .tup ds, v => ∃ p vs, v = .ref p ∧ H p = some (.tup vs) ∧ RepDs G W H ds vs
  | .lst ds, v => ∃ p vs, v = .ref p ∧ W.fz p ∧ Rd H p (.lst vs) ∧ RepDs G W H ds vs
  | .dic ks ds, v => ∃ p kvs, v = .ref p ∧ W.fz p ∧ Rd H p (.dK kvs) ∧ kvs.map (·.1) = ks ∧ RepDs G W H ds (kvs.map (·.2))
  | .ref n, v => ∃ a, v = .ref a ∧ W.mu[n]? = some a
  | .ty n, v => v = .ty n
  | .glo x, v => ∃ a, v = .ref a ∧ G.mg x = some (.ref a)
  | .ins _ _ _, _ => False
  | .scr ns, v => ∃ p, v = .ref p ∧ ((W.fz p ∧ Rd H p (.lst (ns.map V.int))) ∨ KList G.K p (ns.map V.int))
def RepDs (G : GD) (W : WD) (H : Hp) : List D → List V → Prop
  | [], vs => vs = []
  | d :: ds, vs => ∃ v r, vs = v :: r ∧ RepD G W H d v ∧ RepDs G W H ds r
end
/-- an object that may be changed, as it stands -/
def RepC (G : GD) (W : WD) (H : Hp) : D → Addr → Prop
  | .lst ds, p => ∃ vs, H p = some (.lst vs) ∧ RepDs G W H ds vs
  | .dic ks ds, p => ∃ kvs, H p = some (.dK kvs) ∧ kvs.map (·.1) = ks ∧ RepDs G W H ds (kvs.map (·.2))
  | .ins c ks ds, p => ∃ C dx fs, H p = some (.ins C dx fs) ∧ G.mg c = some (.ref C) ∧ fs.map (·.1) = ks ∧ RepDs G W H ds (fs.map (·.2))
  | _, _ => False

/-- what stands stays: all that a D value leans on -/
structure Stay (W : WD) (H : Hp) (W' : WD) (H' : Hp) : Prop where
  fz : ∀ p, W.fz p → W'.fz p
  mu : ∀ (n : Nat) (a : Addr), W.mu[n]? = some a → W'.mu[n]? = some a
  kp : ∀ p o, H p = some o → (W.fz p ∨ ∃ xs, o = .tup xs) → H' p = some o
theorem Stay.refl (W : WD) (H : Hp) : Stay W H W H := ⟨fun _ h => h, fun _ _ h => h, fun _ _ h _ => h⟩
theorem Stay.trans {W W1 W2 : WD} {H H1 H2 : Hp} (a : Stay W H W1 H1) (b : Stay W1 H1 W2 H2) : Stay W H W2 H2 :=
  ⟨fun p h => b.fz p (a.fz p h), fun n x h => b.mu n x (a.mu n x h), fun p o h c => b.kp p o (a.kp p o h c) (c.elim (fun z => .inl (a.fz p z)) .inr)⟩
theorem Stay.rd {W W' : WD} {H H' : Hp} {p : Addr} {o : HO} (s : Stay W H W' H') (f : W.fz p) (h : Rd H p o) : Rd H' p o := by
  rcases h with h | ⟨u, h⟩
  · exact .inl (s.kp p _ h (.inl f))
  · exact .inr ⟨u, s.kp p _ h (.inl f)⟩

section
variable {G : GD} {W W' : WD} {H H' : Hp}
mutual
theorem RepD.stay (s : Stay W H W' H') : ∀ {d : D} {v : V}, RepD G W H d v → RepD G W' H' d v
  | .non, _, h => h
  | .bl _, _, h => h
  | .int _, _, h => h
  | .str _, _, h => h
  | .tup ds, v, h => by
    obtain ⟨p, vs, e, hp, r⟩ := (by simpa only [RepD] using h : ∃ p vs, v = .ref p ∧ H p = some (.tup vs) ∧ RepDs G W H ds vs)
    simp only [RepD]
    exact ⟨p, vs, e, s.kp p _ hp (.inr ⟨vs, rfl⟩), RepDs.stay s r⟩
  | .lst ds, v, h => by
    obtain ⟨p, vs, e, f, hp, r⟩ := (by simpa only [RepD] using h : ∃ p vs, v = .ref p ∧ W.fz p ∧ Rd H p (.lst vs) ∧ RepDs G W H ds vs)
    simp only [RepD]
    exact ⟨p, vs, e, s.fz p f, s.rd f hp, RepDs.stay s r⟩
  | .dic ks ds, v, h => by
    obtain ⟨p, kvs, e, f, hp, hk, r⟩ := (by simpa only [RepD] using h : ∃ p kvs, v = .ref p ∧ W.fz p ∧ Rd H p (.dK kvs) ∧ kvs.map (·.1) = ks ∧ RepDs G W H ds (kvs.map (·.2)))
    simp only [RepD]
    exact ⟨p, kvs, e, s.fz p f, s.rd f hp, hk, RepDs.stay s r⟩
  | .ref n, v, h => by
    obtain ⟨a, e, q⟩ := (by simpa only [RepD] using h : ∃ a, v = .ref a ∧ W.mu[n]? = some a)
    simp only [RepD]
    exact ⟨a, e, s.mu n a q⟩
  | .ty _, _, h => h
  | .glo _, _, h => h
  | .ins _ _ _, _, h => h
  | .scr ns, v, h => by
    obtain ⟨p, e, q⟩ := (by simpa only [RepD] using h : ∃ p, v = .ref p ∧ ((W.fz p ∧ Rd H p (.lst (ns.map V.int))) ∨ KList G.K p (ns.map V.int)))
    simp only [RepD]
    exact ⟨p, e, q.elim (fun ⟨f, r⟩ => .inl ⟨s.fz p f, s.rd f r⟩) .inr⟩
theorem RepDs.stay (s : Stay W H W' H') : ∀ {ds : List D} {vs : List V}, RepDs G W H ds vs → RepDs G W' H' ds vs
  | [], _, h => h
  | d :: ds, vs, h => by
    obtain ⟨v, r, e, h1, h2⟩ := (by simpa only [RepDs] using h : ∃ v r, vs = v :: r ∧ RepD G W H d v ∧ RepDs G W H ds r)
    simp only [RepDs]
    exact ⟨v, r, e, RepD.stay s h1, RepDs.stay s h2⟩
end
/-- an object that may be changed stands where it is kept -/
theorem RepC.stay (s : Stay W H W' H') {d : D} {p : Addr} (k : ∀ o, H p = some o → H' p = some o) (h : RepC G W H d p) : RepC G W' H' d p := by
  cases d with
  | lst ds => obtain ⟨vs, a, b⟩ := h; exact ⟨vs, k _ a, b.stay s⟩
  | dic ks ds => obtain ⟨kvs, a, b, c⟩ := h; exact ⟨kvs, k _ a, b, c.stay s⟩
  | ins c ks ds => obtain ⟨C, dx, fs, a, b, e, f⟩ := h; exact ⟨C, dx, fs, k _ a, b, e, f.stay s⟩
  | _ => exact h.elim
theorem RepC.some {d : D} {p : Addr} (h : RepC G W H d p) : ∃ o, H p = some o ∧ Mut (some o) ∧ ∀ xs, o ≠ .tup xs := by
  cases d with
  | lst ds => obtain ⟨vs, a, b⟩ := h; exact ⟨_, a, trivial, fun _ e => by cases e⟩
  | dic ks ds => obtain ⟨kvs, a, b, c⟩ := h; exact ⟨_, a, trivial, fun _ e => by cases e⟩
  | ins c ks ds => obtain ⟨C, dx, fs, a, b, e, f⟩ := h; exact ⟨_, a, trivial, fun _ e => by cases e⟩
  | _ => exact h.elim
/-- it becomes fixed -/
theorem RepC.fixed {d : D} {p : Addr} (h : RepC G W H d p) (f : W.fz p) (hi : ∀ c ks ds, d ≠ .ins c ks ds) : RepD G W H d (.ref p) := by
  cases d with
  | lst ds => obtain ⟨vs, a, b⟩ := h; exact ⟨p, vs, rfl, f, .inl a, b⟩
  | dic ks ds => obtain ⟨kvs, a, b, c⟩ := h; exact ⟨p, kvs, rfl, f, .inl a, b, c⟩
  | ins c ks ds => exact absurd rfl (hi c ks ds)
  | _ => exact h.elim
theorem RepDs.length : ∀ {ds : List D} {vs : List V}, RepDs G W H ds vs → ds.length = vs.length
  | [], _, h => by have e : _ = [] := h; subst e; rfl
  | d :: ds, vs, h => by
    obtain ⟨v, r, e, h1, h2⟩ := (by simpa only [RepDs] using h : ∃ v r, vs = v :: r ∧ RepD G W H d v ∧ RepDs G W H ds r)
    subst e
    simp [RepDs.length h2]
theorem RepDs.get : ∀ {ds : List D} {vs : List V} {i : Nat} {d : D}, RepDs G W H ds vs → ds[i]? = some d → ∃ v, vs[i]? = some v ∧ RepD G W H d v
  | [], _, _, _, _, e => by simp at e
  | d :: ds, vs, i, x, h, e => by
    obtain ⟨v, r, e1, h1, h2⟩ := (by simpa only [RepDs] using h : ∃ v r, vs = v :: r ∧ RepD G W H d v ∧ RepDs G W H ds r)
    subst e1
    cases i with
    | zero => simp at e; subst e; exact ⟨v, rfl, h1⟩
    | succ i => obtain ⟨u, a, b⟩ := RepDs.get (i := i) h2 (by simpa using e); exact ⟨u, by simpa using a, b⟩
theorem RepDs.nil : RepDs G W H [] [] := rfl
theorem RepDs.cons {d : D} {v : V} {ds : List D} {vs : List V} (h : RepD G W H d v) (r : RepDs G W H ds vs) : RepDs G W H (d :: ds) (v :: vs) := ⟨v, vs, rfl, h, r⟩
theorem RepDs.uncons {d : D} {ds : List D} {vs : List V} (h : RepDs G W H (d :: ds) vs) : ∃ v r, vs = v :: r ∧ RepD G W H d v ∧ RepDs G W H ds r := by simpa only [RepDs] using h
theorem RepDs.append : ∀ {a b : List D} {x y : List V}, RepDs G W H a x → RepDs G W H b y → RepDs G W H (a ++ b) (x ++ y)
  | [], _, _, _, h, h' => by have e : _ = [] := h; subst e; exact h'
  | d :: ds, b, x, y, h, h' => by
    obtain ⟨v, r, e, h1, h2⟩ := h.uncons
    subst e
    exact .cons h1 (RepDs.append h2 h')
theorem RepDs.drop : ∀ {a : List D} {x : List V} (n : Nat), RepDs G W H a x → RepDs G W H (a.drop n) (x.drop n)
  | _, _, 0, h => h
  | [], _, n + 1, h => by have e : _ = [] := h; subst e; exact h
  | d :: ds, x, n + 1, h => by
    obtain ⟨v, r, e, h1, h2⟩ := h.uncons
    subst e
    exact RepDs.drop n h2
theorem RepDs.take : ∀ {a : List D} {x : List V} (n : Nat), RepDs G W H a x → RepDs G W H (a.take n) (x.take n)
  | _, _, 0, h => rfl
  | [], _, n + 1, h => by have e : _ = [] := h; subst e; rfl
  | d :: ds, x, n + 1, h => by
    obtain ⟨v, r, e, h1, h2⟩ := h.uncons
    subst e
    exact .cons h1 (RepDs.take n h2)
theorem RepDs.set {y : D} {u : V} (hy : RepD G W H y u) : ∀ {a : List D} {x : List V} (n : Nat), RepDs G W H a x → RepDs G W H (a.set n y) (x.set n u)
  | [], _, n, h => by have e : _ = [] := h; subst e; exact h
  | d :: ds, x, 0, h => by
    obtain ⟨v, r, e, h1, h2⟩ := h.uncons
    subst e
    exact .cons hy h2
  | d :: ds, x, n + 1, h => by
    obtain ⟨v, r, e, h1, h2⟩ := h.uncons
    subst e
    exact .cons h1 (RepDs.set hy n h2)
theorem RepDs.eraseIdx : ∀ {a : List D} {x : List V} (n : Nat), RepDs G W H a x → RepDs G W H (a.eraseIdx n) (x.eraseIdx n)
  | [], _, n, h => by have e : _ = [] := h; subst e; exact h
  | d :: ds, x, 0, h => by
    obtain ⟨v, r, e, h1, h2⟩ := h.uncons
    subst e
    exact h2
  | d :: ds, x, n + 1, h => by
    obtain ⟨v, r, e, h1, h2⟩ := h.uncons
    subst e
    exact .cons h1 (RepDs.eraseIdx n h2)
theorem RepDs.reverse : ∀ {a : List D} {x : List V}, RepDs G W H a x → RepDs G W H a.reverse x.reverse
  | [], _, h => by have e : _ = [] := h; subst e; exact h
  | d :: ds, x, h => by
    obtain ⟨v, r, e, h1, h2⟩ := h.uncons
    subst e
    rw [List.reverse_cons, List.reverse_cons]
    exact .append h2.reverse (.cons h1 .nil)
theorem RepDs.ints : ∀ ns : List Int, RepDs G W H (ns.map D.int) (ns.map V.int)
  | [] => rfl
  | n :: ns => .cons rfl (RepDs.ints ns)
theorem RepDs.ints_inv : ∀ {ns : List Int} {vs : List V}, RepDs G W H (ns.map D.int) vs → vs = ns.map V.int
  | [], vs, h => h
  | n :: ns, vs, h => by
    obtain ⟨v, r, e, h1, h2⟩ := RepDs.uncons (d := D.int n) (ds := ns.map D.int) h
    have e1 : v = V.int n := h1
    rw [e, e1, RepDs.ints_inv h2]; rfl
theorem RepDs.replicate {d : D} {v : V} (h : RepD G W H d v) : ∀ n : Nat, RepDs G W H (List.replicate n d) (List.replicate n v)
  | 0 => rfl
  | n + 1 => .cons h (RepDs.replicate h n)
theorem RepDs.flat {a : List D} {x : List V} (h : RepDs G W H a x) : ∀ n : Nat, RepDs G W H (List.replicate n a).flatten (List.replicate n x).flatten
  | 0 => rfl
  | n + 1 => by
    rw [List.replicate_succ, List.replicate_succ, List.flatten_cons, List.flatten_cons]
    exact h.append (RepDs.flat h n)
end

/-! ### the state -/
/-- slot i's own object lies at p -/
def OwnAt (env : List Slot) (σ : L2.St) (p : Addr) : Prop := ∃ (i : Nat) (d : D), env[i]? = some (.own d) ∧ σ[i]? = some (some (.ref p))
structure Rep (G : GD) (W : WD) (s : DS) (σ : L2.St) (H : Hp) : Prop where
  len : s.env.length = σ.length
  val : ∀ (i : Nat) (d : D), s.env[i]? = some (.val d) → ∃ v, σ[i]? = some (some v) ∧ RepD G W H d v
  own : ∀ (i : Nat) (d : D), s.env[i]? = some (.own d) → ∃ p, σ[i]? = some (some (.ref p)) ∧ RepC G W H d p ∧ ¬ W.fz p ∧ p ∉ W.mu ∧ ∀ c ks ds, d ≠ .ins c ks ds
  sep : ∀ (i j : Nat) (d e : D) (p : Addr), s.env[i]? = some (.own d) → s.env[j]? = some (.own e) → σ[i]? = some (some (.ref p)) → σ[j]? = some (some (.ref p)) → i = j
  slen : s.sto.length = W.mu.length
  sto : ∀ (n : Nat) (d : D) (a : Addr), s.sto[n]? = some d → W.mu[n]? = some a → RepC G W H d a ∧ ¬ W.fz a
  nod : W.mu.Nodup
  fzd : ∀ p, W.fz p → H p ≠ none ∧ ∀ xs, H p ≠ some (.tup xs)

/-- a step of the program: O may be changed or become fixed ahead of it, O' behind it -/
structure Step (O : Addr → Prop) (W : WD) (H : Hp) (O' : Addr → Prop) (W' : WD) (H' : Hp) : Prop where
  fz : ∀ p, W.fz p → W'.fz p
  mu : ∀ (n : Nat) (a : Addr), W.mu[n]? = some a → W'.mu[n]? = some a
  kp : ∀ p o, H p = some o → p ∉ W.mu → ¬ O p → H' p = some o
  dom : ∀ p, H' p = none → H p = none
  nfz : ∀ p, W'.fz p → W.fz p ∨ H p = none ∨ O p
  nmu : ∀ p, p ∈ W'.mu → p ∈ W.mu ∨ H p = none ∨ O p
  nown : ∀ p, O' p → O p ∨ H p = none
theorem Step.refl {O : Addr → Prop} {W : WD} {H : Hp} : Step O W H O W H := ⟨fun _ h => h, fun _ _ h => h, fun _ _ h _ _ => h, fun _ h => h, fun _ h => .inl h, fun _ h => .inl h, fun _ h => .inl h⟩
theorem Step.trans {O O1 O2 : Addr → Prop} {W W1 W2 : WD} {H H1 H2 : Hp} (a : Step O W H O1 W1 H1) (b : Step O1 W1 H1 O2 W2 H2) : Step O W H O2 W2 H2 where
  fz := fun p h => b.fz p (a.fz p h)
  mu := fun n x h => b.mu n x (a.mu n x h)
  kp := fun p o h h1 h2 => by
    have h0 : H p ≠ none := by rw [h]; exact fun z => by cases z
    refine b.kp p o (a.kp p o h h1 h2) (fun z => ?_) fun z => ?_
    · rcases a.nmu p z with q | q | q
      · exact h1 q
      · exact h0 q
      · exact h2 q
    · rcases a.nown p z with q | q
      · exact h2 q
      · exact h0 q
  dom := fun p h => a.dom p (b.dom p h)
  nfz := fun p h => by
    rcases b.nfz p h with q | q | q
    · exact a.nfz p q
    · exact .inr (.inl (a.dom p q))
    · rcases a.nown p q with z | z
      · exact .inr (.inr z)
      · exact .inr (.inl z)
  nmu := fun p h => by
    rcases b.nmu p h with q | q | q
    · exact a.nmu p q
    · exact .inr (.inl (a.dom p q))
    · rcases a.nown p q with z | z
      · exact .inr (.inr z)
      · exact .inr (.inl z)
  nown := fun p h => by
    rcases b.nown p h with q | q
    · exact a.nown p q
    · exact .inr (a.dom p q)
theorem Step.weak {O O1 O' O2 : Addr → Prop} {W W' : WD} {H H' : Hp} (a : Step O W H O' W' H') (h1 : ∀ p, O p → O1 p ∨ H p = none) (h2 : ∀ p, O2 p → O1 p ∨ O' p ∨ H p = none) (h3 : ∀ p, H p ≠ none → O p → O1 p) : Step O1 W H O2 W' H' where
  fz := a.fz
  mu := a.mu
  kp := fun p o h m n => a.kp p o h m fun z => n (h3 p (by rw [h]; exact fun q => by cases q) z)
  dom := a.dom
  nfz := fun p h => by
    rcases a.nfz p h with q | q | q
    · exact .inl q
    · exact .inr (.inl q)
    · rcases h1 p q with z | z
      · exact .inr (.inr z)
      · exact .inr (.inl z)
  nmu := fun p h => by
    rcases a.nmu p h with q | q | q
    · exact .inl q
    · exact .inr (.inl q)
    · rcases h1 p q with z | z
      · exact .inr (.inr z)
      · exact .inr (.inl z)
  nown := fun p h => by
    rcases h2 p h with q | q | q
    · exact .inl q
    · rcases a.nown p q with z | z
      · rcases h1 p z with y | y
        · exact .inl y
        · exact .inr y
      · exact .inr z
    · exact .inr q
section
variable {G : GD} {W W' : WD} {H H' : Hp} {s : DS} {σ : L2.St} {O O' : Addr → Prop}
/-- nothing that may be changed is fixed, or a tuple -/
structure Apart (W : WD) (H : Hp) (O : Addr → Prop) : Prop where
  mf : ∀ p, p ∈ W.mu → ¬ W.fz p ∧ ∀ xs, H p ≠ some (.tup xs)
  of : ∀ p, O p → ¬ W.fz p ∧ (∀ xs, H p ≠ some (.tup xs)) ∧ p ∉ W.mu
theorem Step.stay (a : Step O W H O' W' H') (x : Apart W H O) : Stay W H W' H' := by
  refine ⟨a.fz, a.mu, fun p o h c => a.kp p o h (fun m => ?_) fun m => ?_⟩
  · rcases c with c | ⟨xs, rfl⟩
    · exact (x.mf p m).1 c
    · exact (x.mf p m).2 xs h
  · rcases c with c | ⟨xs, rfl⟩
    · exact (x.of p m).1 c
    · exact (x.of p m).2.1 xs h
theorem Rep.apart (r : Rep G W s σ H) : Apart W H (OwnAt s.env σ) := by
  refine ⟨fun p hp => ?_, fun p ⟨i, d, h1, h2⟩ => ?_⟩
  · obtain ⟨n, hn⟩ := List.mem_iff_getElem?.mp hp
    have hl : n < s.sto.length := by rw [r.slen]; exact (List.getElem?_eq_some_iff.mp hn).1
    obtain ⟨c, nf⟩ := r.sto n _ p (List.getElem?_eq_getElem hl) hn
    obtain ⟨o, ho, _, nt⟩ := c.some
    exact ⟨nf, fun xs e => by rw [ho] at e; cases e; exact nt xs rfl⟩
  · obtain ⟨q, e, c, nf, nm, _⟩ := r.own i d h1
    rw [h2] at e; cases e
    obtain ⟨o, ho, _, nt⟩ := c.some
    exact ⟨nf, fun xs e => by rw [ho] at e; cases e; exact nt xs rfl, nm⟩
theorem Rep.muSome (r : Rep G W s σ H) {p : Addr} (h : p ∈ W.mu) : H p ≠ none := by
  obtain ⟨n, hn⟩ := List.mem_iff_getElem?.mp h
  have hl : n < s.sto.length := by rw [r.slen]; exact (List.getElem?_eq_some_iff.mp hn).1
  obtain ⟨c, nf⟩ := r.sto n _ p (List.getElem?_eq_getElem hl) hn
  obtain ⟨o, ho, _, nt⟩ := c.some
  rw [ho]; exact fun z => by cases z
theorem Rep.ownSome (r : Rep G W s σ H) {p : Addr} (h : OwnAt s.env σ p) : H p ≠ none := by
  obtain ⟨i, d, h1, h2⟩ := h
  obtain ⟨q, e, c, nf, nm, _⟩ := r.own i d h1
  rw [h2] at e; cases e
  obtain ⟨o, ho, _, nt⟩ := c.some
  rw [ho]; exact fun z => by cases z
end
end DL

/-! What is wanted behind a run of the evaluator; the readings T. -/
namespace DL
open PySem L2

/-- how what an expression gives lies -/
def RepR (G : GD) (W : WD) (s : DS) (σ : L2.St) (H : Hp) : R → V → Prop
  | .val d, v => RepD G W H d v
  | .own d, v => ∃ p, v = .ref p ∧ RepC G W H d p ∧ ¬ W.fz p ∧ p ∉ W.mu ∧ ¬ OwnAt s.env σ p ∧ ∀ c ks ds, d ≠ .ins c ks ds
  | .slot i, v => σ[i]? = some (some v)
def OwnedBy : R → V → Addr → Prop
  | .own _, v, p => v = .ref p
  | _, _, _ => False
/-- an exception of the program: its class, its own dict -/
def RepX (G : GD) (W : WD) (H : Hp) : D → Value → Option Addr → Prop
  | .ins c ks ds, cls, d => ∃ C a fs, cls = .ref C ∧ G.mg c = some (.ref C) ∧ d = some a ∧ H a = some (.xd fs) ∧ fs.map (·.1) = ks ∧ RepDs G W H ds (fs.map (·.2))
  | _, _, _ => False

def PostX (G : GD) (X : WX) (O : Addr → Prop) (W : WD) (H : Hp) (x : D) (s' : DS) : Prop :=
  ∀ W' σ' H' c d, Step O W H (OwnAt s'.env σ') W' H' → Rep G W' s' σ' H' → RepX G W' H' x c d → X c d σ' H'
def PostE (G : GD) (X : WX) (O : Addr → Prop) (W : WD) (H : Hp) (σ : L2.St) (out : Out R) (Q : VK) : Prop :=
  match out with
  | .ok r s' => ∀ W' H' v, Step O W H (OwnAt s'.env σ) W' H' → Rep G W' s' σ H' → RepR G W' s' σ H' r v → (∀ p, OwnedBy r v p → O p ∨ H p = none) → Q v H'
  | .exn x s' => PostX G X O W H x s'
  | .bad => False
/-- an expression's reading, by the evaluator -/
def TR (G : GD) (X : WX) (f : M R) : TE := fun σ H Q => ∃ W s, Rep G W s σ H ∧ PostE G X (OwnAt s.env σ) W H σ (f s) Q

section
variable {G : GD} {X : WX} {W W' W1 : WD} {H H' H1 : Hp} {σ : L2.St} {s s1 : DS} {O O0 O1 : Addr → Prop} {Q Q' : VK}
theorem Step.subO {O' O2 : Addr → Prop} (a : Step O W H O' W' H') (h : ∀ p, O2 p → O p ∨ O' p ∨ H p = none) : Step O W H O2 W' H' :=
  ⟨a.fz, a.mu, a.kp, a.dom, a.nfz, a.nmu, fun p z => by
    rcases h p z with q | q | q
    · exact .inl q
    · exact a.nown p q
    · exact .inr q⟩
theorem Step.bigO {O' : Addr → Prop} (a : Step O0 W H O' W' H') (h : ∀ p, O0 p → O p) : Step O W H O' W' H' :=
  ⟨a.fz, a.mu, fun p o e m n => a.kp p o e m fun z => n (h p z), a.dom, fun p z => (a.nfz p z).elim .inl fun q => .inr (q.elim .inl fun y => .inr (h p y)),
    fun p z => (a.nmu p z).elim .inl fun q => .inr (q.elim .inl fun y => .inr (h p y)), fun p z => (a.nown p z).elim (fun y => .inl (h p y)) .inr⟩
theorem PostE.mono {out : Out R} (h : PostE G X O W H σ out Q) (m : ∀ v H', Q v H' → Q' v H') : PostE G X O W H σ out Q' := by
  cases out with
  | ok r s' => exact fun W' H' v a b c d => m v H' (h W' H' v a b c d)
  | exn x s' => exact h
  | bad => exact h
/-- an earlier step ahead of it -/
theorem PostE.after {out : Out R} {O0' : Addr → Prop} (h : PostE G X O W H σ out Q) (st : Step O W H O1 W1 H1) : PostE G X O1 W1 H1 σ out Q := by
  cases out with
  | ok r s' =>
    refine fun W' H' v a b c d => h W' H' v (st.trans a) b c fun p z => ?_
    rcases d p z with q | q
    · exact st.nown p q
    · exact .inr (st.dom p q)
  | exn x s' => exact fun W' σ' H' c d a b e => h W' σ' H' c d (st.trans a) b e
  | bad => exact h
/-- THE STEP: first f, then g -/
theorem PostE.bind {f : M R} {g : R → M R} (h : PostE G X O W H σ ((f >>= g) s) Q) (hO : ∀ p, O0 p → O p) :
    PostE G X O0 W H σ (f s) (fun v H1 => ∃ W1 s1 r, f s = .ok r s1 ∧ Step O0 W H (OwnAt s1.env σ) W1 H1 ∧ Rep G W1 s1 σ H1 ∧ RepR G W1 s1 σ H1 r v ∧ (∀ p, OwnedBy r v p → O0 p ∨ H p = none) ∧
      PostE G X (fun p => OwnAt s1.env σ p ∨ OwnedBy r v p ∨ O p) W1 H1 σ (g r s1) Q) := by
  rw [bind_run] at h
  cases e : f s with
  | ok r s' =>
    rw [e] at h
    refine fun W' H' v a b c d => ⟨W', s', r, rfl, a, b, c, d, ?_⟩
    have h2 : PostE G X O W H σ (g r s') Q := h
    refine h2.after (O0' := O) ((a.bigO hO).subO fun p z => ?_)
    rcases z with z | z | z
    · exact .inr (.inl z)
    · rcases d p z with q | q
      · exact .inl (hO p q)
      · exact .inr (.inr q)
    · exact .inl z
  | exn x s' =>
    rw [e] at h
    exact fun W' σ' H' c d a b e => h W' σ' H' c d (a.bigO hO) b e
  | bad =>
    rw [e] at h
    exact h
/-- what was given before a step is given behind it -/
theorem RepR.step {r : R} {v : V} {s0 : DS} (rp : Rep G W s0 σ H) (st : Step (OwnAt s0.env σ) W H (OwnAt s1.env σ) W1 H1) (r1 : Rep G W1 s1 σ H1) (h : RepR G W s0 σ H r v) : RepR G W1 s1 σ H1 r v := by
  have sy := st.stay rp.apart
  cases r with
  | val d => exact RepD.stay sy h
  | own d =>
    obtain ⟨p, e, c, nf, nm, no, ni⟩ := h
    obtain ⟨o, ho, _, _⟩ := c.some
    have hn : H p ≠ none := by rw [ho]; exact fun z => by cases z
    refine ⟨p, e, c.stay sy fun o h => st.kp p o h nm no, fun z => ?_, fun z => ?_, fun z => ?_, ni⟩
    · rcases st.nfz p z with q | q | q
      · exact nf q
      · exact hn q
      · exact no q
    · rcases st.nmu p z with q | q | q
      · exact nm q
      · exact hn q
      · exact no q
    · rcases st.nown p z with q | q
      · exact no q
      · exact hn q
  | slot i => exact h
end
end DL

/-! Reading, fixing, new objects. -/
namespace DL
open PySem L2

/-- what an operation finds: a value, or an object that may be changed -/
def RepL (G : GD) (W : WD) (H : Hp) (d : D) (v : V) : Prop := RepD G W H d v ∨ ∃ p, v = .ref p ∧ RepC G W H d p

section
variable {G : GD} {X : WX} {W W' W1 : WD} {H H' H1 : Hp} {σ : L2.St} {s s1 : DS} {O O0 O1 : Addr → Prop} {Q Q' : VK} {r : R} {v : V} {d : D}

theorem RepL.lst {ds : List D} (h : RepL G W H (.lst ds) v) : ∃ p vs, v = .ref p ∧ Rd H p (.lst vs) ∧ RepDs G W H ds vs := by
  rcases h with h | ⟨p, e, vs, a, b⟩
  · obtain ⟨p, vs, e, f, a, b⟩ := h; exact ⟨p, vs, e, a, b⟩
  · exact ⟨p, vs, e, .inl a, b⟩
theorem RepL.scr {ns : List Int} {K : PySem.W.Frag} (eK : G.K = K) (h : RepL G W H (.scr ns) v) : ∃ p, v = .ref p ∧ SqL K H p (ns.map V.int) := by
  rcases h with h | ⟨p, e, z⟩
  · obtain ⟨p, e, q⟩ := h; subst eK; exact ⟨p, e, q.elim (fun z => .inl z.2) .inr⟩
  · exact z.elim
theorem RepL.dic {ks : List Key} {ds : List D} (h : RepL G W H (.dic ks ds) v) : ∃ p kvs, v = .ref p ∧ Rd H p (.dK kvs) ∧ kvs.map (·.1) = ks ∧ RepDs G W H ds (kvs.map (·.2)) := by
  rcases h with h | ⟨p, e, vs, a, b⟩
  · obtain ⟨p, vs, e, f, a, b⟩ := h; exact ⟨p, vs, e, a, b⟩
  · exact ⟨p, vs, e, .inl a, b⟩
theorem RepL.tup {ds : List D} (h : RepL G W H (.tup ds) v) : ∃ p vs, v = .ref p ∧ H p = some (.tup vs) ∧ RepDs G W H ds vs := by
  rcases h with h | ⟨p, e, z⟩
  · exact h
  · exact z.elim
theorem RepL.int {i : Int} (h : RepL G W H (.int i) v) : v = .int i := h.elim id fun ⟨_, _, z⟩ => z.elim
theorem RepL.str {i : Str} (h : RepL G W H (.str i) v) : v = .str i := h.elim id fun ⟨_, _, z⟩ => z.elim
theorem RepL.bl {i : Bool} (h : RepL G W H (.bl i) v) : v = .bl i := h.elim id fun ⟨_, _, z⟩ => z.elim
theorem RepL.non (h : RepL G W H .non v) : v = .non := h.elim id fun ⟨_, _, z⟩ => z.elim

theorem look_ok (rp : Rep G W s σ H) (h : RepR G W s σ H r v) (e : r.look s = .ok d s1) : s1 = s ∧ RepL G W H d v := by
  have cell : ∀ {n : Nat}, RepD G W H (.ref n) v → (match s.sto[n]? with | some d => Out.ok d s | none => .bad) = Out.ok d s1 → s1 = s ∧ RepL G W H d v := fun {n} h e => by
    obtain ⟨a, e1, e2⟩ := h
    cases q : s.sto[n]? with
    | none => rw [q] at e; cases e
    | some c =>
      rw [q] at e
      cases e
      exact ⟨rfl, .inr ⟨a, e1, (rp.sto n _ a q e2).1⟩⟩
  cases r with
  | val x =>
    cases x with
    | ref n => exact cell h e
    | _ => cases e; exact ⟨rfl, .inl h⟩
  | own x =>
    obtain ⟨p, e1, c, _⟩ := h
    cases e
    exact ⟨rfl, .inr ⟨p, e1, c⟩⟩
  | slot i =>
    have hs : σ[i]? = some (some v) := h
    have e0 : (match s.env[i]? with
      | some (.val (.ref n)) => (match s.sto[n]? with
        | some d => Out.ok d s
        | none => .bad)
      | some (.val d) => .ok d s
      | some (.own d) => .ok d s
      | _ => .bad) = Out.ok d s1 := e
    cases q : s.env[i]? with
    | none => rw [q] at e0; cases e0
    | some x =>
      rw [q] at e0
      cases x with
      | un => cases e0
      | own y =>
        cases e0
        obtain ⟨p, e1, c, _⟩ := rp.own i _ q
        rw [hs] at e1; cases e1
        exact ⟨rfl, .inr ⟨p, rfl, c⟩⟩
      | val y =>
        obtain ⟨u, e1, c⟩ := rp.val i _ q
        rw [hs] at e1; cases e1
        cases y with
        | ref n => exact cell c e0
        | _ => cases e0; exact ⟨rfl, .inl c⟩

/-- all that was tracked stands -/
def Grow (H H' : Hp) : Prop := ∀ p o, H p = some o → H' p = some o
theorem Grow.refl : Grow H H := fun _ _ h => h
theorem Grow.new {p : Addr} {o : HO} (h : H p = none) : Grow H (upd H p o) := fun q u e => by rw [upd_ne (ne_of_none e h)]; exact e
theorem Grow.step (g : Grow H H') (h : ∀ p, O1 p → O p ∨ H p = none) : Step O W H O1 W H' :=
  ⟨fun _ h => h, fun _ _ h => h, fun p o e _ _ => g p o e, fun p e => (by
    cases q : H p with
    | none => rfl
    | some o => rw [g p o q] at e; cases e), fun _ h => .inl h, fun _ h => .inl h, h⟩
theorem Grow.stay (g : Grow H H') : Stay W H W H' := ⟨fun _ h => h, fun _ _ h => h, fun p o e _ => g p o e⟩
theorem Rep.grow (rp : Rep G W s σ H) (g : Grow H H') : Rep G W s σ H' where
  len := rp.len
  val := fun i d e => let ⟨v, a, b⟩ := rp.val i d e; ⟨v, a, b.stay g.stay⟩
  own := fun i d e => let ⟨p, a, b, c⟩ := rp.own i d e; ⟨p, a, b.stay g.stay (g p), c⟩
  sep := rp.sep
  slen := rp.slen
  sto := fun n d a e1 e2 => let ⟨c, f⟩ := rp.sto n d a e1 e2; ⟨c.stay g.stay (g a), f⟩
  nod := rp.nod
  fzd := fun p f => by
    obtain ⟨h1, h2⟩ := rp.fzd p f
    cases q : H p with
    | none => exact absurd q h1
    | some o =>
      rw [g p o q]
      exact ⟨fun z => (by cases z), fun xs z => h2 xs (by rw [q]; exact z)⟩

/-- a value as it stands -/
theorem PostE.val (h : PostE G X O W H σ (.ok (.val d) s) Q) (rp : Rep G W s σ H) (hO : ∀ p, OwnAt s.env σ p → O p) (r : RepD G W H d v) : Q v H :=
  h W H v (Step.refl.subO fun p z => .inl (hO p z)) rp r fun p z => z.elim
/-- a new tuple -/
theorem PostE.tup {ds : List D} {vs : List V} (h : PostE G X O W H σ (.ok (.val (.tup ds)) s) Q) (rp : Rep G W s σ H) (hO : ∀ p, OwnAt s.env σ p → O p) (r : RepDs G W H ds vs) : ∀ p, H p = none → Q (.ref p) (upd H p (.tup vs)) := fun p hp =>
  h W _ _ ((Grow.new hp).step fun p z => .inl (hO p z)) (rp.grow (Grow.new hp)) ⟨p, vs, rfl, upd_same, r.stay (Grow.new hp).stay⟩ fun p z => z.elim
theorem Rep.newNot (rp : Rep G W s σ H) {p : Addr} (hp : H p = none) : ¬ W.fz p ∧ p ∉ W.mu ∧ ¬ OwnAt s.env σ p :=
  ⟨fun z => (rp.fzd p z).1 hp, fun z => rp.muSome z hp, fun z => rp.ownSome z hp⟩
/-- a new list -/
theorem PostE.lst {ds : List D} {vs : List V} (h : PostE G X O W H σ (.ok (.own (.lst ds)) s) Q) (rp : Rep G W s σ H) (hO : ∀ p, OwnAt s.env σ p → O p) (r : RepDs G W H ds vs) : ∀ p, H p = none → Q (.ref p) (upd H p (.lst vs)) := fun p hp =>
  h W _ _ ((Grow.new hp).step fun p z => .inl (hO p z)) (rp.grow (Grow.new hp))
    ⟨p, rfl, ⟨vs, upd_same, r.stay (Grow.new hp).stay⟩, (rp.newNot hp).1, (rp.newNot hp).2.1, (rp.newNot hp).2.2, fun _ _ _ z => by cases z⟩ fun q z => by
      have z' : V.ref p = V.ref q := z
      cases z'; exact .inr hp
/-- a new dict -/
theorem PostE.dic {ks : List Key} {ds : List D} {kvs : List (Key × V)} (h : PostE G X O W H σ (.ok (.own (.dic ks ds)) s) Q) (rp : Rep G W s σ H) (hO : ∀ p, OwnAt s.env σ p → O p) (hk : kvs.map (·.1) = ks) (r : RepDs G W H ds (kvs.map (·.2))) :
    ∀ p, H p = none → Q (.ref p) (upd H p (.dK kvs)) := fun p hp =>
  h W _ _ ((Grow.new hp).step fun p z => .inl (hO p z)) (rp.grow (Grow.new hp))
    ⟨p, rfl, ⟨kvs, upd_same, hk, r.stay (Grow.new hp).stay⟩, (rp.newNot hp).1, (rp.newNot hp).2.1, (rp.newNot hp).2.2, fun _ _ _ z => by cases z⟩ fun q z => by
      have z' : V.ref p = V.ref q := z
      cases z'; exact .inr hp

/-- p becomes fixed -/
def WD.fix (W : WD) (p : Addr) : WD := ⟨fun q => W.fz q ∨ q = p, W.mu⟩
theorem Stay.fix {p : Addr} : Stay W H (W.fix p) H := ⟨fun _ h => .inl h, fun _ _ h => h, fun _ _ h _ => h⟩
theorem Rep.fix {p : Addr} (rp : Rep G W s σ H) (hn : H p ≠ none) (ht : ∀ xs, H p ≠ some (.tup xs)) (hm : p ∉ W.mu) (ho : ¬ OwnAt s.env σ p) : Rep G (W.fix p) s σ H where
  len := rp.len
  val := fun i d e => let ⟨v, a, b⟩ := rp.val i d e; ⟨v, a, b.stay Stay.fix⟩
  own := fun i d e => let ⟨q, a, b, c, m⟩ := rp.own i d e; ⟨q, a, b.stay Stay.fix (fun _ h => h), fun z => by
    rcases z with z | z
    · exact c z
    · exact ho ⟨i, d, e, by rw [a, z]⟩, m⟩
  sep := rp.sep
  slen := rp.slen
  sto := fun n d a e1 e2 => let ⟨c, f⟩ := rp.sto n d a e1 e2; ⟨c.stay Stay.fix (fun _ h => h), fun z => by
    rcases z with z | z
    · exact f z
    · exact hm (z ▸ List.mem_of_getElem? e2)⟩
  nod := rp.nod
  fzd := fun q f => by
    rcases f with f | f
    · exact rp.fzd q f
    · subst f; exact ⟨hn, ht⟩
theorem Step.fix {p : Addr} (h : O p) (h1 : ∀ q, O1 q → O q ∨ H q = none) : Step O W H O1 (W.fix p) H :=
  ⟨fun _ h => .inl h, fun _ _ h => h, fun _ _ h _ _ => h, fun _ h => h, fun q z => by
    rcases z with z | z
    · exact .inl z
    · subst z; exact .inr (.inr h), fun _ h => .inl h, h1⟩
theorem own_set {env : List Slot} {i : Nat} {d : D} {p : Addr} (h : OwnAt (env.set i (.val d)) σ p) : OwnAt env σ p ∧ ∀ x, σ[i]? = some (some (.ref x)) → (∀ (j k : Nat) (d e : D) (p : Addr), env[j]? = some (.own d) → env[k]? = some (.own e) → σ[j]? = some (some (.ref p)) → σ[k]? = some (some (.ref p)) → j = k) → (∃ e, env[i]? = some (.own e)) → x ≠ p := by
  obtain ⟨j, e, h1, h2⟩ := h
  by_cases hj : i = j
  · subst hj
    by_cases hl : i < env.length
    · rw [List.getElem?_set_self hl] at h1; cases h1
    · rw [List.getElem?_eq_none (by simpa using hl)] at h1; cases h1
  · rw [List.getElem?_set_ne hj] at h1
    refine ⟨⟨j, e, h1, h2⟩, fun x hx sep ⟨e', he⟩ z => ?_⟩
    subst z
    exact hj (sep i j e' e x he h1 hx h2)
/-- a value that others may hold from now on -/
theorem toD_ok (rp : Rep G W s σ H) (h : RepR G W s σ H r v) (e : r.toD s = .ok d s1) (hO : ∀ p, OwnAt s.env σ p → O p) (hB : ∀ p, OwnedBy r v p → O p) :
    ∃ W1, Step O W H (OwnAt s1.env σ) W1 H ∧ Rep G W1 s1 σ H ∧ RepD G W1 H d v ∧ s1.sto = s.sto := by
  cases r with
  | val x => cases e; exact ⟨W, Step.refl.subO fun p z => .inl (hO p z), rp, h, rfl⟩
  | own x =>
    cases e
    obtain ⟨p, e1, c, nf, nm, no, ni⟩ := h
    obtain ⟨o, ho, _, nt⟩ := c.some
    have hn : H p ≠ none := by rw [ho]; exact fun z => by cases z
    refine ⟨W.fix p, Step.fix (hB p e1) fun q z => .inl (hO q z), rp.fix hn (fun xs z => by rw [ho] at z; cases z; exact nt xs rfl) nm no, ?_, rfl⟩
    rw [e1]
    exact (c.stay Stay.fix fun _ h => h).fixed (.inr rfl) ni
  | slot i =>
    have hs : σ[i]? = some (some v) := h
    have e0 : (match s.env[i]? with
      | some (.val d) => Out.ok d s
      | some (.own d) => .ok d { s with env := s.env.set i (.val d) }
      | _ => .bad) = Out.ok d s1 := e
    cases q : s.env[i]? with
    | none => rw [q] at e0; cases e0
    | some x =>
      rw [q] at e0
      cases x with
      | un => cases e0
      | val y =>
        obtain ⟨u, e1, c⟩ := rp.val i _ q
        rw [hs] at e1; cases e1
        cases e0
        exact ⟨W, Step.refl.subO fun p z => .inl (hO p z), rp, c, rfl⟩
      | own y =>
        obtain ⟨p, e1, c, nf, nm, ni⟩ := rp.own i _ q
        rw [hs] at e1; cases e1
        cases e0
        obtain ⟨o, ho, _, nt⟩ := c.some
        have hn : H p ≠ none := by rw [ho]; exact fun z => by cases z
        have hil : i < s.env.length := (List.getElem?_eq_some_iff.mp q).1
        have hfix : RepD G (W.fix p) H d (.ref p) := (c.stay Stay.fix fun _ h => h).fixed (.inr rfl) ni
        refine ⟨W.fix p, Step.fix (hO p ⟨i, d, q, hs⟩) fun q' z => .inl (hO q' (own_set z).1), ?_, hfix, rfl⟩
        -- the slot holds the fixed value
        refine ⟨by rw [List.length_set]; exact rp.len, fun j x hj => ?_, fun j x hj => ?_, fun j k x y pp h1 h2 h3 h4 => ?_, rp.slen, fun n x a e1 e2 => ?_, rp.nod, fun q' f => ?_⟩
        · by_cases hij : i = j
          · subst hij
            rw [List.getElem?_set_self hil] at hj
            cases hj
            exact ⟨_, hs, hfix⟩
          · rw [List.getElem?_set_ne hij] at hj
            obtain ⟨u, a, b⟩ := rp.val j x hj
            exact ⟨u, a, b.stay Stay.fix⟩
        · by_cases hij : i = j
          · subst hij
            rw [List.getElem?_set_self hil] at hj
            cases hj
          · rw [List.getElem?_set_ne hij] at hj
            obtain ⟨q2, a, b, c2, m⟩ := rp.own j x hj
            refine ⟨q2, a, b.stay Stay.fix (fun _ h => h), fun z => ?_, m⟩
            rcases z with z | z
            · exact c2 z
            · subst z; exact hij (rp.sep i j d x q2 q hj hs a)
        · by_cases hij : i = j
          · subst hij; rw [List.getElem?_set_self hil] at h1; cases h1
          · by_cases hik : i = k
            · subst hik; rw [List.getElem?_set_self hil] at h2; cases h2
            · rw [List.getElem?_set_ne hij] at h1
              rw [List.getElem?_set_ne hik] at h2
              exact rp.sep j k x y pp h1 h2 h3 h4
        · obtain ⟨c2, f⟩ := rp.sto n x a e1 e2
          refine ⟨c2.stay Stay.fix (fun _ h => h), fun z => ?_⟩
          rcases z with z | z
          · exact f z
          · exact nm (z ▸ List.mem_of_getElem? e2)
        · rcases f with f | f
          · exact rp.fzd q' f
          · subst f; exact ⟨hn, fun xs z => by rw [ho] at z; cases z; exact nt xs rfl⟩
end
end DL

/-! Two-place operations: the evaluator's, and that the machine's do the same. -/
namespace DL
open PySem L2 PyProof.Rows

def OpS (G : GD) (X : WX) (r : R2) (f : R → R → M R) : Prop :=
  ∀ (W : WD) (s : DS) (σ : L2.St) (H : Hp) (x y : V) (ra rb : R) (O : Addr → Prop) (Q : VK), Rep G W s σ H → RepR G W s σ H ra x → RepR G W s σ H rb y →
    (∀ p, OwnAt s.env σ p → O p) → (∀ p, OwnedBy ra x p → O p) → (∀ p, OwnedBy rb y p → O p) → PostE G X O W H σ (f ra rb s) Q → r x y H Q
def UnS (G : GD) (X : WX) (r : V → Hp → VK → Prop) (f : R → M R) : Prop :=
  ∀ (W : WD) (s : DS) (σ : L2.St) (H : Hp) (x : V) (ra : R) (O : Addr → Prop) (Q : VK), Rep G W s σ H → RepR G W s σ H ra x →
    (∀ p, OwnAt s.env σ p → O p) → (∀ p, OwnedBy ra x p → O p) → PostE G X O W H σ (f ra s) Q → r x H Q
def rd1 (g : D → M R) (a : R) : M R := fun s => match a.look s with
  | .ok x s' => g x s'
  | .exn x s' => .exn x s'
  | .bad => .bad
def rd2 (g : D → D → M R) (a b : R) : M R := fun s => match a.look s with
  | .ok x s' => (match b.look s' with
    | .ok y s'' => g x y s''
    | .exn x s' => .exn x s'
    | .bad => .bad)
  | .exn x s' => .exn x s'
  | .bad => .bad
/-- the same of what is found -/
def OpL (G : GD) (X : WX) (r : R2) (g : D → D → M R) : Prop :=
  ∀ (W : WD) (s : DS) (σ : L2.St) (H : Hp) (x y : V) (a b : D) (O : Addr → Prop) (Q : VK), Rep G W s σ H → RepL G W H a x → RepL G W H b y → (∀ p, OwnAt s.env σ p → O p) → PostE G X O W H σ (g a b s) Q → r x y H Q
def UnL (G : GD) (X : WX) (r : V → Hp → VK → Prop) (g : D → M R) : Prop :=
  ∀ (W : WD) (s : DS) (σ : L2.St) (H : Hp) (x : V) (a : D) (O : Addr → Prop) (Q : VK), Rep G W s σ H → RepL G W H a x → (∀ p, OwnAt s.env σ p → O p) → PostE G X O W H σ (g a s) Q → r x H Q
theorem R.look_exn {r : R} {s s1 : DS} {x : D} (e : r.look s = .exn x s1) : False := by
  cases r with
  | val d =>
    cases d with
    | ref n =>
      have e0 : (match s.sto[n]? with | some d => Out.ok d s | none => .bad) = Out.exn x s1 := e
      cases q : s.sto[n]? with
      | none => rw [q] at e0; cases e0
      | some c => rw [q] at e0; cases e0
    | _ => cases e
  | own d => cases e
  | slot i =>
    have e0 : (match s.env[i]? with
      | some (.val (.ref n)) => (match s.sto[n]? with
        | some d => Out.ok d s
        | none => .bad)
      | some (.val d) => .ok d s
      | some (.own d) => .ok d s
      | _ => .bad) = Out.exn x s1 := e
    cases q : s.env[i]? with
    | none => rw [q] at e0; cases e0
    | some y =>
      rw [q] at e0
      cases y with
      | un => cases e0
      | own z => cases e0
      | val z =>
        cases z with
        | ref n =>
          have e1 : (match s.sto[n]? with | some d => Out.ok d s | none => .bad) = Out.exn x s1 := e0
          cases q2 : s.sto[n]? with
          | none => rw [q2] at e1; cases e1
          | some c => rw [q2] at e1; cases e1
        | _ => cases e0
section
variable {G : GD} {X : WX} {W : WD} {H : Hp} {σ : L2.St} {s : DS} {O : Addr → Prop} {Q : VK}
theorem OpL.op {r : R2} {g : D → D → M R} (h : OpL G X r g) : OpS G X r (rd2 g) := by
  intro W s σ H x y ra rb O Q rp ha hb hO _ _ hp
  unfold rd2 at hp
  cases ea : ra.look s with
  | bad => rw [ea] at hp; exact hp.elim
  | exn z s1 => exact (R.look_exn ea).elim
  | ok a s1 =>
    rw [ea] at hp
    obtain ⟨e1, la⟩ := look_ok rp ha ea
    subst e1
    cases eb : rb.look s1 with
    | bad => simp only [eb] at hp; exact hp.elim
    | exn z s2 => exact (R.look_exn eb).elim
    | ok b s2 =>
      simp only [eb] at hp
      obtain ⟨e2, lb⟩ := look_ok rp hb eb
      subst e2
      exact h W _ σ H x y a b O Q rp la lb hO hp
theorem UnL.un {r : V → Hp → VK → Prop} {g : D → M R} (h : UnL G X r g) : UnS G X r (rd1 g) := by
  intro W s σ H x ra O Q rp ha hO _ hp
  unfold rd1 at hp
  cases ea : ra.look s with
  | bad => rw [ea] at hp; exact hp.elim
  | exn z s1 => exact (R.look_exn ea).elim
  | ok a s1 =>
    rw [ea] at hp
    obtain ⟨e1, la⟩ := look_ok rp ha ea
    subst e1
    exact h W _ σ H x a O Q rp la hO hp

/-- two expressions, then an operation -/
theorem TR.two {r : R2} {f : R → R → M R} {fa fb : M R} (hs : OpS G X r f) (h : TR G X (fa >>= fun x => fb >>= fun y => f x y) σ H Q) : TR G X fa σ H fun x H1 => TR G X fb σ H1 fun y H2 => r x y H2 Q := by
  obtain ⟨W, s, rp, hp⟩ := h
  refine ⟨W, s, rp, (hp.bind (O0 := OwnAt s.env σ) fun _ z => z).mono ?_⟩
  rintro x H1 ⟨W1, s1, ra, e1, st1, rp1, hra, o1, hp1⟩
  refine ⟨W1, s1, rp1, (hp1.bind (O0 := OwnAt s1.env σ) fun _ z => .inl z).mono ?_⟩
  rintro y H2 ⟨W2, s2, rb, e2, st2, rp2, hrb, o2, hp2⟩
  refine hs W2 s2 σ H2 x y ra rb _ Q rp2 (hra.step rp1 st2 rp2) hrb (fun p z => .inl z) (fun p z => ?_) (fun p z => .inr (.inl z)) hp2
  exact .inr (.inr (.inr (.inl z)))
/-- one, then an operation -/
theorem TR.one {r : V → Hp → VK → Prop} {f : R → M R} {fa : M R} (hs : UnS G X r f) (h : TR G X (fa >>= fun x => f x) σ H Q) : TR G X fa σ H fun x H1 => r x H1 Q := by
  obtain ⟨W, s, rp, hp⟩ := h
  refine ⟨W, s, rp, (hp.bind (O0 := OwnAt s.env σ) fun _ z => z).mono ?_⟩
  rintro x H1 ⟨W1, s1, ra, e1, st1, rp1, hra, o1, hp1⟩
  exact hs W1 s1 σ H1 x ra _ Q rp1 hra (fun p z => .inl z) (fun p z => .inr (.inl z)) hp1
end
theorem _root_.L2.PE.imp {Xc : Cx} {e : Expr} {t t' : TE} (h : PE Xc e t) (w : ∀ σ H Q, t' σ H Q → t σ H Q) : PE Xc e t' := ⟨fun pins s σ H Q I q => h.run pins s σ H Q I (w σ H Q q)⟩
theorem _root_.L2.PT.imp {Xc : Cx} {e : Expr} {t t' : TT} (h : PT Xc e t) (w : ∀ σ H Q, t' σ H Q → t σ H Q) : PT Xc e t' := ⟨fun pins s σ H Q I q => h.run pins s σ H Q I (w σ H Q q)⟩
theorem _root_.L2.PS.imp {Xc : Cx} {e : Stmt} {t t' : TS} (h : PS Xc e t) (w : ∀ D σ H, t' D σ H → t D σ H) : PS Xc e t' := ⟨fun pins s σ H D I q => h.run pins s σ H D I (w D σ H q)⟩
theorem _root_.L2.PSs.imp {Xc : Cx} {e : List Stmt} {t t' : TS} (h : PSs Xc e t) (w : ∀ D σ H, t' D σ H → t D σ H) : PSs Xc e t' := ⟨fun pins s σ H D I q => h.run pins s σ H D I (w D σ H q)⟩

section
variable {G : GD} {X : WX} {Xc : Cx} {a b : Expr} {fa fb : M R} {pos : Pos}
theorem je_op {op : Operator} {r : R2} {f : R → R → M R} (ho : OpR Xc (binaryOp op) r) (hs : OpS G X r f) (ha : PE Xc a (TR G X fa)) (hb : PE Xc b (TR G X fb)) : PE Xc (.BinOp a op b pos) (TR G X (fa >>= fun x => fb >>= fun y => f x y)) :=
  (pe_op ho ha hb).imp fun _ _ _ h => h.two hs
theorem je_cmp {op : CmpOp} {r : R2} {f : R → R → M R} (ho : OpR Xc (compareOp op) r) (hs : OpS G X r f) (ha : PE Xc a (TR G X fa)) (hb : PE Xc b (TR G X fb)) (hm : behindInMarks op b = false) : PE Xc (.Compare a [op] [b] pos) (TR G X (fa >>= fun x => fb >>= fun y => f x y)) :=
  (pe_cmpR ho ha hb hm).imp fun _ _ _ h => h.two hs
theorem je_un {op : UnaryOp} {r : V → Hp → VK → Prop} {f : R → M R} (ho : UnR Xc (unaryOp op) r) (hs : UnS G X r f) (ha : PE Xc a (TR G X fa)) : PE Xc (.UnaryOp op a pos) (TR G X (fa >>= fun x => f x)) :=
  (pe_un ho ha).imp fun _ _ _ h => h.one hs
end

/-! ### + -/
def lim : Nat := 1000000
theorem lim_le {n : Nat} (h : n ≤ lim) : n ≤ sizeLine := Nat.le_trans h (by decide)
theorem lim_lt {n : Nat} (h : n < lim) : n < sizeLine := Nat.lt_of_lt_of_le h (by decide)
def addD : D → D → M R
  | .int i, .int j => M.pure (.val (.int (i + j)))
  | .str x, .str y => if x.length + y.length ≤ lim then M.pure (.val (.str (x ++ y))) else M.bad
  | .tup x, .tup y => if x.length + y.length ≤ lim then M.pure (.val (.tup (x ++ y))) else M.bad
  | .lst x, .lst y => if x.length + y.length ≤ lim then M.pure (.own (.lst (x ++ y))) else M.bad
  | _, _ => M.bad
def rCatR : R2 := fun x y H Q => ∃ l b xs zs, x = .ref l ∧ y = .ref b ∧ Rd H l (.lst xs) ∧ Rd H b (.lst zs) ∧ xs.length + zs.length ≤ sizeLine ∧ ∀ p, H p = none → Q (.ref p) (upd H p (.lst (xs ++ zs)))
theorem op_catR {Xc : Cx} : OpR Xc (binaryOp .Add) rCatR := by
  intro pins s σ H x y v u Q I rx ry ⟨l, b, xs, zs, ex, ey, hl, hb, hz, q⟩
  subst ex ey
  cases rx
  cases ry
  obtain ⟨z1, i1, n1, r1, g1⟩ := hl.ok I.hok
  obtain ⟨z2, i2, n2, r2, g2⟩ := hb.ok I.hok
  have l1 := r1.length
  have l2 := r2.length
  refine PySem.P.add_list g1 g2 ?_ (by rw [List.size_toArray, List.size_toArray]; omega)
  rw [show i1.toArray ++ i2.toArray = (i1 ++ i2).toArray by simp]
  exact ⟨.ref _, _, I.lnew (t' := s.toks) (r1.append r2) (by rw [List.length_append]; omega), rfl, q _ I.fresh⟩
def rStrA : R2 := fun x y H Q => ∃ i j, x = .str i ∧ y = .str j ∧ i.length + j.length ≤ sizeLine ∧ Q (.str (i ++ j)) H
def rAddA (K : PySem.W.Frag) : R2 := fun x y H Q => (rI0 (fun i j => .int (i + j)) x y H Q ∨ rStrA x y H Q) ∨ (rCatA K x y H Q ∨ rCatR x y H Q)
theorem op_addA {Xc : Cx} : OpR Xc (binaryOp .Add) (rAddA Xc.K) := (op_add.or op_add_str).or (op_catA.or op_catR)
theorem ol_add {G : GD} {X : WX} : OpL G X (rAddA G.K) addD := by
  intro W s σ H x y a b O Q rp la lb hO hp
  cases a with
  | int i =>
    cases b with
    | int j =>
      have e1 := la.int; have e2 := lb.int; subst e1 e2
      exact .inl (.inl ⟨i, j, rfl, rfl, PostE.val hp rp hO rfl⟩)
    | _ => exact hp.elim
  | str i =>
    cases b with
    | str j =>
      have e1 := la.str; have e2 := lb.str; subst e1 e2
      unfold addD at hp
      by_cases c : i.length + j.length ≤ lim
      · simp only [if_pos c] at hp
        exact .inl (.inr ⟨i, j, rfl, rfl, lim_le c, PostE.val hp rp hO rfl⟩)
      · simp only [if_neg c] at hp; exact hp.elim
    | _ => exact hp.elim
  | tup i =>
    cases b with
    | tup j =>
      obtain ⟨p, xs, e1, h1, r1⟩ := la.tup
      obtain ⟨q, ys, e2, h2, r2⟩ := lb.tup
      subst e1 e2
      unfold addD at hp
      by_cases c : i.length + j.length ≤ lim
      · simp only [if_pos c] at hp
        have l1 := r1.length
        have l2 := r2.length
        refine .inr (.inl ⟨p, q, xs, ys, rfl, rfl, SqT.of h1, SqT.of h2, by have := lim_le c; omega, fun e => ?_, fun _ e => ?_, fun _ _ => ?_⟩)
        · have e' : i = [] := by rw [e] at l1; exact List.length_eq_zero_iff.mp l1
          subst e'
          exact PostE.val hp rp hO ⟨q, ys, rfl, h2, r2⟩
        · have e' : j = [] := by rw [e] at l2; exact List.length_eq_zero_iff.mp l2
          subst e'
          rw [List.append_nil] at hp
          exact PostE.val hp rp hO ⟨p, xs, rfl, h1, r1⟩
        · exact PostE.tup hp rp hO (r1.append r2)
      · simp only [if_neg c] at hp; exact hp.elim
    | _ => exact hp.elim
  | lst i =>
    cases b with
    | lst j =>
      obtain ⟨p, xs, e1, h1, r1⟩ := la.lst
      obtain ⟨q, ys, e2, h2, r2⟩ := lb.lst
      subst e1 e2
      unfold addD at hp
      by_cases c : i.length + j.length ≤ lim
      · simp only [if_pos c] at hp
        have l1 := r1.length
        have l2 := r2.length
        exact .inr (.inr ⟨p, q, xs, ys, rfl, rfl, h1, h2, by have := lim_le c; omega, PostE.lst hp rp hO (r1.append r2)⟩)
      · simp only [if_neg c] at hp; exact hp.elim
    | _ => exact hp.elim
  | _ => exact hp.elim

/-! ### ints -/
def intD (g : Int → Int → Option D) : D → D → M R
  | .int i, .int j => (match g i j with
    | some d => M.pure (.val d)
    | none => M.bad)
  | _, _ => M.bad
/-- a scalar, as V -/
def scV : D → Option V
  | .non => some .non
  | .bl b => some (.bl b)
  | .int i => some (.int i)
  | .str x => some (.str x)
  | _ => none
theorem scV_rep {G : GD} {W : WD} {H : Hp} {d : D} {v : V} (h : scV d = some v) : RepD G W H d v := by
  cases d with
  | non => cases h; rfl
  | bl b => cases h; rfl
  | int b => cases h; rfl
  | str b => cases h; rfl
  | _ => cases h
theorem ol_int {G : GD} {X : WX} {C : Int → Int → Prop} {g : Int → Int → Option D} {gv : Int → Int → V} (h : ∀ i j d, g i j = some d → C i j ∧ scV d = some (gv i j)) : OpL G X (rI C gv) (intD g) := by
  intro W s σ H x y a b O Q rp la lb hO hp
  cases a with
  | int i =>
    cases b with
    | int j =>
      have e1 := la.int; have e2 := lb.int; subst e1 e2
      unfold intD at hp
      cases e : g i j with
      | none => simp only [e] at hp; exact hp.elim
      | some d =>
        simp only [e] at hp
        obtain ⟨c, sc⟩ := h i j d e
        exact ⟨i, j, rfl, rfl, c, PostE.val hp rp hO (scV_rep sc)⟩
    | _ => exact hp.elim
  | _ => exact hp.elim
def rI0C (gv : Int → Int → V) : R2 := rI0 gv
theorem ol_int0 {G : GD} {X : WX} {g : Int → Int → Option D} {gv : Int → Int → V} (h : ∀ i j d, g i j = some d → scV d = some (gv i j)) : OpL G X (rI0 gv) (intD g) := by
  intro W s σ H x y a b O Q rp la lb hO hp
  obtain ⟨i, j, e1, e2, _, q⟩ := ol_int (G := G) (X := X) (C := fun _ _ => True) (g := g) (gv := gv) (fun i j d e => ⟨trivial, h i j d e⟩) W s σ H x y a b O Q rp la lb hO hp
  exact ⟨i, j, e1, e2, q⟩
def subG (i j : Int) : Option D := some (.int (i - j))
def mulG (i j : Int) : Option D := if i.natAbs.log2 + j.natAbs.log2 < 1000000 then some (.int (i * j)) else none
def divG (i j : Int) : Option D := if 0 < j ∧ j.natAbs.log2 < 9000 then some (.int (i / j)) else none
def modG (i j : Int) : Option D := if 0 < j then some (.int (i % j)) else none
def powG (i j : Int) : Option D := if 0 ≤ j ∧ j ≤ 1000000 ∧ i.natAbs < 2 ^ 64 then some (.int (i ^ j.toNat)) else none
theorem ol_sub {G : GD} {X : WX} : OpL G X (rI0 fun i j => .int (i - j)) (intD subG) := ol_int0 fun i j d e => by cases e; rfl
theorem ol_div {G : GD} {X : WX} : OpL G X (rI CDivW fun i j => .int (i / j)) (intD divG) := ol_int fun i j d e => by
  unfold divG at e
  split at e
  · rename_i c; cases e; exact ⟨c, rfl⟩
  · cases e
theorem ol_mod {G : GD} {X : WX} : OpL G X (rI (fun _ j => 0 < j) fun i j => .int (i % j)) (intD modG) := ol_int fun i j d e => by
  unfold modG at e
  split at e
  · rename_i c; cases e; exact ⟨c, rfl⟩
  · cases e
theorem ol_pow {G : GD} {X : WX} : OpL G X (rI CPow fun i j => .int (i ^ j.toNat)) (intD powG) := ol_int fun i j d e => by
  unfold powG at e
  split at e
  · rename_i c; cases e; exact ⟨c, rfl⟩
  · cases e
end DL

/-! ==, !=, repr of data at any depth. -/
namespace DL
open PySem L2 PyProof.Rows

mutual
def toP : D → PyData
  | .non => .none
  | .bl b => .bool b
  | .int i => .int i
  | .str x => .str x
  | .tup ds => .tuple (toPs ds)
  | .lst ds => .list (toPs ds)
  | .dic _ _ => .dict []
  | .ref _ => .dict []
  | .ty _ => .dict []
  | .glo _ => .dict []
  | .ins _ _ _ => .dict []
  | .scr ns => .list (ns.map PyData.int)
def toPs : List D → List PyData
  | [] => []
  | d :: ds => toP d :: toPs ds
end
theorem noDict_can (kvs : List (PyData × PyData)) : (PyData.dict kvs).canLay0 = false := rfl
theorem dpInts {K : PySem.W.Frag} {H : Hp} : ∀ ns : List Int, DpAll K H (ns.map V.int) (ns.map PyData.int)
  | [] => .nil
  | n :: ns => .cons (.int n) (dpInts ns)
section
variable {G : GD} {W : WD} {H : Hp}
mutual
theorem RepD.dp : ∀ {d : D} {v : V}, RepD G W H d v → (toP d).canLay0 = true → Dp G.K H v (toP d)
  | .non, _, h, _ => by have e : _ = V.non := h; subst e; exact .non
  | .bl b, _, h, _ => by have e : _ = V.bl b := h; subst e; exact .bl b
  | .int b, _, h, _ => by have e : _ = V.int b := h; subst e; exact .int b
  | .str b, _, h, _ => by have e : _ = V.str b := h; subst e; exact .str b
  | .tup ds, v, h, c => by
    obtain ⟨p, vs, e, hp, r⟩ := (h : ∃ p vs, v = .ref p ∧ H p = some (.tup vs) ∧ RepDs G W H ds vs)
    subst e
    exact .tup (SqT.of hp) (RepDs.dp r c)
  | .lst ds, v, h, c => by
    obtain ⟨p, vs, e, f, hp, r⟩ := (h : ∃ p vs, v = .ref p ∧ W.fz p ∧ Rd H p (.lst vs) ∧ RepDs G W H ds vs)
    subst e
    exact .lst (.inl hp) (RepDs.dp r c)
  | .dic ks ds, _, _, c => by cases c
  | .ref n, _, _, c => by cases c
  | .ty _, _, _, c => by cases c
  | .glo _, _, _, c => by cases c
  | .ins _ _ _, _, _, c => by cases c
  | .scr ns, v, h, c => by
    obtain ⟨p, e, q⟩ := (h : ∃ p, v = .ref p ∧ ((W.fz p ∧ Rd H p (.lst (ns.map V.int))) ∨ KList G.K p (ns.map V.int)))
    subst e
    exact .lst (q.elim (fun z => .inl z.2) .inr) (dpInts ns)
theorem RepDs.dp : ∀ {ds : List D} {vs : List V}, RepDs G W H ds vs → PyData.canLayAll0 (toPs ds) = true → DpAll G.K H vs (toPs ds)
  | [], vs, h, _ => by have e : vs = [] := h; subst e; exact .nil
  | d :: ds, vs, h, c => by
    obtain ⟨v, r, e, h1, h2⟩ := RepDs.uncons h
    subst e
    have c' : ((toP d).canLay0 && PyData.canLayAll0 (toPs ds)) = true := c
    rw [Bool.and_eq_true] at c'
    exact .cons (RepD.dp h1 c'.1) (RepDs.dp h2 c'.2)
end
theorem RepL.dp {d : D} {v : V} (h : RepL G W H d v) (c : (toP d).canLay0 = true) : Dp G.K H v (toP d) := by
  rcases h with h | ⟨p, e, h⟩
  · exact h.dp c
  · subst e
    cases d with
    | lst ds =>
      obtain ⟨vs, a, b⟩ := h
      exact .lst (SqL.of a) (b.dp c)
    | dic ks ds => cases c
    | ins _ _ _ => cases c
    | _ => exact h.elim
end
def eqM : D → D → M R
  | .int i, .int j => M.pure (.val (.bl (decide (i = j))))
  | .str i, .str j => M.pure (.val (.bl (decide (i = j))))
  | a, b => if SeqAt.shaped (toP a) && SeqAt.shaped (toP b) then M.pure (.val (.bl (PyData.eqv (toP a) (toP b)))) else M.bad
def neM : D → D → M R
  | .int i, .int j => M.pure (.val (.bl (!decide (i = j))))
  | .str i, .str j => M.pure (.val (.bl (!decide (i = j))))
  | a, b => if SeqAt.shaped (toP a) && SeqAt.shaped (toP b) then M.pure (.val (.bl (!PyData.eqv (toP a) (toP b)))) else M.bad
section
variable {G : GD} {X : WX}
theorem ol_eq : OpL G X (fun x y H Q => rEq x y H Q ∨ rEqD G.K x y H Q) eqM := by
  intro W s σ H x y a b O Q rp la lb hO hp
  have gen : PostE G X O W H σ ((if SeqAt.shaped (toP a) && SeqAt.shaped (toP b) then (M.pure (.val (.bl (PyData.eqv (toP a) (toP b)))) : M R) else M.bad) s) Q → rEqD G.K x y H Q := fun hp => by
    cases h : (SeqAt.shaped (toP a) && SeqAt.shaped (toP b)) with
    | false => rw [h] at hp; exact hp.elim
    | true =>
      rw [h] at hp
      rw [Bool.and_eq_true] at h
      exact ⟨toP a, toP b, la.dp (SeqAt.canLay_of_shaped h.1), lb.dp (SeqAt.canLay_of_shaped h.2), h.1, h.2, PostE.val hp rp hO rfl⟩
  cases a with
  | int i => cases b with
    | int j =>
      have e1 := la.int; have e2 := lb.int; subst e1 e2
      refine .inl ⟨rfl, ?_⟩
      rw [show decide (V.int i = V.int j) = decide (i = j) by rw [dec_int, Bool.beq_eq_decide_eq]]
      exact PostE.val hp rp hO rfl
    | _ => exact .inr (gen hp)
  | str i => cases b with
    | str j =>
      have e1 := la.str; have e2 := lb.str; subst e1 e2
      refine .inl ⟨rfl, ?_⟩
      rw [show decide (V.str i = V.str j) = decide (i = j) by
        by_cases e : i = j
        · subst e; simp
        · rw [decide_eq_false e, decide_eq_false fun z => e (V.str.inj z)]]
      exact PostE.val hp rp hO rfl
    | _ => exact .inr (gen hp)
  | _ => exact .inr (gen hp)
theorem ol_ne : OpL G X (fun x y H Q => rNe x y H Q ∨ rNeD G.K x y H Q) neM := by
  intro W s σ H x y a b O Q rp la lb hO hp
  have gen : PostE G X O W H σ ((if SeqAt.shaped (toP a) && SeqAt.shaped (toP b) then (M.pure (.val (.bl (!PyData.eqv (toP a) (toP b)))) : M R) else M.bad) s) Q → rNeD G.K x y H Q := fun hp => by
    cases h : (SeqAt.shaped (toP a) && SeqAt.shaped (toP b)) with
    | false => rw [h] at hp; exact hp.elim
    | true =>
      rw [h] at hp
      rw [Bool.and_eq_true] at h
      exact ⟨toP a, toP b, la.dp (SeqAt.canLay_of_shaped h.1), lb.dp (SeqAt.canLay_of_shaped h.2), h.1, h.2, PostE.val hp rp hO rfl⟩
  cases a with
  | int i => cases b with
    | int j =>
      have e1 := la.int; have e2 := lb.int; subst e1 e2
      refine .inl ⟨rfl, ?_⟩
      rw [show decide (V.int i = V.int j) = decide (i = j) by rw [dec_int, Bool.beq_eq_decide_eq]]
      exact PostE.val hp rp hO rfl
    | _ => exact .inr (gen hp)
  | str i => cases b with
    | str j =>
      have e1 := la.str; have e2 := lb.str; subst e1 e2
      refine .inl ⟨rfl, ?_⟩
      rw [show decide (V.str i = V.str j) = decide (i = j) by
        by_cases e : i = j
        · subst e; simp
        · rw [decide_eq_false e, decide_eq_false fun z => e (V.str.inj z)]]
      exact PostE.val hp rp hO rfl
    | _ => exact .inr (gen hp)
  | _ => exact .inr (gen hp)
end
/-! ### repr -/
def reprM (a : D) : M R := if SeqAt.shaped (toP a) && ((toP a).showable && decide ((toP a).shown.length ≤ lim)) then M.pure (.val (.str (toP a).shown)) else M.bad
def rRepr (K : PySem.W.Frag) : List V → Hp → VK → Prop := fun xs H Q => ∃ x d, xs = [x] ∧ Dp K H x d ∧ SeqAt.shaped d = true ∧ d.showable = true ∧ d.shown.length ≤ sizeLine ∧ Q (.str d.shown) H
theorem noDict_of_can {d : PyData} (h : d.canLay0 = true) : d.hasDict = false := PyData.hasDict_of_canLay d h
theorem call_reprD {Xc : Cx} (hg : Xc.A.guards = some []) (hu : Xc.A.units + 100 < cLine) : CallR Xc (.builtin "repr") (rRepr Xc.K) := by
  intro pins s σ H xs us Q I r ⟨x, d, e, hd, sh, hs, hz, q⟩
  subst e
  obtain ⟨u, e, ru⟩ := vals1 r
  subst e
  obtain ⟨as, rr⟩ := Dp.reads I d x u hd ru
  have hdep := SeqAt.depth_of_shaped sh
  cases hd with
  | non => cases ru; exact PySem.P.repr_of_none ⟨.str _, H, I.tok _, ⟨_, rfl⟩, q⟩
  | bl b => cases ru; exact PySem.P.repr_of_bool ⟨.str _, H, I.tok _, ⟨_, rfl⟩, q⟩
  | int i =>
    obtain ⟨t, e⟩ := ru
    subst e
    exact PySem.P.repr_of_int (of_decide_eq_true hs) ⟨.str _, H, I.tok _, ⟨_, rfl⟩, q⟩
  | str z =>
    obtain ⟨t, e⟩ := ru
    subst e
    exact PySem.P.repr_of_str ⟨.str _, H, I.tok _, ⟨_, rfl⟩, q⟩ hz
  | lst h1 h2 =>
    cases ru
    exact repr_of_reads' rr hs (PyData.noDict_hsm (noDict_of_can (SeqAt.canLay_of_shaped sh))) hg (by omega) (fun _ _ e => e) (fun h' u tk k => ⟨.str _, H, I.kept k, ⟨_, rfl⟩, q⟩) hz
  | tup h1 h2 =>
    cases ru
    exact repr_of_reads' rr hs (PyData.noDict_hsm (noDict_of_can (SeqAt.canLay_of_shaped sh))) hg (by omega) (fun _ _ e => e) (fun h' u tk k => ⟨.str _, H, I.kept k, ⟨_, rfl⟩, q⟩) hz
end DL

/-! Expressions: names, constants, displays, tests. -/
namespace DL
open PySem L2 PyProof.Rows

/-- what is known of a body's context -/
structure Fm (Xc : Cx) (G : GD) (X : WX) (N : List Str) (nm : List (Str × NameKind)) : Prop where
  eK : Xc.K = G.K
  eM : Xc.mg = G.mg
  eN : Xc.N = N
  eS : Xc.env.scope.names = nm
  eF : Xc.env.scope.kind = .function
  nd : N.Nodup
  calm : Xc.calm = true
  gu : Xc.A.guards = some []
  un : Xc.A.units + 200 < cLine
  tk : Takes Xc X
/-- of a def's body, not of a comprehension's block -/
structure FmS (Xc : Cx) (G : GD) (X : WX) (N : List Str) (nm : List (Str × NameKind)) : Prop extends Fm Xc G X N nm where
  fn : ∀ x, Xc.fn x = true
  own : PassesOwn (model Xc.prog Xc.w) Xc.A Xc.env Xc.xe
/-- nothing is raised -/
abbrev X0 : WX := fun _ _ _ _ => False

section
variable {G : GD} {X : WX} {Xc : Cx} {N : List Str} {nm : List (Str × NameKind)} {pos : Pos}

def sVar (i : Nat) : M R := fun s => match s.env[i]? with
  | some .un => .bad
  | none => .bad
  | some (.val d) => .ok (.val d) s
  | some (.own _) => .ok (.slot i) s
theorem j_var {i : Nat} {x : Str} (F : Fm Xc G X N nm) (hN : N[i]? = some x) (hv : nm.lookup x = some .local ∨ nm.lookup x = some .cell ∨ nm.lookup x = some .free) (hd : (x == ("__debug__" : Str)) = false := by decide) (hcd : (x == ("__classdict__" : Str)) = false := by decide) : PE Xc (.Name x pos) (TR G X (sVar i)) := by
  refine (pe_var (i := i) (by rw [F.eN]; exact hN) (by unfold Vis; rw [F.eS]; exact hv) hd hcd).imp fun σ H Q ⟨W, s, rp, hp⟩ => ?_
  unfold sVar at hp
  cases q : s.env[i]? with
  | none => simp only [q] at hp; exact hp.elim
  | some y =>
    simp only [q] at hp
    cases y with
    | un => exact hp.elim
    | val d =>
      obtain ⟨v, e, r⟩ := rp.val i d q
      exact ⟨v, e, PostE.val hp rp (fun _ z => z) r⟩
    | own d =>
      obtain ⟨p, e, r⟩ := rp.own i d q
      exact ⟨.ref p, e, hp W H _ (Step.refl.subO fun p z => .inl z) rp e fun p z => z.elim⟩
def sC (d : D) : M R := M.pure (.val d)
theorem TR.const {d : D} {v : V} {σ : L2.St} {H : Hp} {Q : VK} (h : TR G X (sC d) σ H Q) (r : ∀ W, RepD G W H d v) : Q v H := by
  obtain ⟨W, s, rp, hp⟩ := h
  exact PostE.val hp rp (fun _ z => z) (r W)
theorem j_int {i j} : PE Xc (.Constant (.int i) j pos) (TR G X (sC (.int i))) := pe_int.imp fun _ _ _ h => h.const fun _ => rfl
theorem j_bl {b j} : PE Xc (.Constant (.bool b) j pos) (TR G X (sC (.bl b))) := pe_bl.imp fun _ _ _ h => h.const fun _ => rfl
theorem j_non {j} : PE Xc (.Constant .none j pos) (TR G X (sC .non)) := pe_non.imp fun _ _ _ h => h.const fun _ => rfl
theorem j_str {x j} : PE Xc (.Constant (.str x) j pos) (TR G X (sC (.str x))) := pe_str.imp fun _ _ _ h => h.const fun _ => rfl
/-- a module's constant -/
theorem j_glo {x : Str} {d : D} {v : V} {u : Value} (F : Fm Xc G X N nm) (hg : nm.lookup x = some .globalImplicit) (hm : G.mg x = some u) (hs : scV d = some v) (r : RelV v u) (hd : (x == ("__debug__" : Str)) = false := by decide) : PE Xc (.Name x pos) (TR G X (sC d)) :=
  (pe_glob (v := v) (by show Xc.env.scope.names.lookup x = _; rw [F.eS]; exact hg) (by rw [F.eM]; exact hm) r hd).imp fun _ _ _ h => h.const fun _ => scV_rep hs

/-! ### argument lists: each as a value -/
def PostA (G : GD) (X : WX) (O : Addr → Prop) (W : WD) (H : Hp) (σ : L2.St) (out : Out (List D)) (Q : List V → Hp → Prop) : Prop :=
  match out with
  | .ok ds s' => ∀ W' H' vs, Step O W H (OwnAt s'.env σ) W' H' → Rep G W' s' σ H' → RepDs G W' H' ds vs → Q vs H'
  | .exn x s' => PostX G X O W H x s'
  | .bad => False
/-- the D's go on -/
def TA' (G : GD) (X : WX) (f : M (List D)) : TA := fun σ H Q => ∃ W s, Rep G W s σ H ∧ PostA G X (OwnAt s.env σ) W H σ (f s) Q
def sNil : M (List D) := M.pure []
def sCons (fa : M R) (fs : M (List D)) : M (List D) := fun s => match fa s with
  | .ok r s1 => (match r.toD s1 with
    | .ok d s2 => (match fs s2 with
      | .ok ds s3 => .ok (d :: ds) s3
      | .exn x s3 => .exn x s3
      | .bad => .bad)
    | .exn x s2 => .exn x s2
    | .bad => .bad)
  | .exn x s1 => .exn x s1
  | .bad => .bad
theorem R.toD_exn {r : R} {s s1 : DS} {x : D} (e : r.toD s = .exn x s1) : False := by
  cases r with
  | val d => cases e
  | own d => cases e
  | slot i =>
    have e0 : (match s.env[i]? with
      | some (.val d) => Out.ok d s
      | some (.own d) => .ok d { s with env := s.env.set i (.val d) }
      | _ => .bad) = Out.exn x s1 := e
    cases q : s.env[i]? with
    | none => rw [q] at e0; cases e0
    | some y =>
      rw [q] at e0
      cases y <;> cases e0
theorem j_nil : PA Xc [] (TA' G X sNil) := by
  refine ⟨fun pos pins s σ H Q I h => pa_nil.run pos pins s σ H Q I ?_⟩
  obtain ⟨W, t, rp, hp⟩ := h
  exact hp W H [] (Step.refl.subO fun p z => .inl z) rp rfl
theorem j_cons {e : Expr} {es : List Expr} {fa : M R} {fs : M (List D)} (ha : PE Xc e (TR G X fa)) (hr : PA Xc es (TA' G X fs)) (hs : starEach (e :: es) Xc.env = (false, eval e Xc.env) :: starEach es Xc.env := by rfl) : PA Xc (e :: es) (TA' G X (sCons fa fs)) := by
  refine ⟨fun pos pins s σ H Q I h => (pa_cons ha hr hs).run pos pins s σ H Q I ?_⟩
  obtain ⟨W, t, rp, hp⟩ := h
  unfold sCons at hp
  refine ⟨W, t, rp, ?_⟩
  cases e1 : fa t with
  | bad => rw [e1] at hp; exact hp.elim
  | exn x t1 => rw [e1] at hp; exact hp
  | ok r t1 =>
    simp only [e1] at hp
    intro W1 H1 v st1 rp1 r1 o1
    cases e2 : r.toD t1 with
    | bad => simp only [e2] at hp; exact hp.elim
    | exn x t2 => exact (R.toD_exn e2).elim
    | ok d t2 =>
      simp only [e2] at hp
      obtain ⟨W2, st2, rp2, rd, _⟩ := toD_ok (O := fun p => OwnAt t1.env σ p ∨ OwnedBy r v p) rp1 r1 e2 (fun p z => .inl z) (fun p z => .inr z)
      have st12 : Step (OwnAt t.env σ) W H (OwnAt t2.env σ) W2 H1 := (st1.subO fun p z => (by
        rcases z with z | z
        · exact .inr (.inl z)
        · exact (o1 p z).elim .inl fun y => .inr (.inr y))).trans st2
      refine ⟨W2, t2, rp2, ?_⟩
      cases e3 : fs t2 with
      | bad => simp only [e3] at hp; exact hp.elim
      | exn x t3 =>
        simp only [e3] at hp
        exact fun W' σ' H' c d' a b z => hp W' σ' H' c d' (st12.trans a) b z
      | ok ds t3 =>
        simp only [e3] at hp
        intro W3 H3 vs st3 rp3 rds
        exact hp W3 H3 (v :: vs) (st12.trans st3) rp3 (.cons (rd.stay (st3.stay rp2.apart)) rds)
theorem TA'.run {f : M (List D)} {g : List D → M R} {σ : L2.St} {H : Hp} {Q : VK} (h : TR G X (f >>= g) σ H Q) : TA' G X f σ H fun vs H1 => ∃ W1 s1 ds, Rep G W1 s1 σ H1 ∧ RepDs G W1 H1 ds vs ∧ PostE G X (OwnAt s1.env σ) W1 H1 σ (g ds s1) Q := by
  obtain ⟨W, t, rp, hp⟩ := h
  refine ⟨W, t, rp, ?_⟩
  rw [bind_run] at hp
  cases e1 : f t with
  | bad => rw [e1] at hp; exact hp.elim
  | exn x t1 => rw [e1] at hp; exact hp
  | ok ds t1 =>
    rw [e1] at hp
    exact fun W' H' vs st rp' r => ⟨W', t1, ds, rp', r, PostE.after (O0' := OwnAt t.env σ) hp st⟩
def sTup (fs : M (List D)) : M R := fs >>= fun ds => if ds.length ≤ lim then M.pure (.val (.tup ds)) else M.bad
def sLst (fs : M (List D)) : M R := fs >>= fun ds => if ds.length ≤ lim then M.pure (.own (.lst ds)) else M.bad
theorem j_tup {es : List Expr} {fs : M (List D)} {x1} (h : PA Xc es (TA' G X fs)) : PE Xc (.Tuple es x1 pos) (TR G X (sTup fs)) := by
  refine ⟨fun pins s σ H Q I hq => (pe_tup (x1 := x1) h).run pins s σ H Q I ?_⟩
  obtain ⟨W, t, rp, hp⟩ := TA'.run hq
  refine ⟨W, t, rp, ?_⟩
  cases e : fs t with
  | bad => rw [e] at hp; exact hp
  | exn x t1 => rw [e] at hp; exact hp
  | ok ds t1 =>
    rw [e] at hp
    intro W' H' vs st rp' r
    obtain ⟨W1, s1, ds1, rp1, r1, hp1⟩ := hp W' H' vs st rp' r
    by_cases c : ds1.length ≤ lim
    · simp only [if_pos c] at hp1
      exact ⟨by rw [← r1.length]; exact lim_le c, PostE.tup hp1 rp1 (fun _ z => z) r1⟩
    · simp only [if_neg c] at hp1; exact hp1.elim
theorem j_lst {es : List Expr} {fs : M (List D)} (h : PA Xc es (TA' G X fs)) : PE Xc (.List es pos) (TR G X (sLst fs)) := by
  refine ⟨fun pins s σ H Q I hq => (pe_lst h).run pins s σ H Q I ?_⟩
  obtain ⟨W, t, rp, hp⟩ := TA'.run hq
  refine ⟨W, t, rp, ?_⟩
  cases e : fs t with
  | bad => rw [e] at hp; exact hp
  | exn x t1 => rw [e] at hp; exact hp
  | ok ds t1 =>
    rw [e] at hp
    intro W' H' vs st rp' r
    obtain ⟨W1, s1, ds1, rp1, r1, hp1⟩ := hp W' H' vs st rp' r
    by_cases c : ds1.length ≤ lim
    · simp only [if_pos c] at hp1
      exact ⟨by rw [← r1.length]; exact lim_le c, PostE.lst hp1 rp1 (fun _ z => z) r1⟩
    · simp only [if_neg c] at hp1; exact hp1.elim
end
end DL

/-! Tests, and, or, not, if, chains, items, slices. -/
namespace DL
open PySem L2 PyProof.Rows
def PostB (G : GD) (X : WX) (O : Addr → Prop) (W : WD) (H : Hp) (σ : L2.St) (out : Out Bool) (Q : Bool → Hp → Prop) : Prop :=
  match out with
  | .ok b s' => ∀ W' H', Step O W H (OwnAt s'.env σ) W' H' → Rep G W' s' σ H' → Q b H'
  | .exn x s' => PostX G X O W H x s'
  | .bad => False
def TB (G : GD) (X : WX) (f : M Bool) : TT := fun σ H Q => ∃ W s, Rep G W s σ H ∧ PostB G X (OwnAt s.env σ) W H σ (f s) Q
def truD : D → Option Bool
  | .non => some false
  | .bl b => some b
  | .int i => some (i != 0)
  | .str x => if x.length ≤ lim then some ((x.length : Int) != 0) else none
  | .tup xs => some (!xs.isEmpty)
  | .lst xs => some (!xs.isEmpty)
  | _ => none
def sTru (fa : M R) : M Bool := fun s => match fa s with
  | .ok r s1 => (match r.look s1 with
    | .ok d s2 => (match truD d with
      | some b => .ok b s2
      | none => .bad)
    | .exn x s2 => .exn x s2
    | .bad => .bad)
  | .exn x s1 => .exn x s1
  | .bad => .bad
/-- a bool as a test -/
def sB (fa : M R) : M Bool := fun s => match fa s with
  | .ok (.val (.bl b)) s1 => .ok b s1
  | .ok _ _ => .bad
  | .exn x s1 => .exn x s1
  | .bad => .bad
def sAnd (f g : M Bool) : M Bool := fun s => match f s with
  | .ok true s1 => g s1
  | .ok false s1 => .ok false s1
  | .exn x s1 => .exn x s1
  | .bad => .bad
def sOr (f g : M Bool) : M Bool := fun s => match f s with
  | .ok true s1 => .ok true s1
  | .ok false s1 => g s1
  | .exn x s1 => .exn x s1
  | .bad => .bad
def sNot (f : M Bool) : M Bool := fun s => match f s with
  | .ok b s1 => .ok (!b) s1
  | .exn x s1 => .exn x s1
  | .bad => .bad
def sIf {α : Type} (t : M Bool) (f g : M α) : M α := fun s => match t s with
  | .ok true s1 => f s1
  | .ok false s1 => g s1
  | .exn x s1 => .exn x s1
  | .bad => .bad
/-- and, or, not as values, of bools -/
def sAndV (f g : M R) : M R := fun s => match f s with
  | .ok (.val (.bl true)) s1 => g s1
  | .ok (.val (.bl false)) s1 => .ok (.val (.bl false)) s1
  | .ok _ _ => .bad
  | .exn x s1 => .exn x s1
  | .bad => .bad
def sOrV (f g : M R) : M R := fun s => match f s with
  | .ok (.val (.bl true)) s1 => .ok (.val (.bl true)) s1
  | .ok (.val (.bl false)) s1 => g s1
  | .ok _ _ => .bad
  | .exn x s1 => .exn x s1
  | .bad => .bad
def sNotV (f : M R) : M R := fun s => match f s with
  | .ok (.val (.bl b)) s1 => .ok (.val (.bl (!b))) s1
  | .ok _ _ => .bad
  | .exn x s1 => .exn x s1
  | .bad => .bad
section
variable {G : GD} {X : WX} {Xc : Cx} {N : List Str} {nm : List (Str × NameKind)} {pos : Pos} {σ : L2.St} {H H1 : Hp} {W W1 : WD} {s s1 : DS} {O O1 : Addr → Prop}
theorem PostB.mono {out : Out Bool} {Q Q' : Bool → Hp → Prop} (h : PostB G X O W H σ out Q) (m : ∀ v H', Q v H' → Q' v H') : PostB G X O W H σ out Q' := by
  cases out with
  | ok r s' => exact fun W' H' a b => m r H' (h W' H' a b)
  | exn x s' => exact h
  | bad => exact h
theorem PostX.after {x : D} (h : PostX G X O W H x s1) (st : Step O W H O1 W1 H1) : PostX G X O1 W1 H1 x s1 := fun W' σ' H' c d a b e => h W' σ' H' c d (st.trans a) b e
theorem PostX.big {x : D} (h : PostX G X O W H x s1) (g : ∀ p, O1 p → O p) : PostX G X O1 W H x s1 := fun W' σ' H' c d a b e => h W' σ' H' c d (a.bigO g) b e
theorem PostB.after {out : Out Bool} {Q : Bool → Hp → Prop} (h : PostB G X O W H σ out Q) (st : Step O W H O1 W1 H1) : PostB G X O1 W1 H1 σ out Q := by
  cases out with
  | ok r s' => exact fun W' H' a b => h W' H' (st.trans a) b
  | exn x s' => exact PostX.after h st
  | bad => exact h
/-- what was found does not change what an own state allows -/
theorem j_tru {a : Expr} {fa : M R} (ha : PE Xc a (TR G X fa)) (eK : Xc.K = G.K) (he : ∀ whole, isTrue a Xc.env whole = (do let v ← whole; standAt a.pos; holding [v] (truthy v)) := by intro _; rfl) : PT Xc a (TB G X (sTru fa)) := by
  refine (pt_truth ha he).imp fun σ H Q ⟨W, s, rp, hp⟩ => ?_
  refine ⟨W, s, rp, ?_⟩
  unfold sTru at hp
  cases e1 : fa s with
  | bad => rw [e1] at hp; exact hp
  | exn x s1 => rw [e1] at hp; exact hp
  | ok r s1 =>
    simp only [e1] at hp
    intro W' H' v st rp' rr o
    cases e2 : r.look s1 with
    | bad => simp only [e2] at hp; exact hp.elim
    | exn x s2 => exact (R.look_exn e2).elim
    | ok d s2 =>
      simp only [e2] at hp
      obtain ⟨e, l⟩ := look_ok rp' rr e2
      subst e
      cases e3 : truD d with
      | none => simp only [e3] at hp; exact hp.elim
      | some b =>
        simp only [e3] at hp
        refine ⟨b, ?_, hp W' H' st rp'⟩
        rw [eK]
        cases d with
        | non => cases e3; have e := l.non; subst e; rfl
        | bl k => cases e3; have e := l.bl; subst e; rfl
        | int k => cases e3; have e := l.int; subst e; rfl
        | str k =>
          have e3 : (if k.length ≤ lim then some ((k.length : Int) != 0) else none) = some b := e3
          by_cases c : k.length ≤ lim
          · rw [if_pos c] at e3; cases e3; have e := l.str; subst e; exact ⟨lim_le c, rfl⟩
          · rw [if_neg c] at e3; cases e3
        | tup k =>
          cases e3
          obtain ⟨p, vs, e, h, r⟩ := l.tup
          subst e
          refine .inr (.inl ⟨vs, SqT.of h, ?_⟩)
          cases k with
          | nil => have e : vs = [] := r; subst e; rfl
          | cons x y => obtain ⟨u, w, e, _⟩ := r.uncons; subst e; rfl
        | lst k =>
          cases e3
          obtain ⟨p, vs, e, h, r⟩ := l.lst
          subst e
          refine .inl ⟨vs, .inl h, ?_⟩
          cases k with
          | nil => have e : vs = [] := r; subst e; rfl
          | cons x y => obtain ⟨u, w, e, _⟩ := r.uncons; subst e; rfl
        | _ => cases e3
theorem TB.b {fa : M R} {Q : Bool → Hp → Prop} (h : TB G X (sB fa) σ H Q) : TR G X fa σ H fun x H' => ∃ k, x = .bl k ∧ Q k H' := by
  obtain ⟨W, s, rp, hp⟩ := h
  refine ⟨W, s, rp, ?_⟩
  unfold sB at hp
  cases e1 : fa s with
  | bad => rw [e1] at hp; exact hp
  | exn x s1 => rw [e1] at hp; exact hp
  | ok r s1 =>
    simp only [e1] at hp
    intro W' H' v st rp' rr o
    cases r with
    | val d => cases d with
      | bl b => exact ⟨b, rr, hp W' H' st rp'⟩
      | _ => exact hp.elim
    | _ => exact hp.elim
/-- a comparison as a test -/
theorem j_cmpT {a b : Expr} {fa fb : M R} {op : CmpOp} {r : R2} {f : R → R → M R} (ho : OpR Xc (compareOp op) r) (hs : OpS G X r f) (ha : PE Xc a (TR G X fa)) (hb : PE Xc b (TR G X fb)) (hm : behindInMarks op b = false) : PT Xc (.Compare a [op] [b] pos) (TB G X (sB (fa >>= fun x => fb >>= fun y => f x y))) :=
  (pt_cmpR ho ha hb hm).imp fun _ _ _ h => h.b.two hs
/-- an expression that is a bool, as a test (a call ..) -/
theorem j_valT {a : Expr} {fa : M R} (ha : PE Xc a (TR G X fa)) (he : ∀ whole, isTrue a Xc.env whole = (do let v ← whole; standAt a.pos; holding [v] (truthy v)) := by intro _; rfl) : PT Xc a (TB G X (sB fa)) :=
  (pt_val ha he).imp fun _ _ _ h => h.b
theorem TB.and {f g : M Bool} {Q : Bool → Hp → Prop} (h : TB G X (sAnd f g) σ H Q) : tAnd (TB G X f) (TB G X g) σ H Q := by
  obtain ⟨W, s, rp, hp⟩ := h
  refine ⟨W, s, rp, ?_⟩
  unfold sAnd at hp
  cases e1 : f s with
  | bad => rw [e1] at hp; exact hp
  | exn x s1 => rw [e1] at hp; exact hp
  | ok b s1 =>
    cases b with
    | true =>
      simp only [e1] at hp
      exact fun W' H' st rp' => iteT ⟨W', s1, rp', PostB.after hp st⟩
    | false =>
      simp only [e1] at hp
      exact fun W' H' st rp' => iteF (hp W' H' st rp')
theorem TB.or {f g : M Bool} {Q : Bool → Hp → Prop} (h : TB G X (sOr f g) σ H Q) : tOr (TB G X f) (TB G X g) σ H Q := by
  obtain ⟨W, s, rp, hp⟩ := h
  refine ⟨W, s, rp, ?_⟩
  unfold sOr at hp
  cases e1 : f s with
  | bad => rw [e1] at hp; exact hp
  | exn x s1 => rw [e1] at hp; exact hp
  | ok b s1 =>
    cases b with
    | false =>
      simp only [e1] at hp
      exact fun W' H' st rp' => iteF ⟨W', s1, rp', PostB.after hp st⟩
    | true =>
      simp only [e1] at hp
      exact fun W' H' st rp' => iteT (hp W' H' st rp')
theorem TB.not {f : M Bool} {Q : Bool → Hp → Prop} (h : TB G X (sNot f) σ H Q) : tNot (TB G X f) σ H Q := by
  obtain ⟨W, s, rp, hp⟩ := h
  refine ⟨W, s, rp, ?_⟩
  unfold sNot at hp
  cases e1 : f s with
  | bad => rw [e1] at hp; exact hp
  | exn x s1 => rw [e1] at hp; exact hp
  | ok b s1 =>
    simp only [e1] at hp
    exact fun W' H' st rp' => hp W' H' st rp'
theorem PW.imp {e : Expr} {t t' : TT} (h : PW Xc e t) (w : ∀ σ H Q, t' σ H Q → t σ H Q) : PW Xc e t' := ⟨fun wh pins s σ H Q I q => h.run wh pins s σ H Q I (w σ H Q q)⟩
theorem j_and {a b : Expr} {rest : List Expr} {f g : M Bool} (ha : PT Xc a (TB G X f)) (hb : PW Xc (.BoolOp .And (b :: rest) pos) (TB G X g)) : PW Xc (.BoolOp .And (a :: b :: rest) pos) (TB G X (sAnd f g)) := PW.imp (pw_and ha hb) fun _ _ _ h => h.and
theorem j_or {a b : Expr} {rest : List Expr} {f g : M Bool} (ha : PT Xc a (TB G X f)) (hb : PW Xc (.BoolOp .Or (b :: rest) pos) (TB G X g)) : PW Xc (.BoolOp .Or (a :: b :: rest) pos) (TB G X (sOr f g)) := PW.imp (pw_or ha hb) fun _ _ _ h => h.or
theorem j_not {a : Expr} {f : M Bool} (ha : PT Xc a (TB G X f)) : PT Xc (.UnaryOp .Not a pos) (TB G X (sNot f)) := (pt_not ha).imp fun _ _ _ h => h.not
theorem TB.ite {t : M Bool} {f g : M R} {Q : VK} (h : TR G X (sIf t f g) σ H Q) : tIf (TB G X t) (TR G X f) (TR G X g) σ H Q := by
  obtain ⟨W, s, rp, hp⟩ := h
  refine ⟨W, s, rp, ?_⟩
  unfold sIf at hp
  cases e1 : t s with
  | bad => rw [e1] at hp; exact hp
  | exn x s1 => rw [e1] at hp; exact hp
  | ok b s1 =>
    cases b with
    | true =>
      simp only [e1] at hp
      exact fun W' H' st rp' => iteT ⟨W', s1, rp', PostE.after (O0' := OwnAt s.env σ) hp st⟩
    | false =>
      simp only [e1] at hp
      exact fun W' H' st rp' => iteF ⟨W', s1, rp', PostE.after (O0' := OwnAt s.env σ) hp st⟩
theorem j_ife {c a b : Expr} {t : M Bool} {f g : M R} (hc : PT Xc c (TB G X t)) (ha : PE Xc a (TR G X f)) (hb : PE Xc b (TR G X g)) : PE Xc (.IfExp c a b pos) (TR G X (sIf t f g)) := (pe_ifExp hc ha hb).imp fun _ _ _ h => TB.ite h
theorem j_andV {a b : Expr} {rest : List Expr} {f g : M R} (ha : PE Xc a (TR G X f)) (hb : PE Xc (.BoolOp .And (b :: rest) pos) (TR G X g)) : PE Xc (.BoolOp .And (a :: b :: rest) pos) (TR G X (sAndV f g)) := by
  refine (pe_and ha hb).imp fun σ H Q ⟨W, s, rp, hp⟩ => ⟨W, s, rp, ?_⟩
  unfold sAndV at hp
  cases e1 : f s with
  | bad => rw [e1] at hp; exact hp
  | exn x s1 => rw [e1] at hp; exact hp
  | ok r s1 =>
    intro W' H' v st rp' rr o
    cases r with
    | val d => cases d with
      | bl b => cases b with
        | true => simp only [e1] at hp; exact ⟨true, rr, iteT ⟨W', s1, rp', PostE.after (O0' := OwnAt s.env σ) hp st⟩⟩
        | false => simp only [e1] at hp; exact ⟨false, rr, iteF (hp W' H' _ st rp' rfl fun p z => z.elim)⟩
      | _ => simp only [e1] at hp; exact hp.elim
    | _ => simp only [e1] at hp; exact hp.elim
theorem j_orV {a b : Expr} {rest : List Expr} {f g : M R} (ha : PE Xc a (TR G X f)) (hb : PE Xc (.BoolOp .Or (b :: rest) pos) (TR G X g)) : PE Xc (.BoolOp .Or (a :: b :: rest) pos) (TR G X (sOrV f g)) := by
  refine (pe_or ha hb).imp fun σ H Q ⟨W, s, rp, hp⟩ => ⟨W, s, rp, ?_⟩
  unfold sOrV at hp
  cases e1 : f s with
  | bad => rw [e1] at hp; exact hp
  | exn x s1 => rw [e1] at hp; exact hp
  | ok r s1 =>
    intro W' H' v st rp' rr o
    cases r with
    | val d => cases d with
      | bl b => cases b with
        | true => simp only [e1] at hp; exact ⟨true, rr, iteT (hp W' H' _ st rp' rfl fun p z => z.elim)⟩
        | false => simp only [e1] at hp; exact ⟨false, rr, iteF ⟨W', s1, rp', PostE.after (O0' := OwnAt s.env σ) hp st⟩⟩
      | _ => simp only [e1] at hp; exact hp.elim
    | _ => simp only [e1] at hp; exact hp.elim
theorem j_notV {a : Expr} {f : M R} (ha : PE Xc a (TR G X f)) : PE Xc (.UnaryOp .Not a pos) (TR G X (sNotV f)) := by
  refine (pe_not ha).imp fun σ H Q ⟨W, s, rp, hp⟩ => ⟨W, s, rp, ?_⟩
  unfold sNotV at hp
  cases e1 : f s with
  | bad => rw [e1] at hp; exact hp
  | exn x s1 => rw [e1] at hp; exact hp
  | ok r s1 =>
    intro W' H' v st rp' rr o
    cases r with
    | val d => cases d with
      | bl b => simp only [e1] at hp; exact ⟨b, rr, hp W' H' _ st rp' rfl fun p z => z.elim⟩
      | _ => simp only [e1] at hp; exact hp.elim
    | _ => simp only [e1] at hp; exact hp.elim
/-- a op b op' c, b a value -/
def sChain (f f' : R → R → M R) (fa fb fc : M R) : M R := fa >>= fun x => fb >>= fun y => fun s => match y with
  | .val d => (match f x (.val d) s with
    | .ok (.val (.bl true)) s1 => (fc >>= fun z => f' (.val d) z) s1
    | .ok (.val (.bl false)) s1 => .ok (.val (.bl false)) s1
    | .ok _ _ => .bad
    | .exn x s1 => .exn x s1
    | .bad => .bad)
  | _ => .bad
theorem TR.chain {r r' : R2} {f f' : R → R → M R} {fa fb fc : M R} {Q : VK} (hs : OpS G X r f) (hs' : OpS G X r' f') (h : TR G X (sChain f f' fa fb fc) σ H Q) : tChain r r' (TR G X fa) (TR G X fb) (TR G X fc) σ H Q := by
  obtain ⟨W, s, rp, hp⟩ := h
  refine ⟨W, s, rp, (hp.bind (O0 := OwnAt s.env σ) fun _ z => z).mono ?_⟩
  rintro x H1 ⟨W1, s1, ra, e1, st1, rp1, hra, o1, hp1⟩
  refine ⟨W1, s1, rp1, (hp1.bind (O0 := OwnAt s1.env σ) fun _ z => .inl z).mono ?_⟩
  rintro y H2 ⟨W2, s2, rb, e2, st2, rp2, hrb, o2, hp2⟩
  cases rb with
  | val d =>
    refine hs W2 s2 σ H2 x y ra (.val d) (fun p => OwnAt s2.env σ p ∨ OwnedBy ra x p) _ rp2 (hra.step rp1 st2 rp2) hrb (fun p z => .inl z) (fun p z => .inr z) (fun p z => z.elim) ?_
    have sub : ∀ p, (OwnAt s2.env σ p ∨ OwnedBy ra x p) → (OwnAt s2.env σ p ∨ OwnedBy (.val d) y p ∨ OwnAt s1.env σ p ∨ OwnedBy ra x p ∨ OwnAt s.env σ p) := fun p z => z.elim .inl fun z => .inr (.inr (.inr (.inl z)))
    cases e3 : f ra (.val d) s2 with
    | bad => simp only [e3] at hp2; exact hp2
    | exn z s3 => simp only [e3] at hp2; exact PostX.big hp2 sub
    | ok q s3 =>
      intro W3 H3 v st3 rp3 rr o3
      cases q with
      | val e => cases e with
        | bl b => cases b with
          | false =>
            simp only [e3] at hp2
            exact ⟨false, rr, iteF (hp2 W3 H3 _ (st3.bigO sub) rp3 rfl fun p z => z.elim)⟩
          | true =>
            simp only [e3] at hp2
            refine ⟨true, rr, iteT ?_⟩
            have ap : Apart W2 H2 (fun p => OwnAt s2.env σ p ∨ OwnedBy ra x p) := ⟨rp2.apart.mf, fun p z => by
              rcases z with z | z
              · exact rp2.apart.of p z
              · have hra2 := hra.step rp1 st2 rp2
                cases ra with
                | val _ => exact z.elim
                | slot _ => exact z.elim
                | own d' =>
                  obtain ⟨p', e, c, nf, nm, no, ni⟩ := hra2
                  have z' : x = .ref p := z
                  rw [z'] at e; cases e
                  obtain ⟨o, ho, _, nt⟩ := c.some
                  exact ⟨nf, fun xs w => by rw [ho] at w; cases w; exact nt xs rfl, nm⟩⟩
            have rb3 : RepD G W3 H3 d y := RepD.stay (st3.stay ap) hrb
            have hp3 := PostE.after (O0' := OwnAt s.env σ) hp2 (st3.bigO sub)
            refine ⟨W3, s3, rp3, (hp3.bind (O0 := OwnAt s3.env σ) fun _ z => z).mono ?_⟩
            rintro z H4 ⟨W4, s4, rc, e4, st4, rp4, hrc, o4, hp4⟩
            exact hs' W4 s4 σ H4 y z (.val d) rc _ Q rp4 (rb3.stay (st4.stay rp3.apart)) hrc (fun p z => .inl z) (fun p z => z.elim) (fun p z => .inr (.inl z)) hp4
        | _ => simp only [e3] at hp2; exact hp2.elim
      | _ => simp only [e3] at hp2; exact hp2.elim
  | _ => exact hp2.elim
theorem j_chain {op op' : CmpOp} {r r' : R2} {f f' : R → R → M R} {a b c : Expr} {fa fb fc : M R} (ho : OpR Xc (compareOp op) r) (ho' : OpR Xc (compareOp op') r') (hs : OpS G X r f) (hs' : OpS G X r' f') (ha : PE Xc a (TR G X fa)) (hb : PE Xc b (TR G X fb)) (hc : PE Xc c (TR G X fc))
    (hm : lastMarks [op, op'] [b, c] = false := by with_unfolding_all rfl) : PE Xc (.Compare a [op, op'] [b, c] pos) (TR G X (sChain f f' fa fb fc)) := (pe_chain ho ho' ha hb hc hm).imp fun _ _ _ h => h.chain hs hs'
theorem j_chainT {op op' : CmpOp} {r r' : R2} {f f' : R → R → M R} {a b c : Expr} {fa fb fc : M R} (ho : OpR Xc (compareOp op) r) (ho' : OpR Xc (compareOp op') r') (hs : OpS G X r f) (hs' : OpS G X r' f') (ha : PE Xc a (TR G X fa)) (hb : PE Xc b (TR G X fb)) (hc : PE Xc c (TR G X fc))
    (hm : lastMarks [op, op'] [b, c] = false := by with_unfolding_all rfl) : PT Xc (.Compare a [op, op'] [b, c] pos) (TB G X (sB (sChain f f' fa fb fc))) := (pt_chain ho ho' ha hb hc hm).imp fun _ _ _ h => h.b.chain hs hs'
end
end DL

/-! Statements. -/
namespace DL
open PySem L2 PyProof.Rows
inductive Ctl where
  | nx | bk | ct | rt (r : R)
def EndsC (G : GD) (O : Addr → Prop) (W' : WD) (s' : DS) (σ' : L2.St) (H H' : Hp) (D : Ends) : Ctl → Prop
  | .nx => D.nx σ' H'
  | .bk => D.bk σ' H'
  | .ct => D.ct σ' H'
  | .rt r => ∀ v, RepR G W' s' σ' H' r v → (∀ p, OwnedBy r v p → O p ∨ H p = none) → D.rt v H'
def PostS (G : GD) (X : WX) (O : Addr → Prop) (W : WD) (H : Hp) (out : Out Ctl) (D : Ends) : Prop :=
  match out with
  | .ok c s' => ∀ W' σ' H', Step O W H (OwnAt s'.env σ') W' H' → Rep G W' s' σ' H' → EndsC G O W' s' σ' H H' D c
  | .exn x s' => PostX G X O W H x s'
  | .bad => False
def TSt (G : GD) (X : WX) (f : M Ctl) : TS := fun D σ H => ∃ W s, Rep G W s σ H ∧ PostS G X (OwnAt s.env σ) W H (f s) D

section
variable {G : GD} {X : WX} {Xc : Cx} {N : List Str} {nm : List (Str × NameKind)} {pos : Pos} {σ σ1 : L2.St} {H H1 : Hp} {W W1 : WD} {s s1 : DS} {O O1 : Addr → Prop} {En En' : Ends}
theorem PostS.after {out : Out Ctl} (h : PostS G X O W H out En) (st : Step O W H O1 W1 H1) : PostS G X O1 W1 H1 out En := by
  cases out with
  | ok c s' =>
    intro W' σ' H' a b
    have e := h W' σ' H' (st.trans a) b
    cases c with
    | rt r =>
      intro v rr o
      refine e v rr fun p z => ?_
      rcases o p z with q | q
      · exact st.nown p q
      · exact .inr (st.dom p q)
    | _ => exact e
  | exn x s' => exact PostX.after h st
  | bad => exact h
theorem PostS.big {out : Out Ctl} (h : PostS G X O W H out En) (g : ∀ p, O1 p → O p) : PostS G X O1 W H out En := h.after (Step.refl.subO fun p z => .inl (g p z))
/-! ### storing a name -/
theorem own_store {env : List Slot} {i : Nat} {x : Slot} {v : V} {p : Addr} (h : OwnAt (env.set i x) (σ.set i (some v)) p) : OwnAt env σ p ∨ (∃ d, x = .own d ∧ v = .ref p) := by
  obtain ⟨j, e, h1, h2⟩ := h
  by_cases hj : i = j
  · subst hj
    by_cases hl : i < env.length
    · rw [List.getElem?_set_self hl] at h1
      by_cases hl2 : i < σ.length
      · rw [List.getElem?_set_self hl2] at h2
        cases h1; cases h2
        exact .inr ⟨e, rfl, rfl⟩
      · rw [List.getElem?_eq_none (by simpa using hl2)] at h2; cases h2
    · rw [List.getElem?_eq_none (by simpa using hl)] at h1; cases h1
  · rw [List.getElem?_set_ne hj] at h1 h2
    exact .inl ⟨j, e, h1, h2⟩
def DS.put (s : DS) (i : Nat) (x : Slot) : DS := { s with env := s.env.set i x }
theorem Rep.putVal {d : DL.D} {v : V} (rp : Rep G W s σ H) (i : Nat) (r : RepD G W H d v) : Rep G W (s.put i (.val d)) (σ.set i (some v)) H where
  len := by show (s.env.set i _).length = (σ.set i _).length; rw [List.length_set, List.length_set]; exact rp.len
  val := fun j x hj => by
    by_cases hij : i = j
    · subst hij
      have hl : i < s.env.length := by
        have := (List.getElem?_eq_some_iff.mp hj).1
        rw [show (s.put i (.val d)).env = s.env.set i (.val d) from rfl, List.length_set] at this
        exact this
      rw [show (s.put i (.val d)).env = s.env.set i (.val d) from rfl, List.getElem?_set_self hl] at hj
      cases hj
      exact ⟨v, by rw [List.getElem?_set_self (by rw [← rp.len]; exact hl)], r⟩
    · rw [show (s.put i (.val d)).env = s.env.set i (.val d) from rfl, List.getElem?_set_ne hij] at hj
      obtain ⟨u, a, b⟩ := rp.val j x hj
      exact ⟨u, by rw [List.getElem?_set_ne hij]; exact a, b⟩
  own := fun j x hj => by
    by_cases hij : i = j
    · subst hij
      have hl : i < s.env.length := by
        have := (List.getElem?_eq_some_iff.mp hj).1
        rw [show (s.put i (.val d)).env = s.env.set i (.val d) from rfl, List.length_set] at this
        exact this
      rw [show (s.put i (.val d)).env = s.env.set i (.val d) from rfl, List.getElem?_set_self hl] at hj
      cases hj
    · rw [show (s.put i (.val d)).env = s.env.set i (.val d) from rfl, List.getElem?_set_ne hij] at hj
      obtain ⟨u, a, b⟩ := rp.own j x hj
      exact ⟨u, by rw [List.getElem?_set_ne hij]; exact a, b⟩
  sep := fun j k x y p h1 h2 h3 h4 => by
    have ne : ∀ {m : Nat} {z : DL.D}, (s.put i (.val d)).env[m]? = some (.own z) → i ≠ m := fun {m z} h e => by
      subst e
      have hl : i < s.env.length := by
        have := (List.getElem?_eq_some_iff.mp h).1
        rw [show (s.put i (.val d)).env = s.env.set i (.val d) from rfl, List.length_set] at this
        exact this
      rw [show (s.put i (.val d)).env = s.env.set i (.val d) from rfl, List.getElem?_set_self hl] at h
      cases h
    have n1 := ne h1
    have n2 := ne h2
    rw [show (s.put i (.val d)).env = s.env.set i (.val d) from rfl] at h1 h2
    rw [List.getElem?_set_ne n1] at h1 h3
    rw [List.getElem?_set_ne n2] at h2 h4
    exact rp.sep j k x y p h1 h2 h3 h4
  slen := rp.slen
  sto := rp.sto
  nod := rp.nod
  fzd := rp.fzd
theorem Rep.putOwn {d : DL.D} {v : V} (rp : Rep G W s σ H) (i : Nat) (r : RepR G W s σ H (.own d) v) : Rep G W (s.put i (.own d)) (σ.set i (some v)) H where
  len := by show (s.env.set i _).length = (σ.set i _).length; rw [List.length_set, List.length_set]; exact rp.len
  val := fun j x hj => by
    by_cases hij : i = j
    · subst hij
      have hl : i < s.env.length := by
        have := (List.getElem?_eq_some_iff.mp hj).1
        rw [show (s.put i (.own d)).env = s.env.set i (.own d) from rfl, List.length_set] at this
        exact this
      rw [show (s.put i (.own d)).env = s.env.set i (.own d) from rfl, List.getElem?_set_self hl] at hj
      cases hj
    · rw [show (s.put i (.own d)).env = s.env.set i (.own d) from rfl, List.getElem?_set_ne hij] at hj
      obtain ⟨u, a, b⟩ := rp.val j x hj
      exact ⟨u, by rw [List.getElem?_set_ne hij]; exact a, b⟩
  own := fun j x hj => by
    by_cases hij : i = j
    · subst hij
      have hl : i < s.env.length := by
        have := (List.getElem?_eq_some_iff.mp hj).1
        rw [show (s.put i (.own d)).env = s.env.set i (.own d) from rfl, List.length_set] at this
        exact this
      rw [show (s.put i (.own d)).env = s.env.set i (.own d) from rfl, List.getElem?_set_self hl] at hj
      cases hj
      obtain ⟨p, e, c, nf, nm, no, ni⟩ := r
      exact ⟨p, by rw [List.getElem?_set_self (by rw [← rp.len]; exact hl), e], c, nf, nm, ni⟩
    · rw [show (s.put i (.own d)).env = s.env.set i (.own d) from rfl, List.getElem?_set_ne hij] at hj
      obtain ⟨u, a, b⟩ := rp.own j x hj
      exact ⟨u, by rw [List.getElem?_set_ne hij]; exact a, b⟩
  sep := fun j k x y q h1 h2 h3 h4 => by
    obtain ⟨p, e, c, nf, nm, no, ni⟩ := r
    rw [show (s.put i (.own d)).env = s.env.set i (.own d) from rfl] at h1 h2
    by_cases hij : i = j
    · by_cases hik : i = k
      · exact hij.symm.trans hik
      · subst hij
        have hl : i < σ.length := by
          have := (List.getElem?_eq_some_iff.mp h3).1
          rwa [List.length_set] at this
        rw [List.getElem?_set_self hl, e] at h3
        cases h3
        rw [List.getElem?_set_ne hik] at h2 h4
        exact absurd ⟨k, y, h2, h4⟩ no
    · by_cases hik : i = k
      · subst hik
        have hl : i < σ.length := by
          have := (List.getElem?_eq_some_iff.mp h4).1
          rwa [List.length_set] at this
        rw [List.getElem?_set_self hl, e] at h4
        cases h4
        rw [List.getElem?_set_ne hij] at h1 h3
        exact absurd ⟨j, x, h1, h3⟩ no
      · rw [List.getElem?_set_ne hij] at h1 h3
        rw [List.getElem?_set_ne hik] at h2 h4
        exact rp.sep j k x y q h1 h2 h3 h4
  slen := rp.slen
  sto := rp.sto
  nod := rp.nod
  fzd := rp.fzd
/-- a result goes to a slot -/
def R.put (r : R) (i : Nat) : M Unit := fun s => match r with
  | .val d => .ok () (s.put i (.val d))
  | .own d => .ok () (s.put i (.own d))
  | .slot j => (match (R.slot j).toD s with
    | .ok d s1 => .ok () (s1.put i (.val d))
    | .exn x s1 => .exn x s1
    | .bad => .bad)
theorem put_ok {r : R} {v : V} {i : Nat} {u : Unit} (rp : Rep G W s σ H) (h : RepR G W s σ H r v) (e : r.put i s = .ok u s1) (hO : ∀ p, OwnAt s.env σ p → O p) (hB : ∀ p, OwnedBy r v p → O p) :
    ∃ W1, Step O W H (OwnAt s1.env (σ.set i (some v))) W1 H ∧ Rep G W1 s1 (σ.set i (some v)) H := by
  cases r with
  | val d =>
    cases e
    exact ⟨W, Step.refl.subO fun p z => (own_store z).elim (fun y => .inl (hO p y)) fun ⟨d, a, _⟩ => (by cases a), rp.putVal i h⟩
  | own d =>
    cases e
    exact ⟨W, Step.refl.subO fun p z => (own_store z).elim (fun y => .inl (hO p y)) fun ⟨d, _, a⟩ => .inl (hB p a), rp.putOwn i h⟩
  | slot j =>
    unfold R.put at e
    cases e2 : (R.slot j).toD s with
    | bad => simp only [e2] at e; cases e
    | exn x s2 => exact (R.toD_exn e2).elim
    | ok d s2 =>
      simp only [e2] at e
      cases e
      obtain ⟨W2, st, rp2, rd, _⟩ := toD_ok rp h e2 hO hB
      exact ⟨W2, st.trans (Step.refl.subO fun p z => (own_store z).elim .inl fun ⟨d, a, _⟩ => (by cases a)), rp2.putVal i rd⟩
theorem R.put_exn {r : R} {i : Nat} {x : DL.D} (e : r.put i s = .exn x s1) : False := by
  cases r with
  | slot j =>
    unfold R.put at e
    cases e2 : (R.slot j).toD s with
    | bad => simp only [e2] at e; cases e
    | exn x s2 => exact (R.toD_exn e2).elim
    | ok d s2 => simp only [e2] at e; cases e
  | _ => cases e
def sSet (i : Nat) (fa : M R) : M Ctl := fun s => match fa s with
  | .ok r s1 => (match r.put i s1 with
    | .ok _ s2 => .ok .nx s2
    | .exn x s2 => .exn x s2
    | .bad => .bad)
  | .exn x s1 => .exn x s1
  | .bad => .bad
theorem TSt.set {i : Nat} {fa : M R} (h : TSt G X (sSet i fa) En σ H) : TR G X fa σ H fun v H1 => En.nx (σ.set i (some v)) H1 := by
  obtain ⟨W, s, rp, hp⟩ := h
  refine ⟨W, s, rp, ?_⟩
  unfold sSet at hp
  cases e1 : fa s with
  | bad => rw [e1] at hp; exact hp
  | exn x s1 => rw [e1] at hp; exact hp
  | ok r s1 =>
    simp only [e1] at hp
    intro W1 H1 v st rp1 rr o
    cases e2 : r.put i s1 with
    | bad => simp only [e2] at hp; exact hp.elim
    | exn x s2 => exact (R.put_exn e2).elim
    | ok u s2 =>
      simp only [e2] at hp
      obtain ⟨W2, st2, rp2⟩ := put_ok (O := fun p => OwnAt s1.env σ p ∨ OwnedBy r v p) rp1 rr e2 (fun p z => .inl z) (fun p z => .inr z)
      refine hp W2 _ H1 ((st.subO fun p z => ?_).trans st2) rp2
      rcases z with z | z
      · exact .inr (.inl z)
      · exact (o p z).elim .inl fun y => .inr (.inr y)
/-- name = e -/
theorem j_set {i : Nat} {x : Str} {e : Expr} {fa : M R} {pos' : Pos} (F : FmS Xc G X N nm) (hi : N[i]? = some x) (hx : nm.lookup x = some .local ∨ nm.lookup x = some .cell) (he : PE Xc e (TR G X fa)) (hs : swapsWith e (some (.Name x pos')) pos.line Xc.env = pure false := by rfl) :
    PS Xc (.Assign [.Name x pos'] e pos) (TSt G X (sSet i fa)) := by
  refine (ps_set (i := i) (by rw [F.eN]; exact F.nd) (by rw [F.eN]; exact hi) (by unfold L2.Loc; rw [F.eS]; exact hx) he hs ?_).imp fun En σ H h => h.set
  rcases hx with hx | hx
  · exact .inr (by rw [F.eS]; exact hx)
  · exact .inl (F.fn x)
/-! ### blocks, if, while, return -/
def sSeq (f g : M Ctl) : M Ctl := fun s => match f s with
  | .ok .nx s1 => g s1
  | .ok c s1 => .ok c s1
  | .exn x s1 => .exn x s1
  | .bad => .bad
def sSkip : M Ctl := M.pure .nx
theorem TSt.seq {f g : M Ctl} (h : TSt G X (sSeq f g) En σ H) : tSeq (TSt G X f) (TSt G X g) En σ H := by
  obtain ⟨W, s, rp, hp⟩ := h
  refine ⟨W, s, rp, ?_⟩
  unfold sSeq at hp
  cases e1 : f s with
  | bad => rw [e1] at hp; exact hp
  | exn x s1 => rw [e1] at hp; exact hp
  | ok c s1 =>
    cases c with
    | nx =>
      simp only [e1] at hp
      exact fun W' σ' H' st rp' => ⟨W', s1, rp', hp.after st⟩
    | _ => simp only [e1] at hp; exact hp
theorem j_seq {st : Stmt} {rest : List Stmt} {f g : M Ctl} (h1 : PS Xc st (TSt G X f)) (h2 : PSs Xc rest (TSt G X g)) : PSs Xc (st :: rest) (TSt G X (sSeq f g)) := (pss_cons h1 h2).imp fun _ _ _ h => h.seq
theorem j_last {st : Stmt} {f : M Ctl} (h1 : PS Xc st (TSt G X f)) : PSs Xc [st] (TSt G X f) := pss_one h1
theorem j_skips : PSs Xc [] (TSt G X sSkip) := pss_nil.imp fun En σ H ⟨W, s, rp, hp⟩ => hp W σ H Step.refl rp
theorem j_pass : PS Xc (.Pass pos) (TSt G X sSkip) := ps_pass.imp fun En σ H ⟨W, s, rp, hp⟩ => hp W σ H Step.refl rp
theorem j_break : PS Xc (.Break pos) (TSt G X (M.pure Ctl.bk)) := ps_break.imp fun En σ H ⟨W, s, rp, hp⟩ => hp W σ H Step.refl rp
theorem j_continue : PS Xc (.Continue pos) (TSt G X (M.pure Ctl.ct)) := ps_continue.imp fun En σ H ⟨W, s, rp, hp⟩ => hp W σ H Step.refl rp
theorem TSt.ite {t : M Bool} {f g : M Ctl} (h : TSt G X (sIf t f g) En σ H) : tIfS (TB G X t) (TSt G X f) (TSt G X g) En σ H := by
  obtain ⟨W, s, rp, hp⟩ := h
  refine ⟨W, s, rp, ?_⟩
  unfold sIf at hp
  cases e1 : t s with
  | bad => rw [e1] at hp; exact hp
  | exn x s1 => rw [e1] at hp; exact hp
  | ok b s1 =>
    cases b with
    | true =>
      simp only [e1] at hp
      exact fun W' H' st rp' => iteT ⟨W', s1, rp', hp.after st⟩
    | false =>
      simp only [e1] at hp
      exact fun W' H' st rp' => iteF ⟨W', s1, rp', hp.after st⟩
theorem j_if {c : Expr} {a b : List Stmt} {t : M Bool} {f g : M Ctl} (hc : PT Xc c (TB G X t)) (ha : PSs Xc a (TSt G X f)) (hb : PSs Xc b (TSt G X g)) : PS Xc (.If c a b pos) (TSt G X (sIf t f g)) := (ps_if hc ha hb).imp fun _ _ _ h => h.ite
/-- what is handed back: an own slot's object goes with it -/
def R.move (r : R) : M R := fun s => match r with
  | .slot i => (match s.env[i]? with
    | some (.val d) => .ok (.val d) s
    | some (.own d) => .ok (.own d) (s.put i .un)
    | _ => .bad)
  | r => .ok r s
def sRet (fa : M R) : M Ctl := fun s => match fa s with
  | .ok r s1 => (match r.move s1 with
    | .ok r' s2 => .ok (.rt r') s2
    | .exn x s2 => .exn x s2
    | .bad => .bad)
  | .exn x s1 => .exn x s1
  | .bad => .bad
theorem Rep.putUn (rp : Rep G W s σ H) (i : Nat) : Rep G W (s.put i .un) σ H where
  len := by show (s.env.set i _).length = _; rw [List.length_set]; exact rp.len
  val := fun j x hj => by
    by_cases hij : i = j
    · subst hij
      have hl : i < s.env.length := by
        have := (List.getElem?_eq_some_iff.mp hj).1
        rw [show (s.put i .un).env = s.env.set i .un from rfl, List.length_set] at this
        exact this
      rw [show (s.put i .un).env = s.env.set i .un from rfl, List.getElem?_set_self hl] at hj
      cases hj
    · rw [show (s.put i .un).env = s.env.set i .un from rfl, List.getElem?_set_ne hij] at hj
      exact rp.val j x hj
  own := fun j x hj => by
    by_cases hij : i = j
    · subst hij
      have hl : i < s.env.length := by
        have := (List.getElem?_eq_some_iff.mp hj).1
        rw [show (s.put i .un).env = s.env.set i .un from rfl, List.length_set] at this
        exact this
      rw [show (s.put i .un).env = s.env.set i .un from rfl, List.getElem?_set_self hl] at hj
      cases hj
    · rw [show (s.put i .un).env = s.env.set i .un from rfl, List.getElem?_set_ne hij] at hj
      exact rp.own j x hj
  sep := fun j k x y p h1 h2 h3 h4 => by
    have ne : ∀ {m : Nat} {z : DL.D}, (s.put i .un).env[m]? = some (.own z) → i ≠ m := fun {m z} h e => by
      subst e
      have hl : i < s.env.length := by
        have := (List.getElem?_eq_some_iff.mp h).1
        rw [show (s.put i .un).env = s.env.set i .un from rfl, List.length_set] at this
        exact this
      rw [show (s.put i .un).env = s.env.set i .un from rfl, List.getElem?_set_self hl] at h
      cases h
    have n1 := ne h1
    have n2 := ne h2
    rw [show (s.put i .un).env = s.env.set i .un from rfl] at h1 h2
    rw [List.getElem?_set_ne n1] at h1
    rw [List.getElem?_set_ne n2] at h2
    exact rp.sep j k x y p h1 h2 h3 h4
  slen := rp.slen
  sto := rp.sto
  nod := rp.nod
  fzd := rp.fzd
theorem own_un {env : List Slot} {i : Nat} {p : Addr} (h : OwnAt (env.set i .un) σ p) : ∃ (j : Nat) (d : DL.D), j ≠ i ∧ env[j]? = some (.own d) ∧ σ[j]? = some (some (.ref p)) := by
  obtain ⟨j, e, h1, h2⟩ := h
  by_cases hj : i = j
  · subst hj
    by_cases hl : i < env.length
    · rw [List.getElem?_set_self hl] at h1; cases h1
    · rw [List.getElem?_eq_none (by simpa using hl)] at h1; cases h1
  · rw [List.getElem?_set_ne hj] at h1
    exact ⟨j, e, fun z => hj z.symm, h1, h2⟩
theorem move_ok {r r' : R} {v : V} (rp : Rep G W s σ H) (h : RepR G W s σ H r v) (e : r.move s = .ok r' s1) : Rep G W s1 σ H ∧ RepR G W s1 σ H r' v ∧ (∀ p, OwnAt s1.env σ p → OwnAt s.env σ p) ∧ (∀ p, OwnedBy r' v p → OwnedBy r v p ∨ OwnAt s.env σ p) := by
  cases r with
  | val d => cases e; exact ⟨rp, h, fun _ z => z, fun _ z => .inl z⟩
  | own d => cases e; exact ⟨rp, h, fun _ z => z, fun _ z => .inl z⟩
  | slot i =>
    have hs : σ[i]? = some (some v) := h
    have e : (match s.env[i]? with
      | some (.val d) => Out.ok (.val d) s
      | some (.own d) => .ok (.own d) (s.put i .un)
      | _ => .bad) = Out.ok r' s1 := e
    cases q : s.env[i]? with
    | none => rw [q] at e; cases e
    | some y =>
      rw [q] at e
      cases y with
      | un => cases e
      | val d =>
        cases e
        obtain ⟨u, a, b⟩ := rp.val i d q
        rw [hs] at a; cases a
        exact ⟨rp, b, fun _ z => z, fun _ z => z.elim⟩
      | own d =>
        cases e
        obtain ⟨p, a, c, nf, nm, ni⟩ := rp.own i d q
        rw [hs] at a; cases a
        refine ⟨rp.putUn i, ⟨p, rfl, c, nf, nm, fun z => ?_, ni⟩, fun p' z => ?_, fun p' z => .inr ⟨i, d, q, ?_⟩⟩
        · obtain ⟨j, d', hj, h1, h2⟩ := own_un z
          exact hj (rp.sep j i d' d p h1 q h2 hs)
        · obtain ⟨j, d', hj, h1, h2⟩ := own_un z
          exact ⟨j, d', h1, h2⟩
        · have z' : V.ref p = V.ref p' := z
          cases z'; exact hs
theorem TSt.ret {fa : M R} (h : TSt G X (sRet fa) En σ H) : TR G X fa σ H En.rt := by
  obtain ⟨W, s, rp, hp⟩ := h
  refine ⟨W, s, rp, ?_⟩
  unfold sRet at hp
  cases e1 : fa s with
  | bad => rw [e1] at hp; exact hp
  | exn x s1 => rw [e1] at hp; exact hp
  | ok r s1 =>
    simp only [e1] at hp
    intro W1 H1 v st rp1 rr o
    cases e2 : r.move s1 with
    | bad => simp only [e2] at hp; exact hp.elim
    | exn x s2 =>
      cases r with
      | slot i =>
        have e2 : (match s1.env[i]? with
          | some (.val d) => Out.ok (R.val d) s1
          | some (.own d) => .ok (R.own d) (s1.put i .un)
          | _ => .bad) = Out.exn x s2 := e2
        cases q : s1.env[i]? with
        | none => rw [q] at e2; cases e2
        | some y => rw [q] at e2; cases y <;> cases e2
      | _ => cases e2
    | ok r' s2 =>
      simp only [e2] at hp
      obtain ⟨a, b, c, d⟩ := move_ok rp1 rr e2
      refine hp W1 σ H1 (st.subO fun p z => .inr (.inl (c p z))) a v b fun p z => ?_
      rcases d p z with q | q
      · exact o p q
      · exact st.nown p q
theorem j_ret {e : Expr} {fa : M R} (he : PE Xc e (TR G X fa)) : PS Xc (.Return (some e) pos) (TSt G X (sRet fa)) := (ps_ret he).imp fun _ _ _ h => h.ret
theorem j_retN : PS Xc (.Return none pos) (TSt G X (M.pure (Ctl.rt (R.val D.non)))) := ps_retN.imp fun En σ H ⟨W, s, rp, hp⟩ => hp W σ H Step.refl rp .non rfl fun _ z => z.elim
/-- e; -/
def sDrop (fa : M R) : M Ctl := fun s => match fa s with
  | .ok _ s1 => .ok .nx s1
  | .exn x s1 => .exn x s1
  | .bad => .bad
theorem j_expr {e : Expr} {fa : M R} (he : PE Xc e (TR G X fa)) (hs : swapsWith e none pos.line Xc.env = pure false := by rfl) : PS Xc (.Expr e pos) (TSt G X (sDrop fa)) := by
  refine (ps_expr he hs).imp fun En σ H ⟨W, s, rp, hp⟩ => ⟨W, s, rp, ?_⟩
  unfold sDrop at hp
  cases e1 : fa s with
  | bad => rw [e1] at hp; exact hp
  | exn x s1 => rw [e1] at hp; exact hp
  | ok r s1 =>
    simp only [e1] at hp
    exact fun W1 H1 v st rp1 rr o => hp W1 σ H1 st rp1
/-- while, at most n turns -/
def sWhile : Nat → M Bool → M Ctl → M Ctl
  | 0, _, _ => M.bad
  | n + 1, t, b => fun s => match t s with
    | .ok false s1 => .ok .nx s1
    | .ok true s1 => (match b s1 with
      | .ok .nx s2 => sWhile n t b s2
      | .ok .ct s2 => sWhile n t b s2
      | .ok .bk s2 => .ok .nx s2
      | .ok (.rt r) s2 => .ok (.rt r) s2
      | .exn x s2 => .exn x s2
      | .bad => .bad)
    | .exn x s1 => .exn x s1
    | .bad => .bad
theorem TSt.while {n : Nat} {t : M Bool} {b : M Ctl} (h : TSt G X (sWhile n t b) En σ H) : tWhile (TB G X t) (TSt G X b) En σ H := by
  refine ⟨fun m σ H => TSt G X (sWhile m t b) En σ H, ⟨n, h⟩, ?_⟩
  rintro m σ H ⟨W, s, rp, hp⟩
  cases m with
  | zero => exact hp.elim
  | succ m =>
    refine ⟨W, s, rp, ?_⟩
    unfold sWhile at hp
    cases e1 : t s with
    | bad => rw [e1] at hp; exact hp
    | exn x s1 => rw [e1] at hp; exact hp
    | ok c s1 =>
      cases c with
      | false =>
        simp only [e1] at hp
        exact fun W' H' st rp' => iteF (hp W' σ H' st rp')
      | true =>
        simp only [e1] at hp
        refine fun W' H' st rp' => iteT ⟨fun σ2 H2 => TSt G X (sWhile m t b) En σ2 H2, fun σ2 H2 q => ⟨m, Nat.lt_succ_self m, q⟩, W', s1, rp', ?_⟩
        have hp := PostS.after hp st
        cases e2 : b s1 with
        | bad => simp only [e2] at hp; exact hp
        | exn x s2 => simp only [e2] at hp; exact hp
        | ok c s2 =>
          cases c with
          | nx => simp only [e2] at hp; exact fun W2 σ2 H2 st2 rp2 => ⟨W2, s2, rp2, hp.after st2⟩
          | ct => simp only [e2] at hp; exact fun W2 σ2 H2 st2 rp2 => ⟨W2, s2, rp2, hp.after st2⟩
          | bk => simp only [e2] at hp; exact hp
          | rt r => simp only [e2] at hp; exact hp
theorem j_while {c : Expr} {body : List Stmt} {t : M Bool} {b : M Ctl} (n : Nat) (F : FmS Xc G X N nm) (hc : PT Xc c (TB G X t)) (hb : PSs Xc body (TSt G X b)) : PS Xc (.While c body [] pos) (TSt G X (sWhile n t b)) := (ps_while F.own hc hb).imp fun _ _ _ h => h.while
end
end DL

/-! Targets; what is walked; for; comprehensions. -/
namespace DL
open PySem L2 PyProof.Rows
/-- the same slots but those of ts -/
def Agree (ts : List Nat) (σ σ' : L2.St) : Prop := σ'.length = σ.length ∧ ∀ j, j ∉ ts → σ'[j]? = σ[j]?
theorem Agree.refl {ts : List Nat} {σ : L2.St} : Agree ts σ σ := ⟨rfl, fun _ _ => rfl⟩
theorem Agree.trans {a b : List Nat} {σ σ1 σ2 : L2.St} (h : Agree a σ σ1) (h2 : Agree b σ1 σ2) : Agree (a ++ b) σ σ2 :=
  ⟨h2.1.trans h.1, fun j n => (h2.2 j fun z => n (List.mem_append_right _ z)).trans (h.2 j fun z => n (List.mem_append_left _ z))⟩
theorem Agree.set {i : Nat} {σ : L2.St} {x : Option V} : Agree [i] σ (σ.set i x) := ⟨List.length_set, fun j n => List.getElem?_set_ne fun z => n (by simp [z])⟩
def PostG (G : GD) (X : WX) (ts : List Nat) (O : Addr → Prop) (W : WD) (H : Hp) (σ : L2.St) (out : Out Unit) (Q : L2.St → Hp → Prop) : Prop :=
  match out with
  | .ok _ s' => ∀ W' σ' H', Agree ts σ σ' → Step O W H (OwnAt s'.env σ') W' H' → Rep G W' s' σ' H' → Q σ' H'
  | .exn x s' => PostX G X O W H x s'
  | .bad => False
abbrev Tg := R → M Unit
abbrev Tgs := List D → M Unit
def TGt (G : GD) (X : WX) (ts : List Nat) (g : Tg) : TG := fun v σ H Q => ∃ W s r O, Rep G W s σ H ∧ RepR G W s σ H r v ∧ (∀ p, OwnAt s.env σ p → O p) ∧ (∀ p, OwnedBy r v p → O p) ∧ PostG G X ts O W H σ (g r s) Q
def TGs' (G : GD) (X : WX) (ts : List Nat) (g : Tgs) : TGs := fun vs σ H Q => ∃ W s ds O, Rep G W s σ H ∧ RepDs G W H ds vs ∧ (∀ p, OwnAt s.env σ p → O p) ∧ PostG G X ts O W H σ (g ds s) Q
def gN (i : Nat) : Tg := fun r => r.put i
def gsN : Tgs := fun ds => match ds with
  | [] => M.pure ()
  | _ => M.bad
def gsC (g : Tg) (u : Tgs) : Tgs := fun ds => match ds with
  | [] => M.bad
  | d :: r => fun s => match g (.val d) s with
    | .ok _ s1 => u r s1
    | .exn x s1 => .exn x s1
    | .bad => .bad
def gT (n : Nat) (u : Tgs) : Tg := fun r s => match r.look s with
  | .ok (.tup ds) s1 => if ds.length = n then u ds s1 else .bad
  | .ok _ _ => .bad
  | .exn x s1 => .exn x s1
  | .bad => .bad
section
variable {G : GD} {X : WX} {Xc : Cx} {N : List Str} {nm : List (Str × NameKind)} {pos : Pos} {σ σ1 : L2.St} {H H1 : Hp} {W W1 : WD} {s s1 : DS} {O O1 : Addr → Prop} {En : Ends} {ts ts1 ts2 : List Nat}
theorem _root_.L2.PG.imp {e : Expr} {t t' : TG} (h : PG Xc e t) (w : ∀ v σ H Q, t' v σ H Q → t v σ H Q) : PG Xc e t' := ⟨fun pins s σ H v u Q I r q => h.run pins s σ H v u Q I r (w v σ H Q q)⟩
theorem _root_.L2.PGs.imp {e : List Expr} {t t' : TGs} (h : PGs Xc e t) (w : ∀ v σ H Q, t' v σ H Q → t v σ H Q) : PGs Xc e t' := ⟨fun pins s σ H v u Q I r q => h.run pins s σ H v u Q I r (w v σ H Q q)⟩
theorem jg_name {i : Nat} {x : Str} (F : Fm Xc G X N nm) (hi : N[i]? = some x) (hx : nm.lookup x = some .local) : PG Xc (.Name x pos) (TGt G X [i] (gN i)) := by
  refine (pg_name (i := i) (by rw [F.eN]; exact F.nd) (by rw [F.eN]; exact hi) (by unfold L2.Loc; rw [F.eS]; exact .inl hx) (.inr (by rw [F.eS]; exact hx))).imp fun v σ H Q ⟨W, s, r, O, rp, rr, hO, hB, hp⟩ => ?_
  show Q (σ.set i (some v)) H
  unfold gN at hp
  cases e : r.put i s with
  | bad => rw [e] at hp; exact hp.elim
  | exn x s2 => exact (R.put_exn e).elim
  | ok u s2 =>
    rw [e] at hp
    obtain ⟨W2, st, rp2⟩ := put_ok rp rr e hO hB
    exact hp W2 _ H Agree.set st rp2
/-- a name that an inner block reads too -/
theorem jg_cell {i : Nat} {x : Str} (F : FmS Xc G X N nm) (hi : N[i]? = some x) (hx : nm.lookup x = some .cell) : PG Xc (.Name x pos) (TGt G X [i] (gN i)) := by
  refine (pg_name (i := i) (by rw [F.eN]; exact F.nd) (by rw [F.eN]; exact hi) (by unfold L2.Loc; rw [F.eS]; exact .inr hx) (.inl (F.fn x))).imp fun v σ H Q ⟨W, s, r, O, rp, rr, hO, hB, hp⟩ => ?_
  show Q (σ.set i (some v)) H
  unfold gN at hp
  cases e : r.put i s with
  | bad => rw [e] at hp; exact hp.elim
  | exn x s2 => exact (R.put_exn e).elim
  | ok u s2 =>
    rw [e] at hp
    obtain ⟨W2, st, rp2⟩ := put_ok rp rr e hO hB
    exact hp W2 _ H Agree.set st rp2
theorem jgs_nil : PGs Xc [] (TGs' G X [] gsN) := pgs_nil.imp fun v σ H Q ⟨W, s, ds, O, rp, rr, hO, hp⟩ => by
  cases ds with
  | nil =>
    have e : v = [] := rr
    exact ⟨e, hp W σ H Agree.refl (Step.refl.subO fun p z => .inl (hO p z)) rp⟩
  | cons d r => exact hp.elim
theorem jgs_cons {e : Expr} {es : List Expr} {g : Tg} {u : Tgs} (h1 : PG Xc e (TGt G X ts1 g)) (h2 : PGs Xc es (TGs' G X ts2 u))
    (hs : (assignEach (e :: es) Xc.env).map (·.2) = assign e Xc.env :: (assignEach es Xc.env).map (·.2) := by rfl) : PGs Xc (e :: es) (TGs' G X (ts1 ++ ts2) (gsC g u)) := by
  refine (pgs_cons h1 h2 hs).imp fun vs σ H Q ⟨W, s, ds, O, rp, rr, hO, hp⟩ => ?_
  cases ds with
  | nil => exact hp.elim
  | cons d r =>
    obtain ⟨v, w, e1, rd, rds⟩ := rr.uncons
    refine ⟨v, w, e1, W, s, .val d, fun p => OwnAt s.env σ p, rp, rd, fun _ z => z, fun _ z => z.elim, ?_⟩
    have hp : PostG G X (ts1 ++ ts2) O W H σ (match g (.val d) s with | .ok _ s1 => u r s1 | .exn x s1 => .exn x s1 | .bad => .bad) Q := hp
    cases e2 : g (.val d) s with
    | bad => rw [e2] at hp; exact hp
    | exn x s1 => rw [e2] at hp; exact PostX.big hp hO
    | ok _ s1 =>
      rw [e2] at hp
      refine fun W1 σ1 H1 a1 st1 rp1 => ⟨W1, s1, r, fun p => OwnAt s1.env σ1 p, rp1, rds.stay (st1.stay rp.apart), fun _ z => z, ?_⟩
      have hp : PostG G X (ts1 ++ ts2) O W H σ (u r s1) Q := hp
      cases e3 : u r s1 with
      | bad => rw [e3] at hp; exact hp
      | exn x s2 => rw [e3] at hp; exact PostX.after hp (st1.bigO hO)
      | ok _ s2 =>
        rw [e3] at hp
        exact fun W2 σ2 H2 a2 st2 rp2 => hp W2 σ2 H2 (a1.trans a2) ((st1.bigO hO).trans st2) rp2
theorem jg_tup {es : List Expr} {k n : Nat} {u : Tgs} (F : Fm Xc G X N nm) (h : PGs Xc es (TGs' G X ts u)) (hn : (assignEach es Xc.env).length = n := by rfl) (hst : (assignEach es Xc.env).findIdx? (·.1) = none := by rfl) : PG Xc (.Tuple es k pos) (TGt G X ts (gT n u)) := by
  refine (pg_tup (n := n) F.calm h hn hst).imp fun v σ H Q ⟨W, s, r, O, rp, rr, hO, hB, hp⟩ => ?_
  unfold gT at hp
  cases e : r.look s with
  | bad => rw [e] at hp; exact hp.elim
  | exn x s2 => exact (R.look_exn e).elim
  | ok d s2 =>
    simp only [e] at hp
    obtain ⟨e1, l⟩ := look_ok rp rr e
    subst e1
    cases d with
    | tup ds =>
      obtain ⟨p, vs, ev, hh, rds⟩ := l.tup
      by_cases c : ds.length = n
      · simp only [if_pos c] at hp
        exact ⟨p, vs, ev, SqT.of hh, by rw [← rds.length]; exact c, W, _, ds, O, rp, rds, hO, hp⟩
      · simp only [if_neg c] at hp; exact hp.elim
    | _ => exact hp.elim
/-- target = e -/
def sAsg (g : Tg) (fa : M R) : M Ctl := fun s => match fa s with
  | .ok r s1 => (match g r s1 with
    | .ok _ s2 => .ok .nx s2
    | .exn x s2 => .exn x s2
    | .bad => .bad)
  | .exn x s1 => .exn x s1
  | .bad => .bad
theorem TSt.asg {g : Tg} {fa : M R} (h : TSt G X (sAsg g fa) En σ H) : TR G X fa σ H fun v H1 => TGt G X ts g v σ H1 En.nx := by
  obtain ⟨W, s, rp, hp⟩ := h
  refine ⟨W, s, rp, ?_⟩
  unfold sAsg at hp
  cases e1 : fa s with
  | bad => rw [e1] at hp; exact hp
  | exn x s1 => rw [e1] at hp; exact hp
  | ok r s1 =>
    simp only [e1] at hp
    intro W1 H1 v st rp1 rr o
    refine ⟨W1, s1, r, fun p => OwnAt s1.env σ p ∨ OwnedBy r v p, rp1, rr, fun p z => .inl z, fun p z => .inr z, ?_⟩
    have st' : Step (OwnAt s.env σ) W H (fun p => OwnAt s1.env σ p ∨ OwnedBy r v p) W1 H1 := st.subO fun p z => (by
      rcases z with z | z
      · exact .inr (.inl z)
      · exact (o p z).elim .inl fun y => .inr (.inr y))
    cases e2 : g r s1 with
    | bad => simp only [e2] at hp; exact hp
    | exn x s2 => simp only [e2] at hp; exact PostX.after hp st'
    | ok u s2 =>
      simp only [e2] at hp
      exact fun W2 σ2 H2 _ st2 rp2 => hp W2 σ2 H2 (st'.trans st2) rp2
theorem j_asg {tg e : Expr} {fa : M R} {g : Tg} (he : PE Xc e (TR G X fa)) (hg : PG Xc tg (TGt G X ts g)) (hs : swapsWithSole [tg] e pos.line Xc.env = pure false := by rfl) (hw : swappedStores [tg] e Xc.env = pure none := by rfl)
    (h1 : (assignEach [tg] Xc.env).map (·.2) = [assign tg Xc.env] := by rfl) : PS Xc (.Assign [tg] e pos) (TSt G X (sAsg g fa)) := (ps_asg he hg hs hw h1).imp fun _ _ _ h => h.asg
end
end DL

/-! What is walked; for; comprehensions. -/
namespace DL
open PySem L2 PyProof.Rows
/-- J gives these, one after another, while what it leans on stays -/
def IterOf (G : GD) (W : WD) (H : Hp) (J : It) (ds : List D) : Prop :=
  ∃ (Gd : Hp → Prop) (Y : Nat → Hp → V → Hp → Prop), L2.Walk J ds.length Gd Y ∧ (∀ W' H', Stay W H W' H' → Gd H') ∧
    ∀ (i : Nat) W' H' x H'', Stay W H W' H' → Y i H' x H'' → ∃ d, ds[i]? = some d ∧ Grow H' H'' ∧ RepD G W' H'' d x
def TIt (G : GD) (X : WX) (f : M (List D)) : TI := fun σ H R => ∃ W s, Rep G W s σ H ∧ (match f s with
  | .ok ds s1 => ∀ W1 H1 J, Step (OwnAt s.env σ) W H (OwnAt s1.env σ) W1 H1 → Rep G W1 s1 σ H1 → IterOf G W1 H1 J ds → R J H1
  | .exn x s1 => PostX G X (OwnAt s.env σ) W H x s1
  | .bad => False)
/-- the loop over items -/
def sForL (g : Tg) (b : M Ctl) : List D → M Ctl
  | [] => M.pure .nx
  | d :: ds => fun s => match g (.val d) s with
    | .ok _ s1 => (match b s1 with
      | .ok .nx s2 => sForL g b ds s2
      | .ok .ct s2 => sForL g b ds s2
      | .ok .bk s2 => .ok .nx s2
      | .ok (.rt r) s2 => .ok (.rt r) s2
      | .exn x s2 => .exn x s2
      | .bad => .bad)
    | .exn x s1 => .exn x s1
    | .bad => .bad
def sFor (g : Tg) (it : M (List D)) (b : M Ctl) : M Ctl := fun s => match it s with
  | .ok ds s1 => sForL g b ds s1
  | .exn x s1 => .exn x s1
  | .bad => .bad
section
variable {G : GD} {X : WX} {Xc : Cx} {N : List Str} {nm nm' : List (Str × NameKind)} {pos : Pos} {σ σ1 : L2.St} {H H1 : Hp} {W W1 : WD} {s s1 : DS} {O O1 : Addr → Prop} {En : Ends} {ts : List Nat}
theorem IterOf.stay {J : It} {ds : List D} (h : IterOf G W H J ds) (st : Stay W H W1 H1) : IterOf G W1 H1 J ds := by
  obtain ⟨Gd, Y, w, a, b⟩ := h
  exact ⟨Gd, Y, w, fun W' H' z => a W' H' (st.trans z), fun i W' H' x H'' z y => b i W' H' x H'' (st.trans z) y⟩
theorem _root_.L2.PI.imp {tg e : Expr} {t t' : TI} (h : PI Xc tg e t) (w : ∀ σ H R, t' σ H R → t σ H R) : PI Xc tg e t' := ⟨fun pins s σ H R I q => h.run pins s σ H R I (w σ H R q)⟩
theorem TSt.for {g : Tg} {it : M (List D)} {b : M Ctl} (h : TSt G X (sFor g it b) En σ H) : tFor (TIt G X it) (TGt G X ts g) (TSt G X b) En σ H := by
  obtain ⟨W, s, rp, hp⟩ := h
  refine ⟨W, s, rp, ?_⟩
  unfold sFor at hp
  cases e1 : it s with
  | bad => rw [e1] at hp; exact hp
  | exn x s1 => rw [e1] at hp; exact hp
  | ok ds s1 =>
    simp only [e1] at hp
    intro W1 H1 J st rp1 io
    have hp := PostS.after hp st
    obtain ⟨Gd, Y, w, a, b0⟩ := id io
    refine for_it w (fun i σ' H' => ∃ W' s', Rep G W' s' σ' H' ∧ IterOf G W' H' J ds ∧ Stay W1 H1 W' H' ∧ PostS G X (OwnAt s'.env σ') W' H' (sForL g b (ds.drop i) s') En) ⟨W1, s1, rp1, io, Stay.refl _ _, hp⟩ ?_ ?_ ?_
    · rintro i σ' H' _ ⟨W', s', _, _, sy, _⟩
      exact a W' H' sy
    · rintro i x σ' H' H'' hi ⟨W', s', rp', io', sy, hp'⟩ hy
      obtain ⟨d, hd, gr, rd⟩ := b0 i W' H' x H'' sy hy
      have e2 : ds.drop i = d :: ds.drop (i + 1) := by
        obtain ⟨hl, e⟩ := List.getElem?_eq_some_iff.mp hd
        rw [← e, List.drop_eq_getElem_cons hl]
      rw [e2] at hp'
      have hp' : PostS G X (OwnAt s'.env σ') W' H' (match g (.val d) s' with
        | .ok _ s1 => (match b s1 with
          | .ok .nx s2 => sForL g b (ds.drop (i + 1)) s2
          | .ok .ct s2 => sForL g b (ds.drop (i + 1)) s2
          | .ok .bk s2 => .ok .nx s2
          | .ok (.rt r) s2 => .ok (.rt r) s2
          | .exn x s2 => .exn x s2
          | .bad => .bad)
        | .exn x s1 => .exn x s1
        | .bad => .bad) En := hp'
      have gst : Step (OwnAt s'.env σ') W' H' (OwnAt s'.env σ') W' H'' := gr.step fun p z => .inl z
      refine ⟨W', s', .val d, OwnAt s'.env σ', rp'.grow gr, rd, fun _ z => z, fun _ z => z.elim, ?_⟩
      cases e3 : g (.val d) s' with
      | bad => rw [e3] at hp'; exact hp'
      | exn x s2 => rw [e3] at hp'; exact PostX.after hp' gst
      | ok u s2 =>
        simp only [e3] at hp'
        intro W2 σ2 H2 _ st2 rp2
        refine ⟨W2, s2, rp2, ?_⟩
        have hp2 := PostS.after hp' (gst.trans st2)
        have st12 : Stay W' H' W2 H2 := gr.stay.trans (st2.stay (rp'.grow gr).apart)
        cases e4 : b s2 with
        | bad => simp only [e4] at hp2; exact hp2
        | exn x s3 => simp only [e4] at hp2; exact hp2
        | ok c s3 =>
          cases c with
          | nx =>
            simp only [e4] at hp2
            exact fun W3 σ3 H3 st3 rp3 => ⟨W3, s3, rp3, (io'.stay st12).stay (st3.stay rp2.apart), (sy.trans st12).trans (st3.stay rp2.apart), hp2.after st3⟩
          | ct =>
            simp only [e4] at hp2
            exact fun W3 σ3 H3 st3 rp3 => ⟨W3, s3, rp3, (io'.stay st12).stay (st3.stay rp2.apart), (sy.trans st12).trans (st3.stay rp2.apart), hp2.after st3⟩
          | bk => simp only [e4] at hp2; exact hp2
          | rt r => simp only [e4] at hp2; exact hp2
    · rintro σ' H' ⟨W', s', rp', _, _, hp'⟩
      rw [List.drop_length] at hp'
      exact hp' W' σ' H' Step.refl rp'
theorem j_for {tg iter : Expr} {body : List Stmt} {g : Tg} {it : M (List D)} {b : M Ctl} (F : FmS Xc G X N nm) (hi : PI Xc tg iter (TIt G X it)) (hg : PG Xc tg (TGt G X ts g)) (hb : PSs Xc body (TSt G X b)) (hs : ∀ x, foldedSetIterable iter Xc.env x = pure x := by intro _; rfl) :
    PS Xc (.For tg iter body [] pos) (TSt G X (sFor g it b)) := (ps_for F.own F.calm hi hg hb hs).imp fun _ _ _ h => h.for
/-! ### what is walked -/
theorem IterOf.list {ds : List D} {p : Addr} {vs : List V} {K : PySem.W.Frag} (f : W.fz p) (h : Rd H p (.lst vs)) (r : RepDs G W H ds vs) : IterOf G W H (Itl K p) ds := by
  refine ⟨fun H' => SqL K H' p vs, YAt vs, by rw [r.length]; exact walk_list, fun W' H' z => .inl (z.rd f h), fun i W' H' x H'' z y => ?_⟩
  obtain ⟨e, hx⟩ := y
  subst e
  obtain ⟨hl, _⟩ := List.getElem?_eq_some_iff.mp hx
  have hl2 : i < ds.length := by rw [r.length]; exact hl
  obtain ⟨v, hv, rv⟩ := r.get (List.getElem?_eq_getElem hl2)
  rw [hx] at hv; cases hv
  exact ⟨_, List.getElem?_eq_getElem hl2, Grow.refl, rv.stay z⟩
theorem IterOf.tuple {ds : List D} {p : Addr} {vs : List V} {K : PySem.W.Frag} (h : H p = some (.tup vs)) (r : RepDs G W H ds vs) : IterOf G W H (Itt K p) ds := by
  refine ⟨fun H' => SqT K H' p vs, YAt vs, by rw [r.length]; exact walk_tup, fun W' H' z => SqT.of (z.kp p _ h (.inr ⟨vs, rfl⟩)), fun i W' H' x H'' z y => ?_⟩
  obtain ⟨e, hx⟩ := y
  subst e
  obtain ⟨hl, _⟩ := List.getElem?_eq_some_iff.mp hx
  have hl2 : i < ds.length := by rw [r.length]; exact hl
  obtain ⟨v, hv, rv⟩ := r.get (List.getElem?_eq_getElem hl2)
  rw [hx] at hv; cases hv
  exact ⟨_, List.getElem?_eq_getElem hl2, Grow.refl, rv.stay z⟩
/-- e, a list or a tuple -/
def sIt (fa : M R) : M (List D) := fun s => match fa s with
  | .ok r s1 => (match r.toD s1 with
    | .ok (.tup ds) s2 => .ok ds s2
    | .ok (.lst ds) s2 => .ok ds s2
    | .ok (.scr ns) s2 => .ok (ns.map D.int) s2
    | .ok _ _ => .bad
    | .exn x s2 => .exn x s2
    | .bad => .bad)
  | .exn x s1 => .exn x s1
  | .bad => .bad
theorem IterOf.scr {ns : List Int} {p : Addr} {K : PySem.W.Frag} (eK : K = G.K) (h : (W.fz p ∧ Rd H p (.lst (ns.map V.int))) ∨ KList G.K p (ns.map V.int)) : IterOf G W H (Itl K p) (ns.map D.int) := by
  subst eK
  refine ⟨fun H' => SqL G.K H' p (ns.map V.int), YAt (ns.map V.int), by rw [List.length_map, ← List.length_map (f := V.int)]; exact walk_list, fun W' H' z => h.elim (fun q => .inl (z.rd q.1 q.2)) .inr, fun i W' H' x H'' z y => ?_⟩
  obtain ⟨e, hx⟩ := y
  subst e
  rw [List.getElem?_map] at hx
  cases q : ns[i]? with
  | none => rw [q] at hx; cases hx
  | some n =>
    rw [q] at hx; cases hx
    exact ⟨.int n, by rw [List.getElem?_map, q]; rfl, Grow.refl, rfl⟩
theorem ji_val {tg e : Expr} {fa : M R} (F : Xc.K = G.K) (ha : PE Xc e (TR G X fa)) : PI Xc tg e (TIt G X (sIt fa)) := by
  refine ⟨fun pins sh σ H Rq I ⟨W, s, rp, hp⟩ => ?_⟩
  unfold sIt at hp
  cases e1 : fa s with
  | bad => rw [e1] at hp; exact hp.elim
  | exn x s1 =>
    refine (pi_list ha).run pins sh σ H Rq I ⟨W, s, rp, ?_⟩
    rw [e1] at hp ⊢; exact hp
  | ok r s1 =>
    simp only [e1] at hp
    cases e2 : r.toD s1 with
    | bad => simp only [e2] at hp
    | exn x s2 => exact (R.toD_exn e2).elim
    | ok d s2 =>
      simp only [e2] at hp
      have key : ∀ W1 H1 v, Step (OwnAt s.env σ) W H (OwnAt s1.env σ) W1 H1 → Rep G W1 s1 σ H1 → RepR G W1 s1 σ H1 r v → (∀ p, OwnedBy r v p → OwnAt s.env σ p ∨ H p = none) → ∃ W2, Step (OwnAt s.env σ) W H (OwnAt s2.env σ) W2 H1 ∧ Rep G W2 s2 σ H1 ∧ RepD G W2 H1 d v := fun W1 H1 v st rp1 rr o => by
        obtain ⟨W2, st2, rp2, rd, _⟩ := toD_ok (O := fun p => OwnAt s1.env σ p ∨ OwnedBy r v p) rp1 rr e2 (fun p z => .inl z) (fun p z => .inr z)
        refine ⟨W2, (st.subO fun p z => ?_).trans st2, rp2, rd⟩
        rcases z with z | z
        · exact .inr (.inl z)
        · exact (o p z).elim .inl fun y => .inr (.inr y)
      cases d with
      | lst ds =>
        refine (pi_list ha).run pins sh σ H Rq I ⟨W, s, rp, ?_⟩
        rw [e1]
        intro W1 H1 v st rp1 rr o
        obtain ⟨W2, st2, rp2, rd⟩ := key W1 H1 v st rp1 rr o
        obtain ⟨p, vs, e, f, h, r⟩ := rd
        exact ⟨p, e, ⟨vs, .inl h⟩, hp W2 H1 _ st2 rp2 (IterOf.list f h r)⟩
      | scr ns =>
        refine (pi_list ha).run pins sh σ H Rq I ⟨W, s, rp, ?_⟩
        rw [e1]
        intro W1 H1 v st rp1 rr o
        obtain ⟨W2, st2, rp2, rd⟩ := key W1 H1 v st rp1 rr o
        obtain ⟨p, e, q⟩ := rd
        exact ⟨p, e, ⟨_, q.elim (fun z => .inl z.2) fun z => by rw [F]; exact .inr z⟩, hp W2 H1 _ st2 rp2 (IterOf.scr F q)⟩
      | tup ds =>
        refine (pi_tup ha).run pins sh σ H Rq I ⟨W, s, rp, ?_⟩
        rw [e1]
        intro W1 H1 v st rp1 rr o
        obtain ⟨W2, st2, rp2, rd⟩ := key W1 H1 v st rp1 rr o
        obtain ⟨p, vs, e, h, r⟩ := rd
        exact ⟨p, e, ⟨vs, SqT.of h⟩, hp W2 H1 _ st2 rp2 (IterOf.tuple h r)⟩
      | _ => exact hp.elim
/-- lo, lo + 1, .. -/
def rangeD (lo : Int) (n : Nat) : List D := (List.range n).map fun (k : Nat) => .int (lo + (k : Int))
theorem rangeD_get {lo : Int} {n i : Nat} (h : i < n) : (rangeD lo n)[i]? = some (.int (lo + (i : Int))) := by
  unfold rangeD
  rw [List.getElem?_map, List.getElem?_range h]; rfl
theorem IterOf.range {lo : Int} {n : Nat} : IterOf G W H (Itr lo n) (rangeD lo n) := by
  have hl : (rangeD lo n).length = n := by unfold rangeD; simp
  refine ⟨fun _ => True, fun i H' x H'' => i < n ∧ H'' = H' ∧ x = .int (lo + (i : Int)), ?_, fun _ _ _ => trivial, fun i W' H' x H'' z ⟨hi, e, ex⟩ => ?_⟩
  · rw [hl]
    exact ⟨fun i _ hi _ => hi, fun _ _ => Nat.le_refl _, fun i _ _ _ hi _ y => ⟨hi, y⟩⟩
  · subst e
    exact ⟨_, rangeD_get hi, Grow.refl, ex⟩
def rlim : Int := 1000000
theorem rlim_lo {n : Int} (h : -rlim ≤ n) : -(2 ^ 62) ≤ n := by unfold rlim at h; omega
theorem rlim_hi {n : Int} (h : n ≤ rlim) : n < 2 ^ 62 := by unfold rlim at h; omega
def ints1 : List D → Option Int
  | [.int n] => some n
  | _ => none
def ints2 : List D → Option (Int × Int)
  | [.int m, .int n] => some (m, n)
  | _ => none
def ints3 : List D → Option (Int × Int × Int)
  | [.int m, .int n, .int k] => some (m, n, k)
  | _ => none
theorem ints1_eq {ds : List D} {n : Int} (h : ints1 ds = some n) : ds = [.int n] := by
  unfold ints1 at h; split at h <;> simp_all
theorem ints2_eq {ds : List D} {n : Int × Int} (h : ints2 ds = some n) : ds = [.int n.1, .int n.2] := by
  unfold ints2 at h; split at h
  · cases h; rfl
  · cases h
theorem ints3_eq {ds : List D} {n : Int × Int × Int} (h : ints3 ds = some n) : ds = [.int n.1, .int n.2.1, .int n.2.2] := by
  unfold ints3 at h; split at h
  · cases h; rfl
  · cases h
def sRng1 (fs : M (List D)) : M (List D) := fun s => match fs s with
  | .ok ds s1 => (match ints1 ds with
    | some n => if -rlim ≤ n ∧ n ≤ rlim then .ok (rangeD 0 n.toNat) s1 else .bad
    | none => .bad)
  | .exn x s1 => .exn x s1
  | .bad => .bad
def sRng2 (fs : M (List D)) : M (List D) := fun s => match fs s with
  | .ok ds s1 => (match ints2 ds with
    | some n => if (-rlim ≤ n.1 ∧ n.1 ≤ rlim) ∧ -rlim ≤ n.2 ∧ n.2 ≤ rlim then .ok (rangeD n.1 (n.2 - n.1).toNat) s1 else .bad
    | none => .bad)
  | .exn x s1 => .exn x s1
  | .bad => .bad
/-- downward by ones -/
def sRng3 (fs : M (List D)) : M (List D) := fun s => match fs s with
  | .ok ds s1 => (match ints3 ds with
    | some n => if n.2.2 = -1 ∧ (-rlim ≤ n.1 ∧ n.1 ≤ rlim) ∧ -rlim ≤ n.2.1 ∧ n.2.1 ≤ rlim then .ok ((List.range (n.1 - n.2.1).toNat).map fun (k : Nat) => .int (n.1 - (k : Int))) s1 else .bad
    | none => .bad)
  | .exn x s1 => .exn x s1
  | .bad => .bad
theorem ji_range1 {tg a : Expr} {fs : M (List D)} {p : Pos} (F : Fm Xc G X N nm) (hg : nm.lookup ("range" : Str) = some .globalImplicit) (hm : G.mg ("range" : Str) = none) (ha : PA Xc [a] (TA' G X fs)) (hs : starEach [a] Xc.env = [(false, eval a Xc.env)] := by rfl) : PI Xc tg (.Call (.Name "range" p) [a] [] pos) (TIt G X (sRng1 fs)) := by
  refine (pi_range1 (by show Xc.env.scope.names.lookup _ = _; rw [F.eS]; exact hg) (by rw [F.eM]; exact hm) ha hs).imp fun σ H Rq ⟨W, s, rp, hp⟩ => ⟨W, s, rp, ?_⟩
  unfold sRng1 at hp
  cases e1 : fs s with
  | bad => rw [e1] at hp; exact hp
  | exn x s1 => rw [e1] at hp; exact hp
  | ok ds s1 =>
    intro W1 H1 vs st rp1 rds
    rw [e1] at hp
    simp only [] at hp
    cases e2 : ints1 ds with
    | none => simp only [e2] at hp
    | some n =>
      simp only [e2] at hp
      have e3 := ints1_eq e2
      subst e3
      obtain ⟨v, r, e, h1, h2⟩ := rds.uncons
      have ev : v = .int n := h1
      have er : r = [] := h2
      subst ev er
      by_cases c : -rlim ≤ n ∧ n ≤ rlim
      · simp only [if_pos c] at hp
        have io : IterOf G W1 H1 (Itr 0 n.toNat) (rangeD 0 n.toNat) := IterOf.range
        exact ⟨n, e, rlim_lo c.1, rlim_hi c.2, hp W1 H1 _ st rp1 io⟩
      · simp only [if_neg c] at hp
theorem ji_range2 {tg a b : Expr} {fs : M (List D)} {p : Pos} (F : Fm Xc G X N nm) (hg : nm.lookup ("range" : Str) = some .globalImplicit) (hm : G.mg ("range" : Str) = none) (ha : PA Xc [a, b] (TA' G X fs)) (hs : starEach [a, b] Xc.env = [(false, eval a Xc.env), (false, eval b Xc.env)] := by rfl) (hs2 : starEach [b] Xc.env = [(false, eval b Xc.env)] := by rfl) : PI Xc tg (.Call (.Name "range" p) [a, b] [] pos) (TIt G X (sRng2 fs)) := by
  refine (pi_range2 (by show Xc.env.scope.names.lookup _ = _; rw [F.eS]; exact hg) (by rw [F.eM]; exact hm) ha hs hs2).imp fun σ H Rq ⟨W, s, rp, hp⟩ => ⟨W, s, rp, ?_⟩
  unfold sRng2 at hp
  cases e1 : fs s with
  | bad => rw [e1] at hp; exact hp
  | exn x s1 => rw [e1] at hp; exact hp
  | ok ds s1 =>
    intro W1 H1 vs st rp1 rds
    rw [e1] at hp
    simp only [] at hp
    cases e2 : ints2 ds with
    | none => simp only [e2] at hp
    | some n =>
      simp only [e2] at hp
      have e3 := ints2_eq e2
      obtain ⟨m, n⟩ := n
      simp only [] at e3 hp
      subst e3
      obtain ⟨v, r, e, h1, h2⟩ := rds.uncons
      obtain ⟨v2, r2, e2, h3, h4⟩ := RepDs.uncons h2
      have ev : v = .int m := h1
      have ev2 : v2 = .int n := h3
      have er : r2 = [] := h4
      subst ev ev2 er e2
      by_cases c : (-rlim ≤ m ∧ m ≤ rlim) ∧ -rlim ≤ n ∧ n ≤ rlim
      · simp only [if_pos c] at hp
        exact ⟨m, n, e, ⟨rlim_lo c.1.1, rlim_hi c.1.2, rlim_lo c.2.1, rlim_hi c.2.2⟩, hp W1 H1 _ st rp1 IterOf.range⟩
      · simp only [if_neg c] at hp
theorem ji_range3 {tg a b c : Expr} {fs : M (List D)} {p : Pos} (F : Fm Xc G X N nm) (hg : nm.lookup ("range" : Str) = some .globalImplicit) (hm : G.mg ("range" : Str) = none) (ha : PA Xc [a, b, c] (TA' G X fs)) (hs : starEach [a, b, c] Xc.env = (false, eval a Xc.env) :: starEach [b, c] Xc.env := by rfl) (hpl : (backTo pos (starEach [b, c] Xc.env)).any (·.1) = false := by rfl) : PI Xc tg (.Call (.Name "range" p) [a, b, c] [] pos) (TIt G X (sRng3 fs)) := by
  refine (pi_range3 (by show Xc.env.scope.names.lookup _ = _; rw [F.eS]; exact hg) (by rw [F.eM]; exact hm) ha hs hpl).imp fun σ H Rq ⟨W, s, rp, hp⟩ => ⟨W, s, rp, ?_⟩
  unfold sRng3 at hp
  cases e1 : fs s with
  | bad => rw [e1] at hp; exact hp
  | exn x s1 => rw [e1] at hp; exact hp
  | ok ds s1 =>
    intro W1 H1 vs st rp1 rds
    rw [e1] at hp
    simp only [] at hp
    cases e2 : ints3 ds with
    | none => simp only [e2] at hp
    | some n =>
      simp only [e2] at hp
      have e3 := ints3_eq e2
      obtain ⟨m, n, k⟩ := n
      simp only [] at e3 hp
      subst e3
      obtain ⟨v, r, e, h1, h2⟩ := rds.uncons
      obtain ⟨v2, r2, e2, h3, h4⟩ := RepDs.uncons h2
      obtain ⟨v3, r3, e3, h5, h6⟩ := RepDs.uncons h4
      have ev : v = .int m := h1
      have ev2 : v2 = .int n := h3
      have ev3 : v3 = .int k := h5
      have er : r3 = [] := h6
      subst ev ev2 ev3 er e3 e2
      by_cases c : k = -1 ∧ (-rlim ≤ m ∧ m ≤ rlim) ∧ -rlim ≤ n ∧ n ≤ rlim
      · simp only [if_pos c] at hp
        obtain ⟨ck, c1, c2⟩ := c
        subst ck
        refine ⟨m, n, -1, (m - n).toNat, e, RgC.neg (rlim_lo c1.1) (rlim_hi c1.2) (rlim_lo c2.1) (rlim_hi c2.2), hp W1 H1 _ st rp1 ?_⟩
        refine ⟨fun _ => True, fun i H' x H'' => i < (m - n).toNat ∧ H'' = H' ∧ x = .int (m + (i : Nat) * (-1)), ?_, fun _ _ _ => trivial, fun i W' H' x H'' z ⟨hi, e, ex⟩ => ?_⟩
        · rw [List.length_map, List.length_range]
          exact ⟨fun i _ hi _ => hi, fun _ _ => Nat.le_refl _, fun i _ _ _ hi _ y => ⟨hi, y⟩⟩
        · subst e
          refine ⟨_, by rw [List.getElem?_map, List.getElem?_range hi]; rfl, Grow.refl, ?_⟩
          rw [ex]
          show V.int _ = V.int _
          congr 1
          omega
      · simp only [if_neg c] at hp
end
end DL

/-! Defs: their promise, their calls. -/
namespace DL
open PySem L2 PyProof.Rows
/-- a def's body at its parameters' values; n names -/
def fnOf (n : Nat) (b : M Ctl) (ds : List D) : M R := fun s => match b { env := ds.map Slot.val ++ List.replicate (n - ds.length) Slot.un, sto := s.sto } with
  | .ok (.rt (.val d)) s' => .ok (.val d) { s with sto := s'.sto }
  | .ok (.rt (.own d)) s' => .ok (.own d) { s with sto := s'.sto }
  | .ok (.rt (.slot _)) _ => .bad
  | .ok .nx s' => .ok (.val .non) { s with sto := s'.sto }
  | .ok .bk _ => .bad
  | .ok .ct _ => .bad
  | .exn x s' => .exn x { s with sto := s'.sto }
  | .bad => .bad
/-- the promise that goes with it -/
def spD (G : GD) (n : Nat) (φ : List D → M R) : Sp := fun vs H Q E => vs.length = n ∧ ∃ (W : WD) (s : DS) (σ : L2.St) (ds : List D), Rep G W s σ H ∧ RepDs G W H ds vs ∧ PostE G (fun c d σ' H' => σ' = σ → E c d H') (OwnAt s.env σ) W H σ (φ ds s) Q
structure RoomG (k : Nat) (A : Around) : Prop extends Room k A where
  gu : A.guards = some []
theorem RoomG.mono {j k : Nat} {A : Around} (r : RoomG k A) (h : j ≤ k) : RoomG j A := ⟨r.toRoom.mono h, r.gu⟩
theorem RoomG.deeper {k : Nat} {A : Around} (r : RoomG (k + 1) A) (env : Env) : RoomG k (A.deeper env) := ⟨r.toRoom.deeper env, r.gu⟩
/-- a def keeps its promise, wherever nothing is being written out -/
structure FnG (P : Program) (w : World) (K : PySem.W.Frag) (mg : Str → Option Value) (base : Heap) (k : Nat) (f : Addr) (fd : FuncData) (ps : List Str) (sp : Sp) : Prop where
  len : ∀ vs H Q E, sp vs H Q E → vs.length = ps.length
  run : ∀ {A : Around} {outer : List Env} {s : Shared} {H : Hp} {args : Args} {us : List Value} {vs : List V} {Q : VK} {E : XK}, RoomG k A → Env0 P w K mg base A outer s H →
    BindsTo s fd args (ps.zip us) → Vals vs us → sp vs H Q E → codeAny (model P w) A (.call (.ref f) args) (CR (L2.CX P w) outer P w H s Q E) s
section
variable {P : Program} {w : World} {K : PySem.W.Frag} {mg : Str → Option Value} {base : Heap}
theorem FnG.mono {j k : Nat} {f : Addr} {fd : FuncData} {ps : List Str} {sp : Sp} (F : FnG P w K mg base j f fd ps sp) (h : j ≤ k) : FnG P w K mg base k f fd ps sp := ⟨F.len, fun r => F.run (r.mono h)⟩
theorem fnG_of {x qual : Str} {params : Arguments} {body : List Stmt} {scope : Scope} {dvs : List V} {kws : List (Str × V)} {f : Addr} {fd : FuncData} {N ps : List Str} {k : Nat} {sp : Sp}
    (F : FunD K x qual params body scope dvs kws f fd) (S : FnScope N ps scope) (len : ∀ vs H Q E, sp vs H Q E → vs.length = ps.length)
    (hb : ∀ (cdv : Value) (A : Around) (outer : List Env) (s : Shared) (H : Hp) (vs : List V) (Q : VK) (E : XK), RoomG k (A.deeper (envOfC qual scope s.heap.objs.size f cdv)) → sp vs H Q E →
      ∃ t, PSs (cxOf (L2.CX P w) P w K mg base N qual scope f cdv A outer s H E) body t ∧ t { nx := fun _ H' => Q .non H', rt := Q } (start N vs) H) : FnG P w K mg base (k + 1) f fd ps sp := by
  obtain ⟨oc, od, dV, kV, doc, pm, an, cdv, ct, osl, rfl, lk, hcd, _, _⟩ := F.ex
  refine ⟨len, fun {A outer s H args us vs Q E} rm e0 hbd hv hs => ?_⟩
  have hn := len _ _ _ _ hs
  have hK : K.In s.heap := e0.mod.kin.keeps fun b o e => (e0.bs b o e).1
  have hL : s.heap.NoLimit := e0.mod.nolimit.keeps fun b o e => (e0.bs b o e).1
  have kinds : ∀ q ∈ ps.zip us, scope.names.lookup q.1 = some .local ∨ (scope.names.lookup q.1 = some .cell ∧ ((cellsFrom (s.heap.objs.size + 1) scope.names []).lookup q.1).isSome = true) := by
    rintro ⟨z, u⟩ hz
    exact (S.par z (List.of_mem_zip hz).1).elim .inl fun q => .inr ⟨q, PySem.W.cellsFrom_some _ _ _ (.inl q)⟩
  refine codeAny_call_function rm.toRoom.depth (hK _ _ lk) rfl S.co S.gen rfl (PySem.W.codeRec_of hK hcd) (hbd _ _ _ _ (wpAny_newFunctionEnv_cells S.kind kinds ?_))
  intro env he s1 x
  subst he
  refine ⟨hL.keeps x.toInCall.keep, codeAny_func ?_⟩
  obtain ⟨t, ht, hq⟩ := hb cdv A outer s H vs Q E (rm.deeper _) hs
  refine wpAny_mono (ht.run [] s1 (start N vs) H _ (inv_start S rm.toRoom.hd e0 hn hv x) hq) (fun fl s' z => ?_) fun _ _ z => z
  cases fl with
  | ret u =>
    obtain ⟨v, σ', H', J, rv, q⟩ := z
    exact ⟨v, H', J.os, J.bare, J.base, J.hok, rv, q⟩
  | next =>
    obtain ⟨σ', H', J, q⟩ := z
    exact ⟨V.non, H', J.os, J.bare, J.base, J.hok, rfl, q⟩
  | brk => exact z.elim fun _ z => z.elim fun _ z => z.2.elim
  | cont => exact z.elim fun _ z => z.elim fun _ z => z.2.elim
end
section
variable {G : GD} {X : WX} {Xc : Cx} {N : List Str} {nm : List (Str × NameKind)} {pos : Pos} {σ σ1 : L2.St} {H H1 : Hp} {W W1 : WD} {s s1 : DS} {O O1 : Addr → Prop} {Q : VK}
/-- the caller's own things behind a call -/
theorem Rep.frame {σ' : L2.St} {s' : DS} (rp : Rep G W s σ H) (st : Step (fun _ => False) W H O1 W1 H1) (rp1 : Rep G W1 s' σ' H1) : Rep G W1 { s with sto := s'.sto } σ H1 := by
  have sy : Stay W H W1 H1 := st.stay ⟨rp.apart.mf, fun _ z => z.elim⟩
  refine ⟨rp.len, fun i d e => ?_, fun i d e => ?_, rp.sep, rp1.slen, rp1.sto, rp1.nod, rp1.fzd⟩
  · obtain ⟨v, a, b⟩ := rp.val i d e
    exact ⟨v, a, b.stay sy⟩
  · obtain ⟨p, a, c, nf, nm, ni⟩ := rp.own i d e
    obtain ⟨o, ho, _, _⟩ := c.some
    have hn : H p ≠ none := by rw [ho]; exact fun z => by cases z
    refine ⟨p, a, c.stay sy fun o h => st.kp p o h nm fun z => z, fun z => ?_, fun z => ?_, ni⟩
    · rcases st.nfz p z with q | q | q
      · exact nf q
      · exact hn q
      · exact q
    · rcases st.nmu p z with q | q | q
      · exact nm q
      · exact hn q
      · exact q
theorem start_own {n : Nat} {ds : List D} {p : Addr} (h : OwnAt (ds.map Slot.val ++ List.replicate n Slot.un) σ p) : False := by
  obtain ⟨i, d, e, _⟩ := h
  have m := List.mem_of_getElem? e
  rcases List.mem_append.mp m with q | q
  · obtain ⟨x, _, hx⟩ := List.mem_map.mp q; cases hx
  · cases (List.eq_of_mem_replicate q)
/-- the callee's view at its entry -/
theorem Rep.start {ds : List D} {vs : List V} {N : List Str} (rp : Rep G W s σ H) (r : RepDs G W H ds vs) (hl : vs.length ≤ N.length) : Rep G W { env := ds.map Slot.val ++ List.replicate (N.length - ds.length) Slot.un, sto := s.sto } (start N vs) H := by
  have own : ∀ (i : Nat) (d : D), (ds.map Slot.val ++ List.replicate (N.length - ds.length) Slot.un)[i]? = some (.own d) → False := fun i d e => by
    have m := List.mem_of_getElem? e
    rcases List.mem_append.mp m with q | q
    · obtain ⟨x, _, hx⟩ := List.mem_map.mp q; cases hx
    · cases (List.eq_of_mem_replicate q)
  have e1 := r.length
  refine ⟨?_, fun i d e => ?_, fun i d e => (own i d e).elim, fun i j d e p h1 => (own i d h1).elim, rp.slen, rp.sto, rp.nod, rp.fzd⟩
  · unfold L2.start
    simp only [List.length_append, List.length_map, List.length_replicate, e1]
  · by_cases hi : i < ds.length
    · rw [List.getElem?_append_left (by simpa using hi), List.getElem?_map] at e
      cases q : ds[i]? with
      | none => rw [q] at e; cases e
      | some x =>
        rw [q] at e; cases e
        obtain ⟨v, hv, rv⟩ := r.get q
        refine ⟨v, ?_, rv⟩
        unfold L2.start
        rw [List.getElem?_append_left (by rw [List.length_map, ← e1]; exact hi), List.getElem?_map, hv]; rfl
    · rw [List.getElem?_append_right (by simpa using hi)] at e
      cases (List.eq_of_mem_replicate (List.mem_of_getElem? e))
/-- from the promise to the body's reading -/
theorem fnOf_run {b : M Ctl} {ds : List D} {vs : List V} {E : XK} {N : List Str} (rp : Rep G W s σ H) (r : RepDs G W H ds vs) (hl : vs.length ≤ N.length)
    (h : PostE G (fun c d σ' H' => σ' = σ → E c d H') (OwnAt s.env σ) W H σ (fnOf N.length b ds s) Q) : TSt G (fun c d _ H' => E c d H') b { nx := fun _ H' => Q .non H', rt := Q } (start N vs) H := by
  refine ⟨W, _, rp.start r hl, ?_⟩
  unfold fnOf at h
  have e0 := rp.apart
  have up : ∀ {O' : Addr → Prop} {W' : WD} {H' : Hp}, Step (OwnAt (ds.map Slot.val ++ List.replicate (N.length - ds.length) Slot.un) (start N vs)) W H O' W' H' → Step (fun _ => False) W H O' W' H' := fun st => st.bigO fun p z => start_own z
  have up2 : ∀ {O' : Addr → Prop} {W' : WD} {H' : Hp}, Step (fun _ => False) W H O' W' H' → Step (OwnAt s.env σ) W H (OwnAt s.env σ) W' H' := fun st => (st.bigO fun p z => z.elim).subO fun p z => .inl z
  generalize eb : b { env := ds.map Slot.val ++ List.replicate (N.length - ds.length) Slot.un, sto := s.sto } = out at h
  cases out with
  | bad => exact h
  | exn x s' =>
    intro W' σ' H' c d st rp' rx
    have st0 := up st
    exact h W' σ H' c d (up2 st0) (rp.frame st0 rp') rx rfl
  | ok c s' =>
    intro W' σ' H' st rp'
    have st0 := up st
    cases c with
    | bk => exact h.elim
    | ct => exact h.elim
    | nx => exact h W' H' .non (up2 st0) (rp.frame st0 rp') rfl fun _ z => z.elim
    | rt q =>
      intro v rr o
      cases q with
      | slot i => exact h.elim
      | val d => exact h W' H' v (up2 st0) (rp.frame st0 rp') rr fun _ z => z.elim
      | own d =>
        have hno : ∀ p, v = .ref p → H p = none := fun p e => (o p e).elim (fun z => (start_own z).elim) id
        refine h W' H' v (up2 st0) (rp.frame st0 rp') ?_ fun p e => .inr (hno p e)
        obtain ⟨p, e, c, nf, nm, no, ni⟩ := rr
        exact ⟨p, e, c, nf, nm, fun z => rp.ownSome z (hno p e), ni⟩
/-! ### the call -/
/-- what a body knows of a def of the module: k calls deep at most, its parameters, its promise -/
structure Has (P : Program) (w : World) (K : PySem.W.Frag) (mg : Str → Option Value) (base : Heap) (G : GD) (k : Nat) (x : Str) (f : Addr) (fd : FuncData) (ps : List Str) (φ : List D → M R) : Prop where
  fn : FnG P w K mg base k f fd ps (spD G ps.length φ)
  mg : mg x = some (.ref f)
  kp : PySem.W.keepIn K (.ref f) = true
  bd : Binds K fd ps []
def sCall (n : Nat) (φ : List D → M R) (fs : M (List D)) : M R := fs >>= fun ds => if ds.length = n then φ ds else M.bad
theorem run_g {k : Nat} {f : Addr} {fd : FuncData} {ps : List Str} {sp : Sp} {E : XK} {pins : List (Addr × Obj)} {t : Shared} {args : Args} {us : List Value} {vs : List V} (F : FnG Xc.prog Xc.w Xc.K Xc.mg Xc.base k f fd ps sp) (hr : RoomG k Xc.A)
    (hx : PassesAt (L2.CX Xc.prog Xc.w) Xc σ E) (I : Inv Xc pins σ H t) (hb : BindsTo t fd args (ps.zip us)) (r : Vals vs us) (h : sp vs H Q E) : codeAny (model Xc.prog Xc.w) Xc.A (.call (.ref f) args) (fun r s' => match r with | .ok (.ret u) => EP Xc pins σ Q u s' | .ok _ => False | .error e => Xc.xe e s') t := by
  refine codeAny_mono (F.run hr I.env0 hb r h) fun r s' hq => ?_
  cases r with
  | error e => exact hx pins H t e s' I hq
  | ok fl =>
    cases fl with
    | ret u => exact I.after hq
    | next => exact hq
    | brk => exact hq
    | cont => exact hq
theorem PostE.impX {X' : WX} {out : Out R} (h : PostE G X O W H σ out Q) (g : ∀ c d σ' H', X c d σ' H' → X' c d σ' H') : PostE G X' O W H σ out Q := by
  cases out with
  | ok r s' => exact h
  | exn x s' => exact fun W' σ' H' c d a b e => g _ _ _ _ (h W' σ' H' c d a b e)
  | bad => exact h
theorem spD_of {n : Nat} {φ : List D → M R} {ds : List D} {vs : List V} (rp : Rep G W s σ H) (rd : RepDs G W H ds vs) (h : PostE G X (OwnAt s.env σ) W H σ ((if ds.length = n then φ ds else M.bad) s) Q) : spD G n φ vs H Q (WE X σ) := by
  by_cases c : ds.length = n
  · rw [if_pos c] at h
    exact ⟨by rw [← rd.length]; exact c, W, s, σ, ds, rp, rd, h.impX fun c d σ' H' z e => by subst e; exact z⟩
  · rw [if_neg c] at h; exact h.elim
theorem j_call {k : Nat} {x : Str} {f : Addr} {fd : FuncData} {ps : List Str} {φ : List D → M R} {e : Expr} {es : List Expr} {fs : M (List D)} {p : Pos} (F : Fm Xc G X N nm) (C : Has Xc.prog Xc.w Xc.K Xc.mg Xc.base G k x f fd ps φ) (hr : RoomG k Xc.A) (hg : nm.lookup x = some .globalImplicit)
    (ha : PA Xc (e :: es) (TA' G X fs)) (hd : (x == ("__debug__" : Str)) = false := by decide) (he : starEach (e :: es) Xc.env = (false, eval e Xc.env) :: starEach es Xc.env := by rfl) (hpl : (backTo pos (starEach es Xc.env)).any (·.1) = false := by rfl) : PE Xc (.Call (.Name x p) (e :: es) [] pos) (TR G X (sCall ps.length φ fs)) := by
  refine ⟨fun pins t σ H Q I h => wpAny_Call_Name_kw (ld_glob I (by show Xc.env.scope.names.lookup x = _; rw [F.eS]; exact hg) C.mg ?_ hd)⟩
  refine PySem.W.callWith_K (h₀ := Xc.base) I.ok.mod.kin C.kp (thn (ha.run pos pins t σ H _ I (TA'.run h)) ?_) he hpl
  rintro us t1 ⟨vs, H1, I1, r, W1, s1, ds, rp, rd, hp⟩
  have q := spD_of rp rd hp
  have b := C.bd t1 us I1.kIn (by rw [List.append_nil, ← r.length]; exact q.1)
  rw [List.append_nil] at b
  refine ⟨I1.kIn, wpAny_call (codeAny_mono (run_g C.fn hr (passAt F.tk σ) I1 b r q) fun r s' z => ?_)⟩
  cases r with
  | error e => exact z
  | ok fl => cases fl <;> exact z
theorem j_call0 {k : Nat} {x : Str} {f : Addr} {fd : FuncData} {ps : List Str} {φ : List D → M R} {p : Pos} (F : Fm Xc G X N nm) (C : Has Xc.prog Xc.w Xc.K Xc.mg Xc.base G k x f fd ps φ) (hr : RoomG k Xc.A) (hg : nm.lookup x = some .globalImplicit)
    (hd : (x == ("__debug__" : Str)) = false := by decide) : PE Xc (.Call (.Name x p) [] [] pos) (TR G X (sCall ps.length φ sNil)) := by
  refine ⟨fun pins t σ H Q I h => wpAny_Call_Name_kw (ld_glob I (by show Xc.env.scope.names.lookup x = _; rw [F.eS]; exact hg) C.mg ?_ hd)⟩
  obtain ⟨W1, s1, rp, hp⟩ := h
  have q := spD_of (ds := []) (vs := []) rp rfl hp
  have b := C.bd t [] I.kIn q.1
  refine PySem.W.callWith_K0 I.kIn C.kp (wpAny_call (codeAny_mono (run_g C.fn hr (passAt F.tk σ) I b .nil q) fun r s' z => ?_))
  cases r with
  | error e => exact z
  | ok fl => cases fl <;> exact z
/-! ### keywords -/
theorem TA'.uncons {fa : M R} {fs : M (List D)} {Qs : List V → Hp → Prop} (h : TA' G X (sCons fa fs) σ H Qs) : tCons (TR G X fa) (TA' G X fs) σ H Qs := by
  obtain ⟨W, t, rp, hp⟩ := h
  unfold sCons at hp
  refine ⟨W, t, rp, ?_⟩
  cases e1 : fa t with
  | bad => rw [e1] at hp; exact hp.elim
  | exn x t1 => rw [e1] at hp; exact hp
  | ok r t1 =>
    simp only [e1] at hp
    intro W1 H1 v st1 rp1 r1 o1
    cases e2 : r.toD t1 with
    | bad => simp only [e2] at hp; exact hp.elim
    | exn x t2 => exact (R.toD_exn e2).elim
    | ok d t2 =>
      simp only [e2] at hp
      obtain ⟨W2, st2, rp2, rd, _⟩ := toD_ok (O := fun p => OwnAt t1.env σ p ∨ OwnedBy r v p) rp1 r1 e2 (fun p z => .inl z) (fun p z => .inr z)
      have st12 : Step (OwnAt t.env σ) W H (OwnAt t2.env σ) W2 H1 := (st1.subO fun p z => (by
        rcases z with z | z
        · exact .inr (.inl z)
        · exact (o1 p z).elim .inl fun y => .inr (.inr y))).trans st2
      refine ⟨W2, t2, rp2, ?_⟩
      cases e3 : fs t2 with
      | bad => simp only [e3] at hp; exact hp.elim
      | exn x t3 =>
        simp only [e3] at hp
        exact fun W' σ' H' c d' a b z => hp W' σ' H' c d' (st12.trans a) b z
      | ok ds t3 =>
        simp only [e3] at hp
        intro W3 H3 vs st3 rp3 rds
        exact hp W3 H3 (v :: vs) (st12.trans st3) rp3 (.cons (rd.stay (st3.stay rp2.apart)) rds)
theorem _root_.L2.PK.imp {kws : List Keyword} {t t' : TA} (h : PK Xc kws t) (w : ∀ σ H Q, t' σ H Q → t σ H Q) : PK Xc kws t' := ⟨fun pos pins s σ H Q I q => h.run pos pins s σ H Q I (w σ H Q q)⟩
theorem j_knil : PK Xc [] (TA' G X sNil) := pk_nil.imp fun σ H Q h => by
  obtain ⟨W, t, rp, hp⟩ := h
  exact hp W H [] (Step.refl.subO fun p z => .inl z) rp rfl
theorem j_kcons {e : Expr} {kws : List Keyword} {fa : M R} {fs : M (List D)} {n : Option Str} {kp : Pos} (ha : PE Xc e (TR G X fa)) (hr : PK Xc kws (TA' G X fs)) : PK Xc (⟨n, e, kp⟩ :: kws) (TA' G X (sCons fa fs)) := (pk_cons ha hr).imp fun _ _ _ h => h.uncons
/-- g puts positional values and keywords' values in the parameters' order -/
def sCallK (n n1 n2 : Nat) (g : List D → List D → List D) (φ : List D → M R) (fs ks : M (List D)) : M R := fs >>= fun ds => ks >>= fun es => if ds.length = n1 ∧ es.length = n2 then (if (g ds es).length = n then φ (g ds es) else M.bad) else M.bad
theorem RepDs.shape {ds : List D} {vs : List V} (h : RepDs G W H ds vs) : (ds = [] ∧ vs = []) ∨ ∃ d D2 v V2, ds = d :: D2 ∧ vs = v :: V2 ∧ RepD G W H d v ∧ RepDs G W H D2 V2 := by
  cases ds with
  | nil => exact .inl ⟨rfl, h⟩
  | cons d r =>
    obtain ⟨v, w, e, h1, h2⟩ := h.uncons
    exact .inr ⟨d, r, v, w, rfl, e, h1, h2⟩
/-- how such a call binds -/
structure KB (K : PySem.W.Frag) (fd : FuncData) (ps : List Str) (n : Nat) (ks : List Str) (g : {α : Type} → List α → List α → List α) : Prop where
  to : ∀ (s : Shared) (us ws : List Value), K.In s.heap → us.length = n → ws.length = ks.length → BindsTo s fd ⟨us, ks.zip ws⟩ (ps.zip (g us ws))
  rel : ∀ {vs : List V} {us : List Value} {zs : List V} {ws : List Value}, Vals vs us → Vals zs ws → Vals (g vs zs) (g us ws)
  rep : ∀ {G : GD} {W : WD} {H : Hp} {ds es : List D} {vs zs : List V}, RepDs G W H ds vs → RepDs G W H es zs → RepDs G W H (g ds es) (g vs zs)
theorem kb0 {K : PySem.W.Frag} {x qual : Str} {params : Arguments} {body : List Stmt} {scope : Scope} {kws : List (Str × V)} {f : Addr} {fd : FuncData} {ps ks : List Str} {n : Nat} {g : {α : Type} → List α → List α → List α} (F : FunD K x qual params body scope [] kws f fd)
    (h : ∀ (kV doc pm : Value) (an : Option Addr) (cdv ct : Value) (us ws : List Value), us.length = n → ws.length = ks.length → bindArgs (PySem.W.fnOf x qual params body scope .none kV doc pm an cdv ct) ⟨us, ks.zip ws⟩ = pure (ps.zip (g us ws)))
    (h1 : ∀ {vs : List V} {us : List Value} {zs : List V} {ws : List Value}, Vals vs us → Vals zs ws → Vals (g vs zs) (g us ws))
    (h2 : ∀ {G : GD} {W : WD} {H : Hp} {ds es : List D} {vs zs : List V}, RepDs G W H ds vs → RepDs G W H es zs → RepDs G W H (g ds es) (g vs zs)) : KB K fd ps n ks g := by
  obtain ⟨oc, od, dV, kV, doc, pm, an, cdv, ct, osl, rfl, lk, hcd, hD, hK⟩ := F.ex
  rcases hD with ⟨_, rfl⟩ | ⟨e, _⟩
  · exact ⟨fun s us ws X l1 l2 => .of_eq (h kV doc pm an cdv ct us ws l1 l2), h1, h2⟩
  · exact absurd rfl e
theorem TA'.at {f : M (List D)} {g : List D → M R} (rp : Rep G W s σ H) (h : PostE G X (OwnAt s.env σ) W H σ ((f >>= g) s) Q) : TA' G X f σ H fun vs H1 => ∃ W1 s1 ds, Step (OwnAt s.env σ) W H (OwnAt s1.env σ) W1 H1 ∧ Rep G W1 s1 σ H1 ∧ RepDs G W1 H1 ds vs ∧ PostE G X (OwnAt s1.env σ) W1 H1 σ (g ds s1) Q := by
  refine ⟨W, s, rp, ?_⟩
  rw [bind_run] at h
  cases e1 : f s with
  | bad => rw [e1] at h; exact h.elim
  | exn x t1 => rw [e1] at h; exact h
  | ok ds t1 =>
    rw [e1] at h
    exact fun W' H' vs st rp' r => ⟨W', t1, ds, st, rp', r, PostE.after (O0' := OwnAt s.env σ) h st⟩
theorem j_callK {k n : Nat} {x : Str} {f : Addr} {fd : FuncData} {ps ks : List Str} {g : {α : Type} → List α → List α → List α} {φ : List D → M R} {e : Expr} {es : List Expr} {kws : List Keyword} {fs gs : M (List D)} {p : Pos} (F : Fm Xc G X N nm) (C : Has Xc.prog Xc.w Xc.K Xc.mg Xc.base G k x f fd ps φ) (hr : RoomG k Xc.A) (hg : nm.lookup x = some .globalImplicit)
    (hb : KB Xc.K fd ps n ks g) (ha : PA Xc (e :: es) (TA' G X fs)) (hk : PK Xc kws (TA' G X gs)) (hall : (backToKw pos (keywordEach kws Xc.env)).all (·.1.isSome) = true := by rfl) (hks : (backToKw pos (keywordEach kws Xc.env)).filterMap (·.1) = ks := by rfl)
    (hd : (x == ("__debug__" : Str)) = false := by decide) (he : starEach (e :: es) Xc.env = (false, eval e Xc.env) :: starEach es Xc.env := by rfl) (hpl : ((backTo pos (starEach (e :: es) Xc.env)).any (·.1) || (backToKw pos (keywordEach kws Xc.env)).any (·.1.isNone)) = false := by rfl) :
    PE Xc (.Call (.Name x p) (e :: es) kws pos) (TR G X (sCallK ps.length n ks.length g φ fs gs)) := by
  refine ⟨fun pins t σ H Q I h => wpAny_Call_Name_kw (ld_glob I (by show Xc.env.scope.names.lookup x = _; rw [F.eS]; exact hg) C.mg ?_ hd)⟩
  refine PySem.W.callWith_KW (h₀ := Xc.base) I.ok.mod.kin C.kp hall (thn (ha.run pos pins t σ H _ I (TA'.run h)) ?_) hpl he
  rintro us t1 ⟨vs, H1, I1, r, W1, s1, ds, rp, rd, hp⟩
  refine thn (hk.run pos pins t1 σ H1 _ I1 (TA'.at rp hp)) ?_
  rintro ws t2 ⟨zs, H2, I2, rz, W2, s2, es2, st, rp2, rd2, hp2⟩
  by_cases c : ds.length = n ∧ es2.length = ks.length
  · simp only [if_pos c] at hp2
    have q := spD_of rp2 (hb.rep (rd.stay (st.stay rp.apart)) rd2) hp2
    rw [hks]
    have b := hb.to t2 us ws I2.kIn (by rw [← r.length, ← rd.length]; exact c.1) (by rw [← rz.length, ← rd2.length]; exact c.2)
    refine ⟨I2.kIn, wpAny_call (codeAny_mono (run_g C.fn hr (passAt F.tk σ) I2 b (hb.rel r rz) q) fun r s' z => ?_)⟩
    cases r with
    | error e => exact z
    | ok fl => cases fl <;> exact z
  · simp only [if_neg c] at hp2; exact hp2.elim
def sCallK0 (n n2 : Nat) (g : List D → List D) (φ : List D → M R) (ks : M (List D)) : M R := ks >>= fun es => if es.length = n2 then (if (g es).length = n then φ (g es) else M.bad) else M.bad
theorem j_callK0 {k : Nat} {x : Str} {f : Addr} {fd : FuncData} {ps ks : List Str} {g : {α : Type} → List α → List α → List α} {φ : List D → M R} {kws : List Keyword} {gs : M (List D)} {p : Pos} (F : Fm Xc G X N nm) (C : Has Xc.prog Xc.w Xc.K Xc.mg Xc.base G k x f fd ps φ) (hr : RoomG k Xc.A) (hg : nm.lookup x = some .globalImplicit)
    (hb : KB Xc.K fd ps 0 ks g) (hk : PK Xc kws (TA' G X gs)) (hall : (backToKw pos (keywordEach kws Xc.env)).all (·.1.isSome) = true := by rfl) (hks : (backToKw pos (keywordEach kws Xc.env)).filterMap (·.1) = ks := by rfl)
    (hd : (x == ("__debug__" : Str)) = false := by decide) (hpl : ((backTo pos (starEach [] Xc.env)).any (·.1) || (backToKw pos (keywordEach kws Xc.env)).any (·.1.isNone)) = false := by rfl) :
    PE Xc (.Call (.Name x p) [] kws pos) (TR G X (sCallK0 ps.length ks.length (fun es => g [] es) φ gs)) := by
  refine ⟨fun pins t σ H Q I h => wpAny_Call_Name_kw (ld_glob I (by show Xc.env.scope.names.lookup x = _; rw [F.eS]; exact hg) C.mg ?_ hd)⟩
  refine PySem.W.callWith_KW0 (h₀ := Xc.base) I.ok.mod.kin C.kp hall (thn (hk.run pos pins t σ H _ I (TA'.run h)) ?_) hpl
  rintro ws t2 ⟨zs, H2, I2, rz, W2, s2, es2, rp2, rd2, hp2⟩
  by_cases c : es2.length = ks.length
  · simp only [if_pos c] at hp2
    have q := spD_of rp2 (hb.rep (ds := []) (vs := []) rfl rd2) hp2
    rw [hks]
    have b := hb.to t2 [] ws I2.kIn rfl (by rw [← rz.length, ← rd2.length]; exact c)
    refine ⟨I2.kIn, wpAny_call (codeAny_mono (run_g C.fn hr (passAt F.tk σ) I2 b (hb.rel .nil rz) q) fun r s' z => ?_)⟩
    cases r with
    | error e => exact z
    | ok fl => cases fl <;> exact z
  · simp only [if_neg c] at hp2; exact hp2.elim
/-- a def of the text, by the derivation of its body -/
theorem has_of {P : Program} {w : World} {K : PySem.W.Frag} {mg : Str → Option Value} {base : Heap} {x qual : Str} {params : Arguments} {body : List Stmt} {scope : Scope} {f : Addr} {fd : FuncData} {N ps : List Str} {k n : Nat} {m : M Ctl}
    (FD : FunD K x qual params body scope [] [] f fd) (S : FnScope N ps scope) (hmg : mg x = some (.ref f)) (hn : N.length = n) (hl : ps.length ≤ N.length)
    (hb : ∀ (kV doc pm : Value) (an : Option Addr) (cdv ct : Value) (us : List Value), us.length = ps.length → bindArgs (PySem.W.fnOf x qual params body scope .none kV doc pm an cdv ct) ⟨us, []⟩ = pure (ps.zip us))
    (hd : ∀ (Xc : Cx) (X : WX), Xc.prog = P → Xc.w = w → Xc.K = K → Xc.mg = mg → Xc.base = base → FmS Xc ⟨K, mg⟩ X N scope.names → RoomG k Xc.A → PSs Xc body (TSt ⟨K, mg⟩ X m)) :
    Has P w K mg base ⟨K, mg⟩ (k + 1) x f fd ps (DL.fnOf n m) := by
  refine ⟨fnG_of FD S (fun vs H Q E h => h.1) ?_, hmg, FD.kp, FD.bindsN hb⟩
  rintro cdv A outer s H vs Q E hr ⟨hv, W, s0, σ0, ds, rp, rd, hp⟩
  subst hn
  refine ⟨_, hd (cxOf (L2.CX P w) P w K mg base N qual scope f cdv A outer s H E) (fun c d _ H' => E c d H') rfl rfl rfl rfl rfl ⟨⟨rfl, rfl, rfl, rfl, S.kind, S.nd, rfl, hr.gu, ?_, takes_of rfl rfl rfl rfl⟩, fun _ => rfl, passes_of rfl⟩ hr, fnOf_run rp rd (by rw [hv]; exact hl) hp⟩
  have q := hr.toRoom.un
  show (A.deeper (envOfC qual scope s.heap.objs.size f cdv)).units + 200 < cLine
  omega
end
end DL

/-! List comprehensions. -/
namespace DL
open PySem L2 PyProof.Rows
def wipeE (e : List Slot) : List Nat → List Slot
  | [] => e
  | v :: vs => (wipeE e vs).set v .un
def DS.wipe (s : DS) (vs : List Nat) : DS := { s with env := wipeE s.env vs }
def restE (e0 e1 : List Slot) : List Nat → List Slot
  | [] => e1
  | v :: vs => (restE e0 e1 vs).set v (e0[v]?.getD .un)
def sLcL (vs : List Nat) (g : Tg) (t : M Bool) (e : M R) : List D → List D → M (List D)
  | [], acc => M.pure acc
  | d :: ds, acc => fun s => match g (.val d) s with
    | .ok _ s1 => (match t s1 with
      | .ok true s2 => (match e s2 with
        | .ok r s3 => (match r.toD s3 with
          | .ok y s4 => if acc.length < lim then sLcL vs g t e ds (acc ++ [y]) (s4.wipe vs) else .bad
          | _ => .bad)
        | _ => .bad)
      | .ok false s2 => sLcL vs g t e ds acc (s2.wipe vs)
      | _ => .bad)
    | _ => .bad
def sLc (vs : List Nat) (it : M (List D)) (g : Tg) (t : M Bool) (e : M R) : M R := fun s => match it s with
  | .ok ds s1 => (match sLcL vs g t e ds [] (s1.wipe vs) with
    | .ok rs s2 => .ok (.own (.lst rs)) { env := restE s1.env s2.env vs, sto := s2.sto }
    | _ => .bad)
  | .exn x s1 => .exn x s1
  | .bad => .bad
section
variable {G : GD} {X : WX} {Xc : Cx} {N : List Str} {nm : List (Str × NameKind)} {pos : Pos} {σ σ1 : L2.St} {H H1 : Hp} {W W1 : WD} {s s1 : DS} {O O1 : Addr → Prop} {Q : VK}
theorem wipeE_length {e : List Slot} : ∀ {vs : List Nat}, (wipeE e vs).length = e.length
  | [] => rfl
  | v :: vs => by unfold wipeE; rw [List.length_set, wipeE_length]
theorem wipeE_in {e : List Slot} : ∀ {vs : List Nat} {i : Nat}, i ∈ vs → i < e.length → (wipeE e vs)[i]? = some .un
  | v :: vs, i, h, hl => by
    unfold wipeE
    by_cases hv : v = i
    · subst hv; rw [List.getElem?_set_self (by rw [wipeE_length]; exact hl)]
    · rw [List.getElem?_set_ne hv]
      exact wipeE_in ((List.mem_cons.mp h).elim (fun z => absurd z.symm hv) id) hl
theorem wipeE_out {e : List Slot} : ∀ {vs : List Nat} {i : Nat}, i ∉ vs → (wipeE e vs)[i]? = e[i]?
  | [], i, h => rfl
  | v :: vs, i, h => by
    unfold wipeE
    rw [List.getElem?_set_ne fun z => h (by simp [z])]
    exact wipeE_out fun z => h (List.mem_cons_of_mem _ z)
theorem restE_length {e0 e : List Slot} : ∀ {vs : List Nat}, (restE e0 e vs).length = e.length
  | [] => rfl
  | v :: vs => by unfold restE; rw [List.length_set, restE_length]
theorem restE_in {e0 e : List Slot} : ∀ {vs : List Nat} {i : Nat}, i ∈ vs → i < e.length → (restE e0 e vs)[i]? = some (e0[i]?.getD .un)
  | v :: vs, i, h, hl => by
    unfold restE
    by_cases hv : v = i
    · subst hv; rw [List.getElem?_set_self (by rw [restE_length]; exact hl)]
    · rw [List.getElem?_set_ne hv]
      exact restE_in ((List.mem_cons.mp h).elim (fun z => absurd z.symm hv) id) hl
theorem restE_out {e0 e : List Slot} : ∀ {vs : List Nat} {i : Nat}, i ∉ vs → (restE e0 e vs)[i]? = e[i]?
  | [], i, h => rfl
  | v :: vs, i, h => by
    unfold restE
    rw [List.getElem?_set_ne fun z => h (by simp [z])]
    exact restE_out fun z => h (List.mem_cons_of_mem _ z)
theorem wipe_in {σ : L2.St} : ∀ {vs : List Nat} {i : Nat}, i ∈ vs → i < σ.length → (L2.wipe σ vs)[i]? = some none
  | v :: vs, i, h, hl => by
    unfold L2.wipe
    by_cases hv : v = i
    · subst hv; rw [List.getElem?_set_self (by rw [wipe_length]; exact hl)]
    · rw [List.getElem?_set_ne hv]
      exact wipe_in ((List.mem_cons.mp h).elim (fun z => absurd z.symm hv) id) hl
theorem own_wipe {e : List Slot} {vs : List Nat} {p : Addr} {σ' : L2.St} (hl : e.length = σ.length) (h : OwnAt (wipeE e vs) (L2.wipe σ vs) p) : ∃ (j : Nat) (d : DL.D), j ∉ vs ∧ e[j]? = some (.own d) ∧ σ[j]? = some (some (.ref p)) := by
  obtain ⟨j, d, h1, h2⟩ := h
  have hj : j ∉ vs := fun z => by
    have l : j < e.length := by
      have := (List.getElem?_eq_some_iff.mp h1).1
      rwa [wipeE_length] at this
    rw [wipeE_in z l] at h1; cases h1
  rw [wipeE_out hj] at h1
  rw [L2.wipe_out hj] at h2
  exact ⟨j, d, hj, h1, h2⟩
theorem Rep.wipe (rp : Rep G W s σ H) (vs : List Nat) : Rep G W (s.wipe vs) (L2.wipe σ vs) H := by
  have out : ∀ {i : Nat} {x : Slot}, (wipeE s.env vs)[i]? = some x → x ≠ .un → i ∉ vs := fun {i x} h n z => by
    have l : i < s.env.length := by
      have := (List.getElem?_eq_some_iff.mp h).1
      rwa [wipeE_length] at this
    rw [wipeE_in z l] at h; cases h; exact n rfl
  refine ⟨?_, fun i d e => ?_, fun i d e => ?_, fun i j d e p h1 h2 h3 h4 => ?_, rp.slen, rp.sto, rp.nod, rp.fzd⟩
  · show (wipeE s.env vs).length = (L2.wipe σ vs).length
    rw [wipeE_length, wipe_length]; exact rp.len
  · have e : (wipeE s.env vs)[i]? = some (.val d) := e
    have o := out e fun z => by cases z
    rw [wipeE_out o] at e
    rw [L2.wipe_out o]
    exact rp.val i d e
  · have e : (wipeE s.env vs)[i]? = some (.own d) := e
    have o := out e fun z => by cases z
    rw [wipeE_out o] at e
    rw [L2.wipe_out o]
    exact rp.own i d e
  · have h1 : (wipeE s.env vs)[i]? = some (.own d) := h1
    have h2 : (wipeE s.env vs)[j]? = some (.own e) := h2
    have o1 := out h1 fun z => by cases z
    have o2 := out h2 fun z => by cases z
    rw [wipeE_out o1] at h1
    rw [wipeE_out o2] at h2
    rw [L2.wipe_out o1] at h3
    rw [L2.wipe_out o2] at h4
    exact rp.sep i j d e p h1 h2 h3 h4
theorem Step.ofWipe {vs : List Nat} {H' : Hp} {W' : WD} (rp : Rep G W s σ H) {O' : Addr → Prop} (st : Step (OwnAt (wipeE s.env vs) (L2.wipe σ vs)) W H O' W' H') : Step (OwnAt s.env σ) W H O' W' H' := st.bigO fun p z => by
  obtain ⟨j, d, _, a, b⟩ := own_wipe (σ' := σ) rp.len z
  exact ⟨j, d, a, b⟩
/-- the outer frame behind the block -/
theorem Rep.rest {vs : List Nat} {s' : DS} {W' : WD} {H' : Hp} (rp : Rep G W s σ H) (st : Step (OwnAt (wipeE s.env vs) (L2.wipe σ vs)) W H (OwnAt s'.env (L2.wipe σ vs)) W' H') (rp' : Rep G W' s' (L2.wipe σ vs) H') :
    Rep G W' { env := restE s.env s'.env vs, sto := s'.sto } σ H' ∧ Step (OwnAt s.env σ) W H (OwnAt (restE s.env s'.env vs) σ) W' H' := by
  have l1 : s'.env.length = σ.length := by rw [rp'.len, wipe_length]
  have l2 : s.env.length = s'.env.length := by rw [rp.len, l1]
  have sy : Stay W H W' H' := st.stay (rp.wipe vs).apart
  -- an own slot among vs is none of those of the block
  have apart : ∀ (i : Nat) (d : DL.D) (p : Addr), i ∈ vs → s.env[i]? = some (.own d) → σ[i]? = some (some (.ref p)) → ¬ OwnAt (wipeE s.env vs) (L2.wipe σ vs) p := fun i d p hi h1 h2 z => by
    obtain ⟨j, e, hj, a, b⟩ := own_wipe (σ' := σ) rp.len z
    exact hj (by rw [← rp.sep i j d e p h1 a h2 b]; exact hi)
  have inE : ∀ {i : Nat} {x : Slot}, i ∈ vs → (restE s.env s'.env vs)[i]? = some x → x ≠ .un → s.env[i]? = some x := fun {i x} hi h n => by
    have l : i < s'.env.length := by
      have := (List.getElem?_eq_some_iff.mp h).1
      rwa [restE_length] at this
    rw [restE_in hi l] at h
    cases e : s.env[i]? with
    | none => rw [e] at h; cases h; exact absurd rfl n
    | some y => rw [e] at h; cases h; rfl
  refine ⟨⟨?_, fun i d e => ?_, fun i d e => ?_, fun i j d e p h1 h2 h3 h4 => ?_, rp'.slen, rp'.sto, rp'.nod, rp'.fzd⟩, (st.ofWipe rp).subO fun p z => ?_⟩
  · show (restE s.env s'.env vs).length = σ.length
    rw [restE_length]; exact l1
  · by_cases hi : i ∈ vs
    · obtain ⟨v, a, b⟩ := rp.val i d (inE hi e fun z => by cases z)
      exact ⟨v, a, b.stay sy⟩
    · have e : (restE s.env s'.env vs)[i]? = some (.val d) := e
      rw [restE_out hi] at e
      obtain ⟨v, a, b⟩ := rp'.val i d e
      rw [L2.wipe_out hi] at a
      exact ⟨v, a, b⟩
  · by_cases hi : i ∈ vs
    · have e0 := inE hi e fun z => by cases z
      obtain ⟨p, a, c, nf, nm, ni⟩ := rp.own i d e0
      have na := apart i d p hi e0 a
      obtain ⟨o, ho, _, _⟩ := c.some
      have hn : H p ≠ none := by rw [ho]; exact fun z => by cases z
      refine ⟨p, a, c.stay sy fun o h => st.kp p o h nm na, fun z => ?_, fun z => ?_, ni⟩
      · rcases st.nfz p z with q | q | q
        · exact nf q
        · exact hn q
        · exact na q
      · rcases st.nmu p z with q | q | q
        · exact nm q
        · exact hn q
        · exact na q
    · have e : (restE s.env s'.env vs)[i]? = some (.own d) := e
      rw [restE_out hi] at e
      obtain ⟨p, a, b⟩ := rp'.own i d e
      rw [L2.wipe_out hi] at a
      exact ⟨p, a, b⟩
  · have cross : ∀ (i j : Nat) (d e : DL.D) (p : Addr), i ∈ vs → j ∉ vs → (restE s.env s'.env vs)[i]? = some (.own d) → (restE s.env s'.env vs)[j]? = some (.own e) → σ[i]? = some (some (.ref p)) → σ[j]? = some (some (.ref p)) → False := fun i j d e p hi hj h1 h2 h3 h4 => by
      have e0 := inE hi h1 fun z => by cases z
      rw [restE_out hj] at h2
      have z : OwnAt s'.env (L2.wipe σ vs) p := ⟨j, e, h2, by rw [L2.wipe_out hj]; exact h4⟩
      rcases st.nown p z with q | q
      · exact apart i d p hi e0 h3 q
      · exact rp.ownSome ⟨i, d, e0, h3⟩ q
    have h1 : (restE s.env s'.env vs)[i]? = some (.own d) := h1
    have h2 : (restE s.env s'.env vs)[j]? = some (.own e) := h2
    by_cases hi : i ∈ vs
    · by_cases hj : j ∈ vs
      · exact rp.sep i j d e p (inE hi h1 fun z => by cases z) (inE hj h2 fun z => by cases z) h3 h4
      · exact (cross i j d e p hi hj h1 h2 h3 h4).elim
    · by_cases hj : j ∈ vs
      · exact (cross j i e d p hj hi h2 h1 h4 h3).elim
      · rw [restE_out hi] at h1
        rw [restE_out hj] at h2
        exact rp'.sep i j d e p h1 h2 (by rw [L2.wipe_out hi]; exact h3) (by rw [L2.wipe_out hj]; exact h4)
  · obtain ⟨i, d, h1, h2⟩ := z
    by_cases hi : i ∈ vs
    · exact .inl ⟨i, d, inE hi h1 (fun z => by cases z), h2⟩
    · have h1 : (restE s.env s'.env vs)[i]? = some (.own d) := h1
      rw [restE_out hi] at h1
      exact .inr (.inl ⟨i, d, h1, by rw [L2.wipe_out hi]; exact h2⟩)
/-- a list beside all that is known -/
theorem Rep.side {p : Addr} {xs ys : List V} (rp : Rep G W s σ H) (hD : H p = some (.lst xs)) (nf : ¬ W.fz p) (nm : p ∉ W.mu) (no : ¬ OwnAt s.env σ p) : Rep G W s σ (upd H p (.lst ys)) ∧ Stay W H W (upd H p (.lst ys)) ∧ ∀ q o, H q = some o → q ≠ p → upd H p (.lst ys) q = some o := by
  have keep : ∀ q o, H q = some o → q ≠ p → upd H p (.lst ys) q = some o := fun q o h n => by rw [upd_ne n]; exact h
  have sy : Stay W H W (upd H p (.lst ys)) := ⟨fun _ h => h, fun _ _ h => h, fun q o h c => keep q o h fun z => by
    subst z
    rcases c with c | ⟨ws, c⟩
    · exact nf c
    · rw [hD] at h; cases h; cases c⟩
  refine ⟨⟨rp.len, fun i d e => ?_, fun i d e => ?_, rp.sep, rp.slen, fun n d a e1 e2 => ?_, rp.nod, fun q f => ?_⟩, sy, keep⟩
  · obtain ⟨v, a, b⟩ := rp.val i d e
    exact ⟨v, a, b.stay sy⟩
  · obtain ⟨q, a, b, c⟩ := rp.own i d e
    exact ⟨q, a, b.stay sy fun o h => keep q o h fun z => no ⟨i, d, e, by rw [← z]; exact a⟩, c⟩
  · obtain ⟨c, f⟩ := rp.sto n d a e1 e2
    exact ⟨c.stay sy fun o h => keep a o h fun z => nm (by rw [← z]; exact List.mem_of_getElem? e2), f⟩
  · have hq : q ≠ p := fun z => nf (by rw [← z]; exact f)
    rw [upd_ne hq]
    exact rp.fzd q f
theorem Agree.wipe {ts vs : List Nat} {σ2 : L2.St} (h : Agree ts (L2.wipe σ vs) σ2) (ht : ∀ t ∈ ts, t ∈ vs) : L2.wipe σ2 vs = L2.wipe σ vs := by
  have hl : σ2.length = σ.length := by rw [h.1, wipe_length]
  refine List.ext_getElem? fun i => ?_
  by_cases hi : i ∈ vs
  · by_cases hz : i < σ.length
    · rw [wipe_in hi hz, wipe_in hi (by rw [hl]; exact hz)]
    · rw [List.getElem?_eq_none (by rw [wipe_length, hl]; omega), List.getElem?_eq_none (by rw [wipe_length]; omega)]
  · rw [L2.wipe_out hi, L2.wipe_out hi, h.2 i fun z => hi (ht i z), L2.wipe_out hi]
theorem Step.new {p : Addr} {o : HO} (st : Step O W H O1 W1 H1) (hp : H p = none) : Step O W H O1 W1 (upd H1 p o) :=
  ⟨st.fz, st.mu, fun q u h m n => (by
    have hq : q ≠ p := fun z => by rw [z, hp] at h; cases h
    rw [upd_ne hq]; exact st.kp q u h m n), fun q h => (by
    have hq : q ≠ p := fun z => by rw [z, upd_same] at h; cases h
    rw [upd_ne hq] at h; exact st.dom q h), st.nfz, st.nmu, st.nown⟩
/-- what is known to nobody stands -/
theorem Step.side {p : Addr} {o : HO} (st : Step O W H O1 W1 H1) (h : H p = some o) (nf : ¬ W.fz p) (nm : p ∉ W.mu) (no : ¬ O p) : H1 p = some o ∧ ¬ W1.fz p ∧ p ∉ W1.mu ∧ ¬ O1 p := by
  have hn : H p ≠ none := by rw [h]; exact fun z => by cases z
  refine ⟨st.kp p o h nm no, fun z => ?_, fun z => ?_, fun z => ?_⟩
  · rcases st.nfz p z with q | q | q
    · exact nf q
    · exact hn q
    · exact no q
  · rcases st.nmu p z with q | q | q
    · exact nm q
    · exact hn q
    · exact no q
  · rcases st.nown p z with q | q
    · exact no q
    · exact hn q
theorem TR.lc {ts vs : List Nat} {it : M (List DL.D)} {g : Tg} {t : M Bool} {e : M R} (hts : ∀ t ∈ ts, t ∈ vs) (h : TR G X (sLc vs it g t e) σ H Q) : tLc (TIt G X it) (TGt G X0 ts g) (TB G X0 t) (TR G X0 e) vs σ H Q := by
  obtain ⟨W, s, rp, hp⟩ := h
  refine ⟨W, s, rp, ?_⟩
  unfold sLc at hp
  cases e1 : it s with
  | bad => rw [e1] at hp; exact hp
  | exn x s1 => rw [e1] at hp; exact hp
  | ok ds s1 =>
    simp only [e1] at hp
    intro W1 H1 J st rp1 io D hD
    have rpw := rp1.wipe vs
    have hfin : ∃ rs s2, sLcL vs g t e ds [] (s1.wipe vs) = .ok rs s2 ∧ PostE G X (OwnAt s1.env σ) W1 H1 σ (.ok (.own (.lst rs)) { env := restE s1.env s2.env vs, sto := s2.sto }) Q := by
      cases e2 : sLcL vs g t e ds [] (s1.wipe vs) with
      | bad => rw [e2] at hp; exact hp.elim
      | exn x s2 => rw [e2] at hp; exact hp.elim
      | ok rs s2 =>
        rw [e2] at hp
        exact ⟨rs, s2, rfl, PostE.after (O0' := OwnAt s.env σ) hp st⟩
    obtain ⟨Gd, Y, w, a, b0⟩ := id io
    refine lc_it w (fun i H' => ∃ W' s' acc us, Rep G W' s' (L2.wipe σ vs) H' ∧ Step (OwnAt (wipeE s1.env vs) (L2.wipe σ vs)) W1 H1 (OwnAt s'.env (L2.wipe σ vs)) W' H' ∧ H' D = some (.lst us) ∧ RepDs G W' H' acc us ∧
      (¬ W'.fz D ∧ D ∉ W'.mu ∧ ¬ OwnAt s'.env (L2.wipe σ vs) D) ∧ ∃ rs s2, sLcL vs g t e (ds.drop i) acc s' = .ok rs s2 ∧ PostE G X (OwnAt s1.env σ) W1 H1 σ (.ok (.own (.lst rs)) { env := restE s1.env s2.env vs, sto := s2.sto }) Q) ?_ ?_ ?_ ?_
    · have gr : Grow H1 (upd H1 D (.lst [])) := Grow.new hD
      have nn := rpw.newNot hD
      exact ⟨W1, s1.wipe vs, [], [], rpw.grow gr, Step.refl.new hD, upd_same, rfl, nn, hfin⟩
    · rintro i H' _ ⟨W', s', acc, us, rp', st', _⟩
      exact a W' H' (st'.stay rpw.apart)
    · rintro i x H' H'' hi ⟨W', s', acc, us, rp', st', hD', ra, ⟨nf, nm, no⟩, rs, sE, hrun, hpost⟩ hy
      obtain ⟨d, hd, gr, rd⟩ := b0 i W' H' x H'' (st'.stay rpw.apart) hy
      have e2 : ds.drop i = d :: ds.drop (i + 1) := by
        obtain ⟨hl, e⟩ := List.getElem?_eq_some_iff.mp hd
        rw [← e, List.drop_eq_getElem_cons hl]
      rw [e2] at hrun
      have hrun : (match g (.val d) s' with
        | .ok _ s1 => (match t s1 with
          | .ok true s2 => (match e s2 with
            | .ok r s3 => (match r.toD s3 with
              | .ok y s4 => if acc.length < lim then sLcL vs g t e (ds.drop (i + 1)) (acc ++ [y]) (s4.wipe vs) else .bad
              | _ => .bad)
            | _ => .bad)
          | .ok false s2 => sLcL vs g t e (ds.drop (i + 1)) acc (s2.wipe vs)
          | _ => .bad)
        | _ => .bad) = Out.ok rs sE := hrun
      have gst : Step (OwnAt s'.env (L2.wipe σ vs)) W' H' (OwnAt s'.env (L2.wipe σ vs)) W' H'' := gr.step fun p z => .inl z
      refine ⟨W', s', .val d, OwnAt s'.env (L2.wipe σ vs), rp'.grow gr, rd, fun _ z => z, fun _ z => z.elim, ?_⟩
      cases e3 : g (.val d) s' with
      | bad => rw [e3] at hrun; cases hrun
      | exn x s2 => rw [e3] at hrun; cases hrun
      | ok u s2 =>
        simp only [e3] at hrun
        intro W2 σ2 H2 agr st2 rp2
        have ew := agr.wipe hts
        refine ⟨ew, W2, s2, rp2, ?_⟩
        -- what is left over is forgotten
        have back : ∀ {W5 : WD} {s5 : DS} {H5 : Hp}, Rep G W5 s5 σ2 H5 → Step (OwnAt s2.env σ2) W2 H2 (OwnAt s5.env σ2) W5 H5 → Rep G W5 (s5.wipe vs) (L2.wipe σ vs) H5 ∧ Step (OwnAt s'.env (L2.wipe σ vs)) W' H' (OwnAt (s5.wipe vs).env (L2.wipe σ vs)) W5 H5 := fun {W5 s5 H5} r5 st5 => by
          have q := r5.wipe vs
          rw [ew] at q
          refine ⟨q, ((gst.trans st2).trans st5).subO fun p z => ?_⟩
          rw [← ew] at z
          obtain ⟨j, d, _, z1, z2⟩ := own_wipe (σ' := σ) r5.len z
          exact .inr (.inl ⟨j, d, z1, z2⟩)
        cases e4 : t s2 with
        | bad => rw [e4] at hrun; cases hrun
        | exn x s3 => rw [e4] at hrun; cases hrun
        | ok k s3 =>
          simp only [e4] at hrun
          intro W3 H3 st3 rp3
          cases k with
          | false =>
            rw [if_neg Bool.false_ne_true]
            obtain ⟨r5, st5⟩ := back rp3 st3
            obtain ⟨k1, k2⟩ := st5.side hD' nf nm no
            exact ⟨W3, s3.wipe vs, acc, us, r5, st'.trans st5, k1, ra.stay (st5.stay rp'.apart), k2, rs, sE, hrun, hpost⟩
          | true =>
            rw [if_pos rfl]
            refine ⟨W3, s3, rp3, ?_⟩
            simp only [] at hrun
            cases e5 : e s3 with
            | bad => rw [e5] at hrun; cases hrun
            | exn x s4 => rw [e5] at hrun; cases hrun
            | ok r s4 =>
              simp only [e5] at hrun
              intro W4 H4 y st4 rp4 rr ow
              cases e6 : r.toD s4 with
              | bad => rw [e6] at hrun; cases hrun
              | exn x s5 => rw [e6] at hrun; cases hrun
              | ok z s5 =>
                simp only [e6] at hrun
                by_cases c : acc.length < lim
                · rw [if_pos c] at hrun
                  obtain ⟨W5, st5, rp5, rz, _⟩ := toD_ok (O := fun p => OwnAt s4.env σ2 p ∨ OwnedBy r y p) rp4 rr e6 (fun p z => .inl z) (fun p z => .inr z)
                  have st45 : Step (OwnAt s3.env σ2) W3 H3 (OwnAt s5.env σ2) W5 H4 := (st4.subO fun p z => (by
                    rcases z with z | z
                    · exact .inr (.inl z)
                    · exact (ow p z).elim .inl fun y => .inr (.inr y))).trans st5
                  obtain ⟨r5, stb⟩ := back rp5 (st3.trans st45)
                  obtain ⟨k1, k2, k3, k4⟩ := stb.side hD' nf nm no
                  obtain ⟨q1, q2, q3⟩ := r5.side (ys := us ++ [y]) k1 k2 k3 k4
                  refine ⟨us, k1, by rw [← ra.length]; exact lim_lt c, W5, s5.wipe vs, acc ++ [z], us ++ [y], q1, (st'.trans stb).new hD, upd_same, ?_, ⟨k2, k3, k4⟩, rs, sE, hrun, hpost⟩
                  exact ((ra.stay (stb.stay rp'.apart)).append (.cons rz .nil)).stay q2
                · rw [if_neg c] at hrun; cases hrun
    · rintro H' ⟨W', s', acc, us, rp', st', hD', ra, ⟨nf, nm, no⟩, rs, sE, hrun, hpost⟩
      rw [List.drop_length] at hrun
      cases hrun
      obtain ⟨r1, s1'⟩ := rp1.rest st' rp'
      refine hpost W' H' (.ref D) s1' r1 ⟨D, rfl, ⟨us, hD', ra⟩, nf, nm, fun z => ?_, fun _ _ _ z => by cases z⟩ fun p z => ?_
      · obtain ⟨i, d, h1, h2⟩ := z
        by_cases hi : i ∈ vs
        · have h1 : (restE s1.env s'.env vs)[i]? = some (.own d) := h1
          have l : i < s'.env.length := by
            have := (List.getElem?_eq_some_iff.mp h1).1
            rwa [restE_length] at this
          rw [restE_in hi l] at h1
          cases e : s1.env[i]? with
          | none => rw [e] at h1; cases h1
          | some y => rw [e] at h1; cases h1; exact rp1.ownSome ⟨i, d, e, h2⟩ hD
        · have h1 : (restE s1.env s'.env vs)[i]? = some (.own d) := h1
          rw [restE_out hi] at h1
          exact no ⟨i, d, h1, by rw [L2.wipe_out hi]; exact h2⟩
      · have z' : V.ref D = V.ref p := z
        cases z'; exact .inr hD
/-! ### the block's context -/
def relN (names nm : List (Str × NameKind)) : List (Str × NameKind) := names.map fun (n, k) => if (k == .free && nm.lookup n == some .cell) then (n, .cell) else (n, k)
theorem Fm.blk {sc : Scope} {t : Shared} {C : Addr} {cl : List (Str × Addr)} {fp : List Addr} (F : Fm Xc G X N nm) (hk : sc.kind = .function) : Fm (Xc.blk t H sc (compEnvC sc cl C Xc.env) fp) G X0 N (relN sc.names nm) where
  eK := F.eK
  eM := F.eM
  eN := F.eN
  eS := by
    show (relS sc Xc.env.scope).names = _
    unfold relS relN
    have e : (Xc.env.scope.kind == ScopeKind.function) = true := by rw [F.eF]; rfl
    simp only [e, F.eS, Bool.and_true]
  eF := hk
  nd := F.nd
  calm := F.calm
  gu := F.gu
  un := F.un
  tk := takes0
def mkSc (nm : List (Str × NameKind)) : Scope := { kind := .function, names := nm, isGenerator := false, isCoroutine := false, more := [] }
theorem blk_ok {sc : Scope} {own : List (Str × Nat)} (F : Fm Xc G X N nm) (h : blkC N (mkSc nm) sc own = true) : BlkOk Xc.N Xc.env.scope sc own := by
  obtain ⟨a, b, c, d, e⟩ := blkOk_by h
  refine ⟨a, b, by rw [F.eN]; exact c, ?_, by rw [F.eN]; exact e⟩
  rw [F.eS]; exact d
theorem j_no : PTs Xc [] (TB G X (M.pure true)) := by
  refine ⟨fun pins s σ H Q I h => pts_nil.run pins s σ H Q I ?_⟩
  obtain ⟨W, t, rp, hp⟩ := h
  exact hp W H Step.refl rp
theorem j_one {c : Expr} {t : M Bool} (h : PT Xc c (TB G X t)) : PTs Xc [c] (TB G X t) := pts_one h
def subB (ts vs : List Nat) : Bool := ts.all fun t => vs.contains t
theorem subB_ok {ts vs : List Nat} (h : subB ts vs = true) : ∀ t ∈ ts, t ∈ vs := fun t ht => by
  have := List.all_eq_true.mp h t ht
  simpa using this
theorem j_lc {elt tg iter : Expr} {ifs : List Expr} {sc : Scope} {own : List (Str × Nat)} {ts : List Nat} {it : M (List DL.D)} {g : Tg} {t : M Bool} {e : M R} (F : Fm Xc G X N nm) (hb : blkC N (mkSc nm) sc own = true) (hk : sc.kind = .function) (hts : subB ts (own.map (·.2)) = true)
    (hi : PI Xc tg iter (TIt G X it))
    (hg : ∀ (s : Shared) (H : Hp) (C : Addr) (cl : List (Str × Addr)) (fp : List Addr), Fm (Xc.blk s H sc (compEnvC sc cl C Xc.env) fp) G X0 N (relN sc.names nm) → PG (Xc.blk s H sc (compEnvC sc cl C Xc.env) fp) tg (TGt G X0 ts g))
    (ht : ∀ (s : Shared) (H : Hp) (C : Addr) (cl : List (Str × Addr)) (fp : List Addr), Fm (Xc.blk s H sc (compEnvC sc cl C Xc.env) fp) G X0 N (relN sc.names nm) → PTs (Xc.blk s H sc (compEnvC sc cl C Xc.env) fp) ifs (TB G X0 t))
    (he : ∀ (s : Shared) (H : Hp) (C : Addr) (cl : List (Str × Addr)) (fp : List Addr), Fm (Xc.blk s H sc (compEnvC sc cl C Xc.env) fp) G X0 N (relN sc.names nm) → PE (Xc.blk s H sc (compEnvC sc cl C Xc.env) fp) elt (TR G X0 e)) (hs : ∀ x, foldedSetIterable iter Xc.env x = pure x := by intro _; rfl) :
    PE Xc (.ListComp elt [⟨tg, iter, ifs, 0⟩] sc pos) (TR G X (sLc (own.map (·.2)) it g t e)) :=
  (pe_lc F.calm (by rw [F.eN]; exact F.nd) hi (blk_ok F hb) (fun s H C cl fp => hg s H C cl fp (F.blk hk)) (fun s H C cl fp => ht s H C cl fp (F.blk hk)) (fun s H C cl fp => he s H C cl fp (F.blk hk)) hs).imp fun σ H Q h => h.lc (subB_ok hts)
theorem j_setLc {i : Nat} {y : Str} {py spos : Pos} {elt tg iter : Expr} {ifs : List Expr} {sc : Scope} {own : List (Str × Nat)} {ts : List Nat} {it : M (List DL.D)} {g : Tg} {t : M Bool} {e : M R} (F : FmS Xc G X N nm) (hi0 : N[i]? = some y) (hy : nm.lookup y = some .local)
    (ha : (sc.names.any fun (n, k) => n == y && (k == .local || k == .cell)) = false) (hl : (py.line == pos.line) = true) (hb : blkC N (mkSc nm) sc own = true) (hk : sc.kind = .function) (hts : subB ts (own.map (·.2)) = true)
    (hi : PI Xc tg iter (TIt G X it))
    (hg : ∀ (s : Shared) (H : Hp) (C : Addr) (cl : List (Str × Addr)) (fp : List Addr), Fm (Xc.blk s H sc (compEnvC sc cl C Xc.env) fp) G X0 N (relN sc.names nm) → PG (Xc.blk s H sc (compEnvC sc cl C Xc.env) fp) tg (TGt G X0 ts g))
    (ht : ∀ (s : Shared) (H : Hp) (C : Addr) (cl : List (Str × Addr)) (fp : List Addr), Fm (Xc.blk s H sc (compEnvC sc cl C Xc.env) fp) G X0 N (relN sc.names nm) → PTs (Xc.blk s H sc (compEnvC sc cl C Xc.env) fp) ifs (TB G X0 t))
    (he : ∀ (s : Shared) (H : Hp) (C : Addr) (cl : List (Str × Addr)) (fp : List Addr), Fm (Xc.blk s H sc (compEnvC sc cl C Xc.env) fp) G X0 N (relN sc.names nm) → PE (Xc.blk s H sc (compEnvC sc cl C Xc.env) fp) elt (TR G X0 e)) (hs : ∀ x, foldedSetIterable iter Xc.env x = pure x := by intro _; rfl) :
    PS Xc (.Assign [.Name y py] (.ListComp elt [⟨tg, iter, ifs, 0⟩] sc pos) spos) (TSt G X (sSet i (sLc (own.map (·.2)) it g t e))) := by
  have hy' : Xc.env.scope.names.lookup y = some .local := by rw [F.eS]; exact hy
  refine (ps_setLc (i := i) F.calm (by rw [F.eN]; exact F.nd) (by rw [F.eN]; exact hi0) hy' (sw_true F.eF hy' hl ha) hi (blk_ok F.toFm hb) (fun s H C cl fp => hg s H C cl fp (F.toFm.blk hk)) (fun s H C cl fp => ht s H C cl fp (F.toFm.blk hk)) (fun s H C cl fp => he s H C cl fp (F.toFm.blk hk)) hs).imp fun En σ H h => ?_
  exact h.set.lc (subB_ok hts)
end
end DL

/-! Items, slices, what is written in place. -/
namespace DL
open PySem L2 PyProof.Rows
/-! ### dicts of ints and strs -/
def keyD : D → Option Key
  | .int i => some (.inl i)
  | .str x => some (.inr x)
  | _ => none
def getK : List Key → List D → Key → Option D
  | k :: ks, d :: ds, q => if k = q then some d else getK ks ds q
  | _, _, _ => none
def setK : List Key → List D → Key → D → List D
  | k :: ks, d :: ds, q, x => (if k = q then x else d) :: setK ks ds q x
  | _, ds, _, _ => ds
def hasK (ks : List Key) (q : Key) : Bool := ks.any fun k => decide (k = q)
def putKD (ks : List Key) (ds : List D) (q : Key) (x : D) : D := if hasK ks q = true then .dic ks (setK ks ds q x) else .dic (ks ++ [q]) (ds ++ [x])
section
variable {G : GD} {W : WD} {H : Hp}
theorem getK_some {q : Key} {d : D} : ∀ {ds : List D} {kvs : List (Key × V)}, RepDs G W H ds (kvs.map (·.2)) → getK (kvs.map (·.1)) ds q = some d → ∃ v, valV kvs q = some v ∧ RepD G W H d v
  | [], [], r, e => by cases e
  | [], kv :: kvs, r, e => by cases e
  | x :: ds, [], r, e => by cases e
  | x :: ds, kv :: kvs, r, e => by
    obtain ⟨v, w, e1, h1, h2⟩ := RepDs.uncons r
    rw [List.map_cons] at e1
    injection e1 with e2 e3
    rw [← e3] at h2
    rw [← e2] at h1
    rw [List.map_cons] at e
    unfold getK at e
    by_cases c : kv.1 = q
    · rw [if_pos c] at e
      cases e
      exact ⟨kv.2, valV_pos c, h1⟩
    · rw [if_neg c] at e
      rw [valV_neg c]
      exact getK_some h2 e
theorem getK_none {q : Key} : ∀ {ds : List D} {kvs : List (Key × V)}, RepDs G W H ds (kvs.map (·.2)) → getK (kvs.map (·.1)) ds q = none → valV kvs q = none
  | [], [], r, e => rfl
  | [], kv :: kvs, r, e => by
    have z : kv.2 :: kvs.map (·.2) = [] := r
    cases z
  | x :: ds, [], r, e => rfl
  | x :: ds, kv :: kvs, r, e => by
    obtain ⟨v, w, e1, h1, h2⟩ := RepDs.uncons r
    rw [List.map_cons] at e1
    injection e1 with e2 e3
    rw [← e3] at h2
    rw [List.map_cons] at e
    unfold getK at e
    by_cases c : kv.1 = q
    · rw [if_pos c] at e; cases e
    · rw [if_neg c] at e
      rw [valV_neg c]
      exact getK_none h2 e
theorem setK_rep {q : Key} {d : D} {v : V} (hd : RepD G W H d v) : ∀ {ds : List D} {kvs : List (Key × V)}, RepDs G W H ds (kvs.map (·.2)) → RepDs G W H (setK (kvs.map (·.1)) ds q d) ((kvs.map fun kv => if kv.1 = q then (kv.1, v) else kv).map (·.2))
  | [], [], r => r
  | [], kv :: kvs, r => by
    have z : kv.2 :: kvs.map (·.2) = [] := r
    cases z
  | x :: ds, [], r => by
    obtain ⟨v, w, e1, _, _⟩ := RepDs.uncons r
    cases e1
  | x :: ds, kv :: kvs, r => by
    obtain ⟨u, w, e1, h1, h2⟩ := RepDs.uncons r
    rw [List.map_cons] at e1
    injection e1 with e2 e3
    rw [← e3] at h2
    rw [← e2] at h1
    rw [List.map_cons, List.map_cons, List.map_cons]
    unfold setK
    by_cases c : kv.1 = q
    · rw [if_pos c, if_pos c]; exact .cons hd (setK_rep hd h2)
    · rw [if_neg c, if_neg c]; exact .cons h1 (setK_rep hd h2)
theorem map_keys {q : Key} {v : V} : ∀ kvs : List (Key × V), (kvs.map fun kv => if kv.1 = q then (kv.1, v) else kv).map (·.1) = kvs.map (·.1)
  | [] => rfl
  | kv :: kvs => by
    rw [List.map_cons, List.map_cons, List.map_cons, map_keys kvs]
    by_cases c : kv.1 = q
    · rw [if_pos c]
    · rw [if_neg c]
theorem hasK_eq {q : Key} (kvs : List (Key × V)) : hasK (kvs.map (·.1)) q = kvs.any fun kv => decide (kv.1 = q) := by
  unfold hasK
  rw [List.any_map]; rfl
theorem putKD_rep {q : Key} {d : D} {v : V} {ds : List D} {kvs : List (Key × V)} {p : Addr} (hd : RepD G W H d v) (r : RepDs G W H ds (kvs.map (·.2))) (h : H p = some (.dK (putK kvs q v))) : RepC G W H (putKD (kvs.map (·.1)) ds q d) p := by
  unfold putKD
  rw [hasK_eq]
  unfold putK at h
  by_cases c : (kvs.any fun kv => decide (kv.1 = q)) = true
  · rw [if_pos c] at h ⊢
    exact ⟨_, h, map_keys kvs, setK_rep hd r⟩
  · rw [if_neg c] at h ⊢
    refine ⟨_, h, by rw [List.map_append]; rfl, ?_⟩
    rw [List.map_append]
    exact r.append (.cons hd .nil)
theorem keyD_rep {d : D} {k : Key} {v : V} (e : keyD d = some k) (h : RepL G W H d v) : v = kV k := by
  cases d with
  | int i => cases e; exact h.int
  | str x => cases e; exact h.str
  | _ => cases e
end
/-! ### reading an item -/
def ixD : D → D → M R := fun a b => match a with
  | .lst ds => (match b with
    | .int i => M.ofOpt ((atI ds i).map R.val)
    | _ => M.bad)
  | .tup ds => (match b with
    | .int i => M.ofOpt ((atI ds i).map R.val)
    | _ => M.bad)
  | .str z => (match b with
    | .int i => if z.length ≤ lim then M.ofOpt ((atI z.cps.toList i).map fun c => R.val (.str ⟨#[c]⟩)) else M.bad
    | _ => M.bad)
  | .dic ks ds => M.ofOpt (((keyD b).bind fun k => getK ks ds k).map R.val)
  | .scr ns => (match b with
    | .int i => M.ofOpt ((atI ns i).map fun n => R.val (.int n))
    | _ => M.bad)
  | _ => M.bad
def rIxDG : R2 := fun x y H Q => ∃ a v, x = .ref a ∧ DGet H a y (some v) ∧ Q v H
theorem ix_dget {Xc : Cx} (hu : Xc.A.units + 1 < cLine) : IxR Xc rIxDG := by
  intro value slice pins s σ H x y v u Q I rx ry h hs
  obtain ⟨a, z, rfl, g, q⟩ := h
  cases rx
  exact tail_any (dict_typeIs I g) PySem.F.slot_dict_getitem.lookup (d_getItem hu I g ry fun w' s3 I3 rw' => ⟨z, H, I3, rw', q⟩) hs
def rIxA (K : PySem.W.Frag) : R2 := fun x y H Q => rIx K x y H Q ∨ rIxDG x y H Q
theorem ix_all {Xc : Cx} (hu : Xc.A.units + 1 < cLine) : IxR Xc (rIxA Xc.K) := ix_seq.or (ix_dget hu)
section
variable {G : GD} {X : WX} {Xc : Cx} {N : List Str} {nm : List (Str × NameKind)} {pos : Pos} {σ σ1 : L2.St} {H H1 : Hp} {W W1 : WD} {s s1 : DS} {O O1 : Addr → Prop} {Q : VK}
theorem RepDs.atI {ds : List DL.D} {vs : List V} {i : Int} {d : DL.D} (r : RepDs G W H ds vs) (e : L2.atI ds i = some d) : ∃ v, L2.atI vs i = some v ∧ RepD G W H d v := by
  unfold L2.atI at e ⊢
  rw [← r.length]
  cases q : ixN ds.length i with
  | none => rw [q] at e; cases e
  | some j =>
    rw [q] at e
    exact r.get e
theorem atI_map {ns : List Int} {i : Int} {n : Int} (e : L2.atI ns i = some n) : L2.atI (ns.map V.int) i = some (.int n) := by
  unfold L2.atI at e ⊢
  rw [List.length_map]
  cases q : ixN ns.length i with
  | none => rw [q] at e; cases e
  | some j =>
    rw [q] at e
    have e : ns[j]? = some n := e
    show (ns.map V.int)[j]? = _
    rw [List.getElem?_map, e]; rfl
theorem ol_ix : OpL G X (rIxA G.K) ixD := by
  intro W s σ H x y a b O Q rp la lb hO hp
  unfold ixD at hp
  cases a with
  | lst ds =>
    cases b with
    | int i =>
      have e2 := lb.int; subst e2
      obtain ⟨p, vs, e1, h1, r1⟩ := la.lst
      cases e : L2.atI ds i with
      | none => simp only [e] at hp; exact hp.elim
      | some d =>
        simp only [e] at hp
        obtain ⟨v, hv, rv⟩ := r1.atI e
        exact .inl (.inl ⟨p, vs, i, v, e1, rfl, .inl h1, hv, PostE.val hp rp hO rv⟩)
    | _ => exact hp.elim
  | tup ds =>
    cases b with
    | int i =>
      have e2 := lb.int; subst e2
      obtain ⟨p, vs, e1, h1, r1⟩ := la.tup
      cases e : L2.atI ds i with
      | none => simp only [e] at hp; exact hp.elim
      | some d =>
        simp only [e] at hp
        obtain ⟨v, hv, rv⟩ := r1.atI e
        exact .inl (.inr (.inl ⟨p, vs, i, v, e1, rfl, SqT.of h1, hv, PostE.val hp rp hO rv⟩))
    | _ => exact hp.elim
  | str z =>
    cases b with
    | int i =>
      have e1 := la.str; have e2 := lb.int; subst e1 e2
      by_cases c : z.length ≤ lim
      · simp only [if_pos c] at hp
        cases e : L2.atI z.cps.toList i with
        | none => simp only [e] at hp; exact hp.elim
        | some d =>
          simp only [e] at hp
          exact .inl (.inr (.inr ⟨z, i, d, rfl, rfl, lim_le c, e, PostE.val hp rp hO rfl⟩))
      · simp only [if_neg c] at hp; exact hp.elim
    | _ => exact hp.elim
  | scr ns =>
    cases b with
    | int i =>
      have e2 := lb.int; subst e2
      obtain ⟨p, e1, h1⟩ := la.scr rfl
      cases e : L2.atI ns i with
      | none => simp only [e] at hp; exact hp.elim
      | some n =>
        simp only [e] at hp
        exact .inl (.inl ⟨p, _, i, .int n, e1, rfl, h1, atI_map e, PostE.val hp rp hO rfl⟩)
    | _ => exact hp.elim
  | dic ks ds =>
    obtain ⟨p, kvs, e1, h1, hk, r1⟩ := la.dic
    cases ek : keyD b with
    | none => simp only [ek] at hp; exact hp.elim
    | some k =>
      cases e : getK ks ds k with
      | none => simp only [ek, Option.bind, e] at hp; exact hp.elim
      | some d =>
        simp only [ek, Option.bind, e] at hp
        rw [← hk] at e
        obtain ⟨v, hv, rv⟩ := getK_some r1 e
        exact .inr ⟨p, v, e1, .inl ⟨kvs, k, h1, keyD_rep ek lb, hv.symm⟩, PostE.val hp rp hO rv⟩
  | _ => exact hp.elim
theorem j_ix {a b : Expr} {fa fb : M R} (F : Fm Xc G X N nm) (ha : PE Xc a (TR G X fa)) (hb : PE Xc b (TR G X fb)) (hs : PlainIx b := by intro _ _; rfl) : PE Xc (.Subscript a b pos) (TR G X (fa >>= fun x => fb >>= fun y => rd2 ixD x y)) :=
  (pe_ix (ix_all (by have := F.un; omega)) ha hb hs).imp fun _ _ _ h => by
    rw [F.eK]; exact h.two ol_ix.op
/-! ### slices -/
def sNo : M (Option Int) := M.pure none
def sPart (fa : M R) : M (Option Int) := fun s => match fa s with
  | .ok r s1 => (match r.look s1 with
    | .ok (.int i) s2 => .ok (some i) s2
    | _ => .bad)
  | .exn x s1 => .exn x s1
  | .bad => .bad
def TPo (G : GD) (X : WX) (f : M (Option Int)) : TO := fun σ H Q => ∃ W s, Rep G W s σ H ∧ (match f s with
  | .ok o s1 => ∀ W1 H1, Step (OwnAt s.env σ) W H (OwnAt s1.env σ) W1 H1 → Rep G W1 s1 σ H1 → Q o H1
  | .exn x s1 => PostX G X (OwnAt s.env σ) W H x s1
  | .bad => False)
theorem _root_.L2.PO.imp {e : Option Expr} {t t' : TO} (h : PO Xc e t) (w : ∀ σ H Q, t' σ H Q → t σ H Q) : PO Xc e t' := ⟨fun pins s σ H Q I q => h.run pins s σ H Q I (w σ H Q q)⟩
theorem jo_no : PO Xc none (TPo G X sNo) := po_none.imp fun σ H Q ⟨W, s, rp, hp⟩ => hp W H Step.refl rp
theorem jo_part {e : Expr} {fa : M R} (ha : PE Xc e (TR G X fa)) : PO Xc (some e) (TPo G X (sPart fa)) := (po_some ha).imp fun σ H Q ⟨W, s, rp, hp⟩ => by
  refine ⟨W, s, rp, ?_⟩
  unfold sPart at hp
  cases e1 : fa s with
  | bad => rw [e1] at hp; exact hp
  | exn x s1 => rw [e1] at hp; exact hp
  | ok r s1 =>
    simp only [e1] at hp
    intro W1 H1 v st rp1 rr ow
    cases e2 : r.look s1 with
    | bad => rw [e2] at hp; exact hp.elim
    | exn x s2 => exact (R.look_exn e2).elim
    | ok d s2 =>
      rw [e2] at hp
      obtain ⟨e3, la⟩ := look_ok rp1 rr e2
      subst e3
      cases d with
      | int i => exact ⟨i, la.int, hp W1 H1 (st.subO fun p z => .inr (.inl z)) rp1⟩
      | _ => exact hp.elim
def cutD (xs : List DL.D) (lo hi : Option Int) : List DL.D := (xs.drop (HT.sIx xs.length 0 lo)).take (HT.sIx xs.length xs.length hi - HT.sIx xs.length 0 lo)
theorem RepDs.cut {ds : List DL.D} {vs : List V} (r : RepDs G W H ds vs) (lo hi : Option Int) : RepDs G W H (cutD ds lo hi) (cutV vs lo hi) := by
  unfold cutD cutV
  rw [r.length]
  exact (r.drop _).take _
def slD : DL.D → Option Int → Option Int → M R := fun a lo hi => match a with
  | .lst ds => M.pure (.own (.lst (cutD ds lo hi)))
  | .tup ds => M.pure (.val (.tup (cutD ds lo hi)))
  | .scr ns => M.pure (.own (.lst (cutD (ns.map .int) lo hi)))
  | .str z => if z.length ≤ lim then M.pure (.val (.str (cutS z lo hi))) else M.bad
  | _ => M.bad
def sSl (fa : M R) (lo hi : M (Option Int)) : M R := fa >>= fun r => lo >>= fun l => hi >>= fun u => r.look >>= fun a => slD a l u
def rSlAll (K : PySem.W.Frag) : V → Option Int → Option Int → Hp → VK → Prop := fun x lo hi H Q => rSlL K x lo hi H Q ∨ (rSlA K x lo hi H Q ∨ rSlS x lo hi H Q)
theorem cutD_whole {ds : List DL.D} {lo hi : Option Int} (h : HT.sIx ds.length 0 lo = 0 ∧ HT.sIx ds.length ds.length hi = ds.length) : cutD ds lo hi = ds := by
  unfold cutD
  rw [h.1, h.2]; simp
theorem j_sl {e : Expr} {lo hi : Option Expr} {fa : M R} {fl fh : M (Option Int)} {p2 : Pos} (F : Fm Xc G X N nm) (ha : PE Xc e (TR G X fa)) (hl : PO Xc lo (TPo G X fl)) (hh : PO Xc hi (TPo G X fh)) : PE Xc (.Subscript e (.Slice lo hi none p2) pos) (TR G X (sSl fa fl fh)) := by
  refine (pe_slice (r := rSlAll Xc.K) (sl_list.or (sl_tupA.or sl_str)) ha hl hh).imp fun σ H Q ⟨W, s, rp, hp⟩ => ⟨W, s, rp, ?_⟩
  unfold sSl at hp
  refine (hp.bind (O0 := OwnAt s.env σ) fun _ z => z).mono ?_
  rintro x H1 ⟨W1, s1, ra, e1, st1, rp1, hra, o1, hp1⟩
  refine ⟨W1, s1, rp1, ?_⟩
  rw [bind_run] at hp1
  cases e2 : fl s1 with
  | bad => rw [e2] at hp1; exact hp1.elim
  | exn y s2 =>
    rw [e2] at hp1
    exact fun W' σ' H' c d a b z => hp1 W' σ' H' c d (a.bigO fun p z => .inl z) b z
  | ok l s2 =>
    rw [e2] at hp1
    intro W2 H2 st2 rp2
    refine ⟨W2, s2, rp2, ?_⟩
    simp only [] at hp1
    rw [bind_run] at hp1
    cases e3 : fh s2 with
    | bad => rw [e3] at hp1; exact hp1.elim
    | exn y s3 =>
      rw [e3] at hp1
      exact fun W' σ' H' c d a b z => hp1 W' σ' H' c d ((st2.trans a).bigO fun p z => .inl z) b z
    | ok u s3 =>
      rw [e3] at hp1
      intro W3 H3 st3 rp3
      simp only [] at hp1
      rw [bind_run] at hp1
      have hp3 := PostE.after (O0' := fun _ => True) hp1 (O1 := fun p => OwnAt s3.env σ p ∨ OwnedBy ra x p ∨ OwnAt s.env σ p) (((st2.trans st3).bigO fun p z => .inl z).subO fun p z => by
        rcases z with z | z | z
        · exact .inr (.inl z)
        · exact .inl (.inr (.inl z))
        · exact .inl (.inr (.inr z)))
      cases e4 : ra.look s3 with
      | bad => rw [e4] at hp3; exact hp3.elim
      | exn y s4 => exact (R.look_exn e4).elim
      | ok a s4 =>
        rw [e4] at hp3
        simp only [] at hp3
        obtain ⟨e5, la⟩ := look_ok rp3 (hra.step rp1 (st2.trans st3) rp3) e4
        subst e5
        have hO : ∀ p, OwnAt s4.env σ p → (OwnAt s4.env σ p ∨ OwnedBy ra x p ∨ OwnAt s.env σ p) := fun p z => .inl z
        unfold slD at hp3
        cases a with
        | lst ds =>
          obtain ⟨p, vs, e, h, r⟩ := la.lst
          exact .inl ⟨p, vs, e, .inl h, PostE.lst hp3 rp3 hO (r.cut l u)⟩
        | scr ns =>
          obtain ⟨p, e, h⟩ := RepL.scr F.eK.symm la
          exact .inl ⟨p, ns.map V.int, e, h, PostE.lst hp3 rp3 hO ((RepDs.ints ns).cut l u)⟩
        | tup ds =>
          obtain ⟨p, vs, e, h, r⟩ := la.tup
          refine .inr (.inl ⟨p, vs, e, SqT.of h, fun c => ?_, fun c => PostE.tup hp3 rp3 hO (r.cut l u)⟩)
          have hw : cutD ds l u = ds := cutD_whole (by rw [r.length]; exact c)
          simp only [hw] at hp3
          exact PostE.val hp3 rp3 hO ⟨p, vs, rfl, h, r⟩
        | str z =>
          by_cases c : z.length ≤ lim
          · simp only [if_pos c] at hp3
            exact .inr (.inr ⟨z, la.str, lim_le c, PostE.val hp3 rp3 hO rfl⟩)
          · simp only [if_neg c] at hp3; exact hp3.elim
        | _ => exact hp3.elim
end
end DL

/-! What is written in place: items, append, pop .. -/
namespace DL
open PySem L2 PyProof.Rows
/-- the object that r is (an own slot's, or a cell) changes -/
def R.upd {α : Type} (r : R) (f : D → Option (D × α)) : M α := fun s => match r with
  | .slot i => (match s.env[i]? with
    | some (.own d) => (match f d with
      | some (d', a) => .ok a { s with env := s.env.set i (.own d') }
      | none => .bad)
    | _ => .bad)
  | .val (.ref n) => (match s.sto[n]? with
    | some d => (match f d with
      | some (d', a) => .ok a { s with sto := s.sto.set n d' }
      | none => .bad)
    | none => .bad)
  | _ => .bad
section
variable {G : GD} {X : WX} {Xc : Cx} {N : List Str} {nm : List (Str × NameKind)} {pos : Pos} {σ σ1 : L2.St} {H H1 : Hp} {W W1 : WD} {s s1 : DS} {O O1 : Addr → Prop} {Q : VK}
theorem R.upd_exn {α : Type} {r : R} {f : DL.D → Option (DL.D × α)} {x : DL.D} (e : r.upd f s = .exn x s1) : False := by
  unfold R.upd at e
  cases r with
  | own d => cases e
  | slot i =>
    simp only [] at e
    cases q : s.env[i]? with
    | none => rw [q] at e; cases e
    | some y =>
      rw [q] at e
      cases y with
      | own d =>
        simp only [] at e
        cases q2 : f d with
        | none => rw [q2] at e; cases e
        | some z => rw [q2] at e; cases e
      | _ => cases e
  | val d =>
    cases d with
    | ref n =>
      simp only [] at e
      cases q : s.sto[n]? with
      | none => rw [q] at e; cases e
      | some y =>
        rw [q] at e
        simp only [] at e
        cases q2 : f y with
        | none => rw [q2] at e; cases e
        | some z => rw [q2] at e; cases e
    | _ => cases e
/-- the state behind it, once the object at p stands as the new content says -/
structure UpdOk (G : GD) (W : WD) (s s1 : DS) (σ : L2.St) (H : Hp) (p : Addr) (d' : DL.D) (o' : HO) : Prop where
  rep : Rep G W s1 σ (upd H p o')
  st : Step (OwnAt s.env σ) W H (OwnAt s1.env σ) W (upd H p o')
  sy : Stay W H W (upd H p o')
theorem upd_ok {α : Type} {r : R} {v : V} {f : DL.D → Option (DL.D × α)} {a : α} (rp : Rep G W s σ H) (h : RepR G W s σ H r v) (e : r.upd f s = .ok a s1) :
    ∃ p d d', v = .ref p ∧ RepC G W H d p ∧ f d = some (d', a) ∧ ∀ o', (∀ xs, o' ≠ .tup xs) → (∀ c ks ds, d' ≠ .ins c ks ds) → (Stay W H W (upd H p o') → RepC G W (upd H p o') d' p) → UpdOk G W s s1 σ H p d' o' := by
  have keep : ∀ {p : Addr} {o' : HO} (q : Addr) (o : HO), H q = some o → q ≠ p → upd H p o' q = some o := fun q o h n => by rw [upd_ne n]; exact h
  have sty : ∀ {p : Addr} {o' : HO}, ¬ W.fz p → (∀ xs, H p ≠ some (.tup xs)) → Stay W H W (upd H p o') := fun {p o'} nf nt => ⟨fun _ h => h, fun _ _ h => h, fun q o h c => keep q o h fun z => by
    subst z
    rcases c with c | ⟨ws, c⟩
    · exact nf c
    · subst c; exact nt ws h⟩
  have hfz : ∀ {p : Addr} {o' : HO} {q : Addr}, ¬ W.fz p → W.fz q → upd H p o' q ≠ none ∧ ∀ xs, upd H p o' q ≠ some (.tup xs) := fun {p o' q} nf f => by
    have hq : q ≠ p := fun z => nf (by rw [← z]; exact f)
    rw [upd_ne hq]
    exact rp.fzd q f
  have hdom : ∀ {p : Addr} {o' : HO} {q : Addr}, upd H p o' q = none → H q = none := fun {p o' q} h => by
    have hq : q ≠ p := fun z => by rw [z, upd_same] at h; cases h
    rwa [upd_ne hq] at h
  unfold R.upd at e
  cases r with
  | own d => cases e
  | slot i =>
    simp only [] at e
    cases q : s.env[i]? with
    | none => rw [q] at e; cases e
    | some y =>
      rw [q] at e
      cases y with
      | un => cases e
      | val d => cases e
      | own d =>
        simp only [] at e
        cases q2 : f d with
        | none => rw [q2] at e; cases e
        | some z =>
          obtain ⟨d', a'⟩ := z
          rw [q2] at e
          cases e
          obtain ⟨p, e1, c, nf, nm, ni⟩ := rp.own i d q
          have hs : σ[i]? = some (some v) := h
          rw [hs] at e1; cases e1
          refine ⟨p, d, d', rfl, c, q2, fun o' nt' ni' hc => ?_⟩
          obtain ⟨o, ho, _, nt⟩ := c.some
          have sy : Stay W H W (upd H p o') := sty nf fun xs z => nt xs (by rw [ho] at z; cases z; rfl)
          have hi : i < s.env.length := (List.getElem?_eq_some_iff.mp q).1
          have same : (s.env.set i (.own d'))[i]? = some (.own d') := List.getElem?_set_self hi
          have ownE : ∀ {j : Nat} {x : DL.D}, (s.env.set i (.own d'))[j]? = some (.own x) → ∃ y, s.env[j]? = some (.own y) := fun {j x} hj => by
            by_cases hij : i = j
            · subst hij; exact ⟨d, q⟩
            · rw [List.getElem?_set_ne hij] at hj; exact ⟨x, hj⟩
          refine ⟨⟨?_, fun j x hj => ?_, fun j x hj => ?_, fun j k x y p' h1 h2 h3 h4 => ?_, rp.slen, fun n x b e1 e2 => ?_, rp.nod, fun b f => hfz nf f⟩, ⟨fun _ h => h, fun _ _ h => h, fun b o hb m n => keep b o hb fun z => n (by subst z; exact ⟨i, d, q, hs⟩), fun b hb => hdom hb, fun _ h => .inl h, fun _ h => .inl h, fun b ⟨j, x, h1, h2⟩ => ?_⟩, sy⟩
          · show (s.env.set i _).length = σ.length
            rw [List.length_set]; exact rp.len
          · have hij : i ≠ j := fun z => by
              subst z
              rw [show (s.env.set i (.own d'))[i]? = some (.own d') from same] at hj; cases hj
            have hj : (s.env.set i (.own d'))[j]? = some (.val x) := hj
            rw [List.getElem?_set_ne hij] at hj
            obtain ⟨u, z1, z2⟩ := rp.val j x hj
            exact ⟨u, z1, z2.stay sy⟩
          · have hj : (s.env.set i (.own d'))[j]? = some (.own x) := hj
            by_cases hij : i = j
            · subst hij
              rw [same] at hj; cases hj
              exact ⟨p, hs, hc sy, nf, nm, ni'⟩
            · rw [List.getElem?_set_ne hij] at hj
              obtain ⟨p2, z1, z2, z3⟩ := rp.own j x hj
              exact ⟨p2, z1, z2.stay sy fun o h => keep p2 o h fun z => hij (rp.sep i j d x p q hj hs (by rw [← z]; exact z1)), z3⟩
          · obtain ⟨x', h1'⟩ := ownE h1
            obtain ⟨y', h2'⟩ := ownE h2
            exact rp.sep j k x' y' p' h1' h2' h3 h4
          · obtain ⟨z1, z2⟩ := rp.sto n x b e1 e2
            exact ⟨z1.stay sy fun o h => keep b o h fun z => nm (by rw [← z]; exact List.mem_of_getElem? e2), z2⟩
          · obtain ⟨y, h1'⟩ := ownE h1
            exact .inl ⟨j, y, h1', h2⟩
  | val x =>
    cases x with
    | ref n =>
      simp only [] at e
      obtain ⟨p, ev, em⟩ := (show ∃ a, v = .ref a ∧ W.mu[n]? = some a from h)
      cases q : s.sto[n]? with
      | none => rw [q] at e; cases e
      | some d =>
        rw [q] at e
        simp only [] at e
        cases q2 : f d with
        | none => rw [q2] at e; cases e
        | some z =>
          obtain ⟨d', a'⟩ := z
          rw [q2] at e
          cases e
          obtain ⟨c, nf⟩ := rp.sto n d p q em
          refine ⟨p, d, d', ev, c, q2, fun o' nt' ni' hc => ?_⟩
          obtain ⟨o, ho, _, nt⟩ := c.some
          have sy : Stay W H W (upd H p o') := sty nf fun xs z => nt xs (by rw [ho] at z; cases z; rfl)
          have mem : p ∈ W.mu := List.mem_of_getElem? em
          have hn : n < s.sto.length := (List.getElem?_eq_some_iff.mp q).1
          refine ⟨⟨rp.len, fun j x hj => ?_, fun j x hj => ?_, rp.sep, ?_, fun m x b e1 e2 => ?_, rp.nod, fun b f => hfz nf f⟩, ⟨fun _ h => h, fun _ _ h => h, fun b o hb m n => keep b o hb fun z => m (by rw [z]; exact mem), fun b hb => hdom hb, fun _ h => .inl h, fun _ h => .inl h, fun b z => .inl z⟩, sy⟩
          · obtain ⟨u, z1, z2⟩ := rp.val j x hj
            exact ⟨u, z1, z2.stay sy⟩
          · obtain ⟨p2, z1, z2, z3, z4, z5⟩ := rp.own j x hj
            exact ⟨p2, z1, z2.stay sy fun o h => keep p2 o h fun z => z4 (by rw [z]; exact mem), z3, z4, z5⟩
          · show (s.sto.set n d').length = W.mu.length
            rw [List.length_set]; exact rp.slen
          · have e1 : (s.sto.set n d')[m]? = some x := e1
            by_cases hm : n = m
            · subst hm
              rw [List.getElem?_set_self hn] at e1
              cases e1
              rw [em] at e2; cases e2
              exact ⟨hc sy, nf⟩
            · rw [List.getElem?_set_ne hm] at e1
              obtain ⟨z1, z2⟩ := rp.sto m x b e1 e2
              have hb : b ≠ p := fun z => by
                subst z
                obtain ⟨l1, z3⟩ := List.getElem?_eq_some_iff.mp em
                obtain ⟨l2, z4⟩ := List.getElem?_eq_some_iff.mp e2
                exact hm ((List.getElem_inj rp.nod).mp (z3.trans z4.symm))
              exact ⟨z1.stay sy fun o h => keep b o h hb, z2⟩
    | _ => cases e
/-! ### o[i] = v -/
def setD (d i v : DL.D) : Option DL.D := match d with
  | .lst ds => (match i with
    | .int k => (ixN ds.length k).map fun j => .lst (ds.set j v)
    | _ => none)
  | .dic ks ds => (keyD i).bind fun k => if ks.length < lim then some (putKD ks ds k v) else none
  | _ => none
def setU (i v : DL.D) (d : DL.D) : Option (DL.D × Unit) := (setD d i v).map fun d' => (d', ())
def rSetA : TSet := fun o i v H Q => rSetL o i v H Q ∨ rSetD o i v H Q
theorem set_all (hu : Xc.A.units + 1 < cLine) : PSet Xc rSetA := by
  intro pins s σ H o i v ov iv u Q I ro ri rv h
  rcases h with h | h
  · exact set_list pins s σ H o i v ov iv u Q I ro ri rv h
  · exact set_dict hu pins s σ H o i v ov iv u Q I ro ri rv h
theorem ixN_none {n : Nat} {k : Int} {j : Nat} (h : ixN n k = some j) : j < n := (ixN_seq h).2.1
/-- the step by values -/
theorem set_step {r : R} {o iv v : V} {i d : DL.D} {u : Unit} (rp : Rep G W s σ H) (ro : RepR G W s σ H r o) (li : RepL G W H i iv) (rd : RepD G W H d v) (e : r.upd (setU i d) s = .ok u s1) {Qh : Hp → Prop}
    (k : ∀ H1, Step (OwnAt s.env σ) W H (OwnAt s1.env σ) W H1 → Rep G W s1 σ H1 → Qh H1) : rSetA o iv v H Qh := by
  obtain ⟨p, c, c', ev, rc, ef, q⟩ := upd_ok rp ro e
  subst ev
  unfold setU at ef
  cases es : setD c i d with
  | none => rw [es] at ef; cases ef
  | some z =>
    rw [es] at ef
    cases ef
    unfold setD at es
    cases c with
    | lst ds =>
      cases i with
      | int n =>
        have e2 := li.int; subst e2
        obtain ⟨us, h1, h2⟩ := rc
        simp only [] at es
        cases ej : ixN ds.length n with
        | none => rw [ej] at es; cases es
        | some j =>
          rw [ej] at es
          cases es
          have uo := q (.lst (us.set j v)) (fun _ z => by cases z) (fun _ _ _ z => by cases z) fun sy => ⟨us.set j v, upd_same, (h2.stay sy).set (rd.stay sy) j⟩
          exact .inl ⟨p, us, n, j, rfl, rfl, h1, by rw [← h2.length]; exact ej, k _ uo.st uo.rep⟩
      | _ => cases es
    | dic ks ds =>
      obtain ⟨kvs, h1, h2, h3⟩ := rc
      simp only [] at es
      cases ek : keyD i with
      | none => rw [ek] at es; cases es
      | some n =>
        rw [ek] at es
        have es : (if ks.length < lim then some (putKD ks ds n d) else none) = some c' := es
        by_cases cl : ks.length < lim
        · rw [if_pos cl] at es
          cases es
          have ni : ∀ c ks' ds', putKD ks ds n d ≠ .ins c ks' ds' := fun c ks' ds' z => by
            unfold putKD at z
            split at z <;> cases z
          have uo := q (.dK (putK kvs n v)) (fun _ z => by cases z) ni fun sy => by
            rw [← h2]
            exact putKD_rep (rd.stay sy) (h3.stay sy) upd_same
          refine .inr ⟨p, _, rfl, ?_, k _ uo.st uo.rep⟩
          rw [keyD_rep ek li]
          exact DPut.k h1 (by have := lim_lt cl; rw [← h2, List.length_map] at this; exact this)
        · rw [if_neg cl] at es; cases es
    | _ => cases es
def gSub (fo fi : M R) : Tg := fun r s => match r.toD s with
  | .ok v s1 => (match fo s1 with
    | .ok ro s2 => (match fi s2 with
      | .ok ri s3 => (match ri.look s3 with
        | .ok i s4 => ro.upd (setU i v) s4
        | _ => .bad)
      | .exn x s3 => .exn x s3
      | .bad => .bad)
    | .exn x s2 => .exn x s2
    | .bad => .bad)
  | _ => .bad
theorem jg_sub {o i : Expr} {fo fi : M R} (F : Fm Xc G X N nm) (ho : PE Xc o (TR G X fo)) (hi : PE Xc i (TR G X fi)) (ha : ∀ v, assign (.Subscript o i pos) Xc.env v = (do
      let ov ← holding [v] (eval o Xc.env)
      let iv ← holding [v, ov] (eval i Xc.env)
      standAt pos
      holding [v, ov, iv] (setItem ov iv v)
      release [v, ov, iv] []) := by intro _; rfl) : PG Xc (.Subscript o i pos) (TGt G X [] (gSub fo fi)) := by
  refine (pg_sub ho hi (set_all (by have := F.un; omega)) ha).imp fun v σ H Q ⟨W, s, r, O, rp, rr, hO, hB, hp⟩ => ?_
  unfold gSub at hp
  cases e1 : r.toD s with
  | bad => rw [e1] at hp; exact hp.elim
  | exn x s1 => exact (R.toD_exn e1).elim
  | ok d s1 =>
    simp only [e1] at hp
    obtain ⟨W1, st1, rp1, rd, _⟩ := toD_ok rp rr e1 hO hB
    refine ⟨W1, s1, rp1, ?_⟩
    cases e2 : fo s1 with
    | bad => simp only [e2] at hp; exact hp.elim
    | exn x s2 => simp only [e2] at hp; exact fun W' σ' H' c d a b z => hp W' σ' H' c d (st1.trans a) b z
    | ok ro s2 =>
      simp only [e2] at hp
      intro W2 H2 ov st2 rp2 rro oo
      refine ⟨W2, s2, rp2, ?_⟩
      cases e3 : fi s2 with
      | bad => simp only [e3] at hp; exact hp.elim
      | exn x s3 => simp only [e3] at hp; exact fun W' σ' H' c d a b z => hp W' σ' H' c d ((st1.trans st2).trans a) b z
      | ok ri s3 =>
        simp only [e3] at hp
        intro W3 H3 iv st3 rp3 rri oi
        cases e4 : ri.look s3 with
        | bad => simp only [e4] at hp; exact hp.elim
        | exn x s4 => exact (R.look_exn e4).elim
        | ok i s4 =>
          simp only [e4] at hp
          obtain ⟨e5, li⟩ := look_ok rp3 rri e4
          subst e5
          cases e6 : ro.upd (setU i d) s4 with
          | bad => rw [e6] at hp; exact hp.elim
          | exn x s5 => exact (R.upd_exn e6).elim
          | ok u s5 =>
            rw [e6] at hp
            exact set_step rp3 (rro.step rp2 st3 rp3) li ((rd.stay (st2.stay rp1.apart)).stay (st3.stay rp2.apart)) e6 fun H4 st4 rp4 => hp W3 σ H4 Agree.refl (((st1.trans st2).trans st3).trans st4) rp4
/-! ### o[i] op= e -/
def rGetA (K : PySem.W.Frag) : R2 := fun x y H Q => rIxL K x y H Q ∨ rIxDG x y H Q
theorem get_all (hu : Xc.A.units + 1 < cLine) : PGet Xc (rGetA Xc.K) := by
  intro pins s σ H o i ov iv Q I ro ri h
  rcases h with ⟨p, xs, k, z, rfl, rfl, hq, he, q⟩ | ⟨a, z, rfl, g, q⟩
  · cases ro
    obtain ⟨t, rfl⟩ := ri
    obtain ⟨its, r, pl, hz⟩ := I.list hq
    obtain ⟨j, h1, h2, h3, h4, h5⟩ := atI_get he
    obtain ⟨w, ew, rw'⟩ := r.get h2
    have hl := r.length
    have hn := line63
    by_cases h0 : 0 ≤ k
    · have hj : k.toNat = j := by
        rw [seqIndex_of h0 h5] at h1
        exact Option.some.inj h1
      exact wpAny_getItem_list pl.isList h0 (by omega) (x := w) (by rw [hj]; simpa using ew) ⟨z, H, I, rw', q⟩
    · have hj : (k + (its.toArray.size : Int)).toNat = j := by
        rw [seqIndex_neg (by omega) h4] at h1
        rw [List.size_toArray, ← hl]
        exact Option.some.inj h1
      exact wpAny_getItem_list_neg pl.isList (by omega) (by rw [List.size_toArray] <;> omega) (by omega) (x := w) (by rw [hj]; simpa using ew) ⟨z, H, I, rw', q⟩
  · cases ro
    exact d_getItem hu I g ri fun w' s3 I3 rw' => ⟨z, H, I3, rw', q⟩
def getD2 (c i : DL.D) : Option DL.D := match c with
  | .lst ds => (match i with
    | .int k => atI ds k
    | _ => none)
  | .dic ks ds => (keyD i).bind fun k => getK ks ds k
  | _ => none
theorem get_step {o iv : V} {c i d : DL.D} (lo : RepL G W H c o) (li : RepL G W H i iv) (e : getD2 c i = some d) {Qv : VK} (k : ∀ v, RepD G W H d v → Qv v H) : rGetA G.K o iv H Qv := by
  unfold getD2 at e
  cases c with
  | lst ds =>
    cases i with
    | int n =>
      have e2 := li.int; subst e2
      obtain ⟨p, us, e1, h1, r1⟩ := lo.lst
      obtain ⟨v, hv, rv⟩ := r1.atI e
      exact .inl ⟨p, us, n, v, e1, rfl, .inl h1, hv, k v rv⟩
    | _ => cases e
  | dic ks ds =>
    obtain ⟨p, kvs, e1, h1, hk, r1⟩ := lo.dic
    simp only [] at e
    cases ek : keyD i with
    | none => rw [ek] at e; cases e
    | some n =>
      rw [ek] at e
      have e : getK ks ds n = some d := e
      rw [← hk] at e
      obtain ⟨v, hv, rv⟩ := getK_some r1 e
      exact .inr ⟨p, v, e1, .inl ⟨kvs, n, h1, keyD_rep ek li, hv.symm⟩, k v rv⟩
  | _ => cases e
def sAugS (fo fi : M R) (op : R → R → M R) (fe : M R) : M Ctl := fun s => match fo s with
  | .ok ro s1 => (match fi s1 with
    | .ok ri s2 => (match ri.look s2 with
      | .ok i s3 => (match ro.look s3 with
        | .ok c s4 => (match getD2 c i with
          | some x => (match fe s4 with
            | .ok re s5 => (match op (.val x) re s5 with
              | .ok rz s6 => (match rz.toD s6 with
                | .ok z s7 => (match ro.upd (setU i z) s7 with
                  | .ok _ s8 => .ok .nx s8
                  | _ => .bad)
                | _ => .bad)
              | .exn x s6 => .exn x s6
              | .bad => .bad)
            | .exn x s5 => .exn x s5
            | .bad => .bad)
          | none => .bad)
        | _ => .bad)
      | _ => .bad)
    | .exn x s2 => .exn x s2
    | .bad => .bad)
  | .exn x s1 => .exn x s1
  | .bad => .bad
end
end DL

/-! Comparisons of any kind; in-place operations. -/
namespace DL
open PySem L2 PyProof.Rows
def intsD : List D → Option (List Int)
  | [] => some []
  | .int i :: r => (intsD r).map (i :: ·)
  | _ => none
theorem intsD_eq : ∀ {ds : List D} {ns : List Int}, intsD ds = some ns → ds = ns.map D.int
  | [], ns, h => by cases h; rfl
  | d :: r, ns, h => by
    cases d with
    | int i =>
      have h : (intsD r).map (i :: ·) = some ns := h
      cases e : intsD r with
      | none => rw [e] at h; cases h
      | some ms => rw [e] at h; cases h; rw [List.map_cons, ← intsD_eq e]
    | _ => cases h
theorem intsD_map : ∀ ns : List Int, intsD (ns.map D.int) = some ns
  | [] => rfl
  | n :: ns => by show (intsD (ns.map D.int)).map (n :: ·) = _; rw [intsD_map ns]; rfl
def boolM (b : Bool) : M R := M.pure (.val (.bl b))
def ltM : D → D → M R
  | .int i, .int j => boolM (decide (i < j))
  | .tup a, .tup b => (match intsD a, intsD b with
    | some x, some y => boolM (HT.lexLt x y)
    | _, _ => M.bad)
  | .str i, .str j => boolM (decide (i.cps.toList < j.cps.toList))
  | _, _ => M.bad
def leT (ns ms : List Int) : Bool := Ob.lexAt (fun j => decide (ns.getD j 0 = ms.getD j 0)) (fun j => decide (ns.getD j 0 ≤ ms.getD j 0)) (decide (ns.length ≤ ms.length)) 0 (min ns.length ms.length)
def leM : D → D → M R
  | .int i, .int j => boolM (decide (i ≤ j))
  | .tup a, .tup b => (match intsD a, intsD b with
    | some x, some y => boolM (leT x y)
    | _, _ => M.bad)
  | _, _ => M.bad
def gtM : D → D → M R
  | .int i, .int j => boolM (decide (j < i))
  | _, _ => M.bad
def geM : D → D → M R
  | .int i, .int j => boolM (decide (j ≤ i))
  | _, _ => M.bad
def rLtA (K : PySem.W.Frag) : R2 := fun x y H Q => rI0 (fun i j => .bl (decide (i < j))) x y H Q ∨ (rLtT K x y H Q ∨ ∃ i j, x = .str i ∧ y = .str j ∧ Q (.bl (decide (i.cps.toList < j.cps.toList))) H)
def rLeA (K : PySem.W.Frag) : R2 := fun x y H Q => rI0 (fun i j => .bl (decide (i ≤ j))) x y H Q ∨ rLeT K x y H Q
section
variable {G : GD} {X : WX} {Xc : Cx} {N : List Str} {nm : List (Str × NameKind)} {pos : Pos} {σ σ1 : L2.St} {H H1 : Hp} {W W1 : WD} {s s1 : DS} {O O1 : Addr → Prop} {Q : VK}
theorem op_ltA (hu : Xc.A.units < cLine) : OpR Xc (compareOp .Lt) (rLtA Xc.K) := op_lt.or ((op_ltT hu).or op_lt_str)
theorem op_leA (hu : Xc.A.units < cLine) : OpR Xc (compareOp .LtE) (rLeA Xc.K) := op_le.or (op_leT hu)
theorem tupInts {a : List DL.D} {x : V} {ns : List Int} (la : RepL G W H (.tup a) x) (e : intsD a = some ns) : ∃ p, x = .ref p ∧ SqT G.K H p (ns.map V.int) := by
  obtain ⟨p, vs, e1, h, r⟩ := la.tup
  have e2 := intsD_eq e
  subst e2
  rw [RepDs.ints_inv r] at h
  exact ⟨p, e1, SqT.of h⟩
theorem ol_lt : OpL G X (rLtA G.K) ltM := by
  intro W s σ H x y a b O Q rp la lb hO hp
  cases a with
  | int i =>
    cases b with
    | int j =>
      have e1 := la.int; have e2 := lb.int; subst e1 e2
      exact .inl ⟨i, j, rfl, rfl, PostE.val hp rp hO rfl⟩
    | _ => exact hp.elim
  | str i =>
    cases b with
    | str j =>
      have e1 := la.str; have e2 := lb.str; subst e1 e2
      exact .inr (.inr ⟨i, j, rfl, rfl, PostE.val hp rp hO rfl⟩)
    | _ => exact hp.elim
  | tup i =>
    cases b with
    | tup j =>
      unfold ltM at hp
      cases e1 : intsD i with
      | none => simp only [e1] at hp; exact hp.elim
      | some ns =>
        cases e2 : intsD j with
        | none => simp only [e1, e2] at hp; exact hp.elim
        | some ms =>
          simp only [e1, e2] at hp
          obtain ⟨p, z1, h1⟩ := tupInts la e1
          obtain ⟨q, z2, h2⟩ := tupInts lb e2
          exact .inr (.inl ⟨p, q, ns, ms, z1, z2, h1, h2, PostE.val hp rp hO rfl⟩)
    | _ => exact hp.elim
  | _ => exact hp.elim
theorem ol_le : OpL G X (rLeA G.K) leM := by
  intro W s σ H x y a b O Q rp la lb hO hp
  cases a with
  | int i =>
    cases b with
    | int j =>
      have e1 := la.int; have e2 := lb.int; subst e1 e2
      exact .inl ⟨i, j, rfl, rfl, PostE.val hp rp hO rfl⟩
    | _ => exact hp.elim
  | tup i =>
    cases b with
    | tup j =>
      unfold leM at hp
      cases e1 : intsD i with
      | none => simp only [e1] at hp; exact hp.elim
      | some ns =>
        cases e2 : intsD j with
        | none => simp only [e1, e2] at hp; exact hp.elim
        | some ms =>
          simp only [e1, e2] at hp
          obtain ⟨p, z1, h1⟩ := tupInts la e1
          obtain ⟨q, z2, h2⟩ := tupInts lb e2
          exact .inr ⟨p, q, ns, ms, z1, z2, h1, h2, PostE.val hp rp hO rfl⟩
    | _ => exact hp.elim
  | _ => exact hp.elim
theorem ol_gt : OpL G X (rI0 fun i j => .bl (decide (j < i))) gtM := by
  intro W s σ H x y a b O Q rp la lb hO hp
  cases a with
  | int i =>
    cases b with
    | int j =>
      have e1 := la.int; have e2 := lb.int; subst e1 e2
      exact ⟨i, j, rfl, rfl, PostE.val hp rp hO rfl⟩
    | _ => exact hp.elim
  | _ => exact hp.elim
theorem ol_ge : OpL G X (rI0 fun i j => .bl (decide (j ≤ i))) geM := by
  intro W s σ H x y a b O Q rp la lb hO hp
  cases a with
  | int i =>
    cases b with
    | int j =>
      have e1 := la.int; have e2 := lb.int; subst e1 e2
      exact ⟨i, j, rfl, rfl, PostE.val hp rp hO rfl⟩
    | _ => exact hp.elim
  | _ => exact hp.elim
/-! ### is None -/
def isN : DL.D → Option Bool
  | .non => some true
  | .bl _ => some false
  | .int _ => some false
  | .str _ => some false
  | .tup _ => some false
  | .lst _ => some false
  | .dic _ _ => some false
  | .scr _ => some false
  | _ => none
def isM (neg : Bool) (a b : DL.D) : M R := match b with
  | .non => (match isN a with
    | some k => boolM (if neg then !k else k)
    | none => M.bad)
  | _ => M.bad
theorem isN_rep {a : DL.D} {x : V} {k : Bool} (la : RepL G W H a x) (e : isN a = some k) : decide (x = .non) = k := by
  cases a with
  | non => cases e; have := la.non; subst this; simp
  | bl b => cases e; have := la.bl; subst this; simp
  | int b => cases e; have := la.int; subst this; simp
  | str b => cases e; have := la.str; subst this; simp
  | tup b => cases e; obtain ⟨p, vs, z, _⟩ := la.tup; subst z; simp
  | lst b => cases e; obtain ⟨p, vs, z, _⟩ := la.lst; subst z; simp
  | dic b c => cases e; obtain ⟨p, vs, z, _⟩ := la.dic; subst z; simp
  | scr b => cases e; obtain ⟨p, z, _⟩ := la.scr rfl; subst z; simp
  | _ => cases e
theorem ol_isN : OpL G X (fun x y H Q => y = .non ∧ Q (.bl (decide (x = .non))) H) (isM false) := by
  intro W s σ H x y a b O Q rp la lb hO hp
  cases b with
  | non =>
    unfold isM at hp
    cases e : isN a with
    | none => simp only [e] at hp; exact hp.elim
    | some k =>
      simp only [e] at hp
      refine ⟨lb.non, ?_⟩
      rw [isN_rep la e]
      exact PostE.val hp rp hO rfl
  | _ => exact hp.elim
theorem ol_notN : OpL G X (fun x y H Q => y = .non ∧ Q (.bl (!decide (x = .non))) H) (isM true) := by
  intro W s σ H x y a b O Q rp la lb hO hp
  cases b with
  | non =>
    unfold isM at hp
    cases e : isN a with
    | none => simp only [e] at hp; exact hp.elim
    | some k =>
      simp only [e] at hp
      refine ⟨lb.non, ?_⟩
      rw [isN_rep la e]
      exact PostE.val hp rp hO rfl
  | _ => exact hp.elim
/-! ### in, not in -/
def flatD : DL.D → Bool
  | .non => true
  | .bl _ => true
  | .int _ => true
  | .str _ => true
  | _ => false
def eqF : DL.D → DL.D → Bool
  | .non, .non => true
  | .bl a, .bl b => a == b
  | .bl a, .int b => (if a then 1 else 0) == b
  | .int a, .bl b => a == (if b then 1 else 0)
  | .int a, .int b => a == b
  | .str a, .str b => a == b
  | _, _ => false
def inF (a : DL.D) (ds : List DL.D) : Bool := ds.any fun z => eqF z a
theorem flat_rep {d : DL.D} {v : V} (h : RepD G W H d v) (f : flatD d = true) : scV d = some v ∧ flatV v = true := by
  cases d with
  | non => cases (show v = .non from h); exact ⟨rfl, rfl⟩
  | bl b => cases (show v = .bl b from h); exact ⟨rfl, rfl⟩
  | int b => cases (show v = .int b from h); exact ⟨rfl, rfl⟩
  | str b => cases (show v = .str b from h); exact ⟨rfl, rfl⟩
  | _ => cases f
theorem eqF_rep {d e : DL.D} {v u : V} (h : scV d = some v) (g : scV e = some u) : eqV v u = eqF d e := by
  cases d <;> cases h <;> cases e <;> cases g <;> rfl
theorem flats_rep : ∀ {ds : List DL.D} {vs : List V}, RepDs G W H ds vs → ds.all flatD = true → vs.all flatV = true ∧ ∀ {a : DL.D} {x : V}, scV a = some x → inV x vs = inF a ds
  | [], vs, r, _ => by have e : vs = [] := r; subst e; exact ⟨rfl, fun _ => rfl⟩
  | d :: ds, vs, r, f => by
    obtain ⟨v, w, e, h1, h2⟩ := r.uncons
    subst e
    rw [List.all_cons, Bool.and_eq_true] at f
    obtain ⟨z1, z2⟩ := flats_rep h2 f.2
    obtain ⟨y1, y2⟩ := flat_rep h1 f.1
    refine ⟨by rw [List.all_cons, y2, z1]; rfl, fun {a x} g => ?_⟩
    have := z2 g
    unfold inV inF at this ⊢
    rw [List.any_cons, List.any_cons, this, eqF_rep y1 g]
def inM (neg : Bool) (a b : DL.D) : M R := match b with
  | .lst ds => if flatD a && ds.all flatD then boolM (if neg then !inF a ds else inF a ds) else
      if SeqAt.shaped (toP a) && SeqAt.shaped (.list (toPs ds)) then boolM (if neg then !(toPs ds).any fun z => PyData.eqv z (toP a) else (toPs ds).any fun z => PyData.eqv z (toP a)) else M.bad
  | .tup ds => if flatD a && ds.all flatD then boolM (if neg then !inF a ds else inF a ds) else M.bad
  | .dic ks ds => (match keyD a with
    | some k => boolM (if neg then !(getK ks ds k).isSome else (getK ks ds k).isSome)
    | none => M.bad)
  | _ => M.bad
def rInDG (neg : Bool) : R2 := fun x y H Q => ∃ a o, y = .ref a ∧ DGet H a x o ∧ Q (.bl (if neg then !o.isSome else o.isSome)) H
theorem op_inDG (hu : Xc.A.units + 1 < cLine) : OpR Xc (compareOp .In) (rInDG false) := by
  intro pins s σ H x y v u Q I rx ry h
  obtain ⟨a, o, rfl, g, q⟩ := h
  cases ry
  exact d_in hu I g rx fun s3 I3 => ⟨.bl o.isSome, H, I3, rfl, q⟩
theorem op_notinDG (hu : Xc.A.units + 1 < cLine) : OpR Xc (compareOp .NotIn) (rInDG true) := by
  intro pins s σ H x y v u Q I rx ry h
  obtain ⟨a, o, rfl, g, q⟩ := h
  cases ry
  exact d_notIn hu I g rx fun s3 I3 => ⟨.bl (!o.isSome), H, I3, rfl, q⟩
def rInAll (K : PySem.W.Frag) : R2 := fun x y H Q => rIn K false x y H Q ∨ (rInD K x y H Q ∨ rInDG false x y H Q)
def rNotInAll (K : PySem.W.Frag) : R2 := fun x y H Q => rIn K true x y H Q ∨ (rNotInD K x y H Q ∨ rInDG true x y H Q)
theorem op_inAll (hu : Xc.A.units + 200 < cLine) : OpR Xc (compareOp .In) (rInAll Xc.K) := op_in_seq.or ((op_inD (by omega)).or (op_inDG (by omega)))
theorem op_notinAll (hu : Xc.A.units + 200 < cLine) : OpR Xc (compareOp .NotIn) (rNotInAll Xc.K) := op_notIn_seq.or ((op_notInD (by omega)).or (op_notinDG (by omega)))
theorem getK_isSome {ks : List Key} {ds : List DL.D} {kvs : List (Key × V)} {k : Key} (hk : kvs.map (·.1) = ks) (r : RepDs G W H ds (kvs.map (·.2))) : (valV kvs k).isSome = (getK ks ds k).isSome := by
  subst hk
  cases e : getK (kvs.map (·.1)) ds k with
  | none => rw [getK_none r e]; rfl
  | some d =>
    obtain ⟨v, hv, _⟩ := getK_some r e
    rw [hv]; rfl
theorem in_step (neg : Bool) {x y : V} {a b : DL.D} (rp : Rep G W s σ H) (la : RepL G W H a x) (lb : RepL G W H b y) (hO : ∀ p, OwnAt s.env σ p → O p) (hp : PostE G X O W H σ (inM neg a b s) Q) :
    rIn G.K neg x y H Q ∨ ((∃ d ds, Dp G.K H x d ∧ Dp G.K H y (.list ds) ∧ SeqAt.shaped d = true ∧ SeqAt.shaped (.list ds) = true ∧ Q (.bl (if neg then !ds.any fun z => PyData.eqv z d else ds.any fun z => PyData.eqv z d)) H) ∨ rInDG neg x y H Q) := by
  have flat : ∀ {ds : List DL.D} {p : Addr} {vs : List V}, (flatD a && ds.all flatD) = true → RepDs G W H ds vs → (SqL G.K H p vs ∨ SqT G.K H p vs) → y = .ref p → PostE G X O W H σ (boolM (if neg then !inF a ds else inF a ds) s) Q → rIn G.K neg x y H Q := fun {ds p vs} c r sq e hp => by
    rw [Bool.and_eq_true] at c
    have ha : RepD G W H a x := la.elim id fun ⟨p, e, z⟩ => by
      cases a with
      | lst _ => cases c.1
      | dic _ _ => cases c.1
      | ins _ _ _ => cases c.1
      | _ => exact z.elim
    obtain ⟨f1, f2⟩ := flat_rep ha c.1
    obtain ⟨g1, g2⟩ := flats_rep r c.2
    refine ⟨p, vs, e, sq, f2, g1, ?_⟩
    rw [g2 f1]
    exact PostE.val hp rp hO rfl
  unfold inM at hp
  cases b with
  | tup ds =>
    obtain ⟨p, vs, e, h, r⟩ := lb.tup
    by_cases c : (flatD a && ds.all flatD) = true
    · simp only [if_pos c] at hp
      exact .inl (flat c r (.inr (SqT.of h)) e hp)
    · simp only [if_neg c] at hp; exact hp.elim
  | lst ds =>
    obtain ⟨p, vs, e, h, r⟩ := lb.lst
    by_cases c : (flatD a && ds.all flatD) = true
    · simp only [if_pos c] at hp
      exact .inl (flat c r (.inl (.inl h)) e hp)
    · simp only [if_neg c] at hp
      by_cases c2 : (SeqAt.shaped (toP a) && SeqAt.shaped (.list (toPs ds))) = true
      · simp only [if_pos c2] at hp
        rw [Bool.and_eq_true] at c2
        exact .inr (.inl ⟨toP a, toPs ds, la.dp (SeqAt.canLay_of_shaped c2.1), lb.dp (SeqAt.canLay_of_shaped c2.2), c2.1, c2.2, PostE.val hp rp hO rfl⟩)
      · simp only [if_neg c2] at hp; exact hp.elim
  | dic ks ds =>
    obtain ⟨p, kvs, e, h, hk, r⟩ := lb.dic
    cases ek : keyD a with
    | none => simp only [ek] at hp; exact hp.elim
    | some k =>
      simp only [ek] at hp
      refine .inr (.inr ⟨p, valV kvs k, e, .inl ⟨kvs, k, h, keyD_rep ek la, rfl⟩, ?_⟩)
      rw [getK_isSome hk r]
      exact PostE.val hp rp hO rfl
  | _ => exact hp.elim
theorem ol_in : OpL G X (rInAll G.K) (inM false) := fun W s σ H x y a b O Q rp la lb hO hp => in_step false rp la lb hO hp
theorem ol_notin : OpL G X (rNotInAll G.K) (inM true) := fun W s σ H x y a b O Q rp la lb hO hp => in_step true rp la lb hO hp
end
end DL

/-! Built-in functions and types called. -/
namespace DL
open PySem L2 PyProof.Rows
def s1 (f : R → M R) (fa : M R) : M R := fa >>= fun x => f x
def s2 (f : R → R → M R) (fa fb : M R) : M R := fa >>= fun x => fb >>= fun y => f x y
section
variable {G : GD} {X : WX} {Xc : Cx} {N : List Str} {nm : List (Str × NameKind)} {pos : Pos} {σ σ1 : L2.St} {H H1 : Hp} {W W1 : WD} {s s1 : DS} {O O1 : Addr → Prop} {Q : VK}
/-- a built-in function of one argument -/
theorem j_b1 {id : String} {x : Str} {r : List V → Hp → VK → Prop} {f : R → M R} {e : Expr} {fa : M R} {p : Pos} (hc : CallR Xc (.builtin id) r) (hs : UnS G X (fun x H Q => r [x] H Q) f) (F : Fm Xc G X N nm) (hg : nm.lookup x = some .globalImplicit) (hm : G.mg x = none)
    (hv : bootBuiltins x = some (.builtin id)) (ha : PE Xc e (TR G X fa)) (hn : x ≠ "__name__" := by decide) (hdb : (x == ("__debug__" : Str)) = false := by decide) (he : starEach [e] Xc.env = [(false, eval e Xc.env)] := by rfl) :
    PE Xc (.Call (.Name x p) [e] [] pos) (TR G X (DL.s1 f fa)) :=
  (pe_callB hc (by show Xc.env.scope.names.lookup x = _; rw [F.eS]; exact hg) (by rw [F.eM]; exact hm) hv (pa_cons ha pa_nil he) hn hdb he (by rfl)).imp fun σ H Q h => TR.one hs h
/-- .. of two -/
theorem j_b2 {id : String} {x : Str} {r : List V → Hp → VK → Prop} {f : R → R → M R} {a b : Expr} {fa fb : M R} {p : Pos} (hc : CallR Xc (.builtin id) r) (hs : OpS G X (fun x y H Q => r [x, y] H Q) f) (F : Fm Xc G X N nm) (hg : nm.lookup x = some .globalImplicit) (hm : G.mg x = none)
    (hv : bootBuiltins x = some (.builtin id)) (ha : PE Xc a (TR G X fa)) (hb : PE Xc b (TR G X fb)) (hn : x ≠ "__name__" := by decide) (hdb : (x == ("__debug__" : Str)) = false := by decide) (he : starEach [a, b] Xc.env = (false, eval a Xc.env) :: starEach [b] Xc.env := by rfl)
    (he2 : starEach [b] Xc.env = [(false, eval b Xc.env)] := by rfl) (hpl : (backTo pos (starEach [b] Xc.env)).any (·.1) = false := by rfl) :
    PE Xc (.Call (.Name x p) [a, b] [] pos) (TR G X (DL.s2 f fa fb)) :=
  (pe_callB hc (by show Xc.env.scope.names.lookup x = _; rw [F.eS]; exact hg) (by rw [F.eM]; exact hm) hv (pa_cons ha (pa_cons hb pa_nil he2) he) hn hdb he hpl).imp fun σ H Q h => TR.two hs h
/-- a built-in type of one argument -/
theorem j_t1 {T : String} {x : Str} {r : List V → Hp → VK → Prop} {f : R → M R} {e : Expr} {fa : M R} {p : Pos} (hc : CallR Xc (.type T) r) (hs : UnS G X (fun x H Q => r [x] H Q) f) (F : Fm Xc G X N nm) (hg : nm.lookup x = some .globalImplicit) (hm : G.mg x = none)
    (hv : bootBuiltins x = some (.type T)) (ha : PE Xc e (TR G X fa)) (hn : x ≠ "__name__" := by decide) (hdb : (x == ("__debug__" : Str)) = false := by decide) (he : starEach [e] Xc.env = [(false, eval e Xc.env)] := by rfl) :
    PE Xc (.Call (.Name x p) [e] [] pos) (TR G X (DL.s1 f fa)) :=
  (pe_callTy hc (by show Xc.env.scope.names.lookup x = _; rw [F.eS]; exact hg) (by rw [F.eM]; exact hm) hv (pa_cons ha pa_nil he) hn hdb he (by rfl)).imp fun σ H Q h => TR.one hs h
/-- the name of a built-in type -/
theorem j_ty {T : String} {x : Str} (F : Fm Xc G X N nm) (hg : nm.lookup x = some .globalImplicit) (hm : G.mg x = none) (hv : bootBuiltins x = some (.type T)) (hn : x ≠ "__name__" := by decide) (hd : (x == ("__debug__" : Str)) = false := by decide) : PE Xc (.Name x pos) (TR G X (sC (.ty T))) :=
  (pe_bltn (v := .ty T) (by show Xc.env.scope.names.lookup x = _; rw [F.eS]; exact hg) (by rw [F.eM]; exact hm) hv rfl hn hd).imp fun _ _ _ h => h.const fun _ => rfl
/-! ### len -/
def lenM : DL.D → M R
  | .lst ds => M.pure (.val (.int (ds.length : Int)))
  | .tup ds => M.pure (.val (.int (ds.length : Int)))
  | .str z => if z.length ≤ lim then M.pure (.val (.int (z.length : Int))) else M.bad
  | .scr ns => M.pure (.val (.int (ns.length : Int)))
  | _ => M.bad
theorem ul_len : UnL G X (fun x H Q => ∃ y n, [x] = [y] ∧ LenV G.K y H n ∧ Q (.int n) H) lenM := by
  intro W s σ H x a O Q rp la hO hp
  cases a with
  | lst ds =>
    obtain ⟨p, vs, e, h, r⟩ := la.lst
    subst e
    exact ⟨_, ds.length, rfl, .inl ⟨vs, .inl h, r.length⟩, PostE.val hp rp hO rfl⟩
  | tup ds =>
    obtain ⟨p, vs, e, h, r⟩ := la.tup
    subst e
    exact ⟨_, ds.length, rfl, .inr ⟨vs, SqT.of h, r.length⟩, PostE.val hp rp hO rfl⟩
  | scr ns =>
    obtain ⟨p, e, h⟩ := la.scr rfl
    subst e
    exact ⟨_, ns.length, rfl, .inl ⟨_, h, by rw [List.length_map]⟩, PostE.val hp rp hO rfl⟩
  | str z =>
    have e := la.str; subst e
    unfold lenM at hp
    by_cases c : z.length ≤ lim
    · simp only [if_pos c] at hp
      exact ⟨_, z.length, rfl, ⟨lim_le c, rfl⟩, PostE.val hp rp hO rfl⟩
    · simp only [if_neg c] at hp; exact hp.elim
  | _ => exact hp.elim
/-! ### list, tuple -/
def listM : DL.D → M R
  | .lst ds => M.pure (.own (.lst ds))
  | .tup ds => M.pure (.own (.lst ds))
  | _ => M.bad
def tupM : DL.D → M R
  | .lst ds => M.pure (.val (.tup ds))
  | .tup ds => M.pure (.val (.tup ds))
  | _ => M.bad
theorem ul_list : UnL G X (fun x H Q => ∃ p ys, [x] = [.ref p] ∧ (SqL G.K H p ys ∨ SqT G.K H p ys) ∧ ∀ l, H l = none → Q (.ref l) (upd H l (.lst ys))) listM := by
  intro W s σ H x a O Q rp la hO hp
  cases a with
  | lst ds =>
    obtain ⟨p, vs, e, h, r⟩ := la.lst
    subst e
    exact ⟨p, vs, rfl, .inl (.inl h), PostE.lst hp rp hO r⟩
  | tup ds =>
    obtain ⟨p, vs, e, h, r⟩ := la.tup
    subst e
    exact ⟨p, vs, rfl, .inr (SqT.of h), PostE.lst hp rp hO r⟩
  | _ => exact hp.elim
theorem ul_tup : UnL G X (fun x H Q => ∃ p ys, [x] = [.ref p] ∧ ((SqL G.K H p ys ∧ ∀ l, H l = none → Q (.ref l) (upd H l (.tup ys))) ∨ (SqT G.K H p ys ∧ Q (.ref p) H))) tupM := by
  intro W s σ H x a O Q rp la hO hp
  cases a with
  | lst ds =>
    obtain ⟨p, vs, e, h, r⟩ := la.lst
    subst e
    exact ⟨p, vs, rfl, .inl ⟨.inl h, PostE.tup hp rp hO r⟩⟩
  | tup ds =>
    obtain ⟨p, vs, e, h, r⟩ := la.tup
    subst e
    exact ⟨p, vs, rfl, .inr ⟨SqT.of h, PostE.val hp rp hO ⟨p, vs, rfl, h, r⟩⟩⟩
  | _ => exact hp.elim
/-! ### numbers -/
def absM : DL.D → M R
  | .int i => M.pure (.val (.int (if i < 0 then -i else i)))
  | _ => M.bad
theorem ul_abs : UnL G X (fun x H Q => ∃ i, [x] = [.int i] ∧ Q (.int (if i < 0 then -i else i)) H) absM := by
  intro W s σ H x a O Q rp la hO hp
  cases a with
  | int i => have e := la.int; subst e; exact ⟨i, rfl, PostE.val hp rp hO rfl⟩
  | _ => exact hp.elim
def intM : DL.D → M R
  | .int i => M.pure (.val (.int i))
  | .bl k => M.pure (.val (.int (if k then 1 else 0)))
  | _ => M.bad
theorem ul_int : UnL G X (fun x H Q => (∃ i, [x] = [.int i] ∧ Q (.int i) H) ∨ ∃ k, [x] = [.bl k] ∧ Q (.int (if k then 1 else 0)) H) intM := by
  intro W s σ H x a O Q rp la hO hp
  cases a with
  | int i => have e := la.int; subst e; exact .inl ⟨i, rfl, PostE.val hp rp hO rfl⟩
  | bl i => have e := la.bl; subst e; exact .inr ⟨i, rfl, PostE.val hp rp hO rfl⟩
  | _ => exact hp.elim
def minG (i j : Int) : Option DL.D := some (.int (if j < i then j else i))
def maxG (i j : Int) : Option DL.D := some (.int (if j > i then j else i))
theorem ol_min : OpL G X (fun x y H Q => ∃ i j, [x, y] = [.int i, .int j] ∧ Q (.int (if j < i then j else i)) H) (intD minG) := by
  intro W s σ H x y a b O Q rp la lb hO hp
  obtain ⟨i, j, e1, e2, q⟩ := ol_int0 (G := G) (X := X) (g := minG) (gv := fun i j => .int (if j < i then j else i)) (fun i j d e => by cases e; rfl) W s σ H x y a b O Q rp la lb hO hp
  exact ⟨i, j, by rw [e1, e2], q⟩
theorem ol_max : OpL G X (fun x y H Q => ∃ i j, [x, y] = [.int i, .int j] ∧ Q (.int (if j > i then j else i)) H) (intD maxG) := by
  intro W s σ H x y a b O Q rp la lb hO hp
  obtain ⟨i, j, e1, e2, q⟩ := ol_int0 (G := G) (X := X) (g := maxG) (gv := fun i j => .int (if j > i then j else i)) (fun i j d e => by cases e; rfl) W s σ H x y a b O Q rp la lb hO hp
  exact ⟨i, j, by rw [e1, e2], q⟩
def dmM : DL.D → DL.D → M R
  | .int i, .int j => if 0 < j ∧ j < 1073741824 then M.pure (.val (.tup [.int (i / j), .int (i % j)])) else M.bad
  | _, _ => M.bad
theorem ol_dm : OpL G X (fun x y H Q => ∃ i j, [x, y] = [.int i, .int j] ∧ CDiv i j ∧ ∀ p, H p = none → Q (.ref p) (upd H p (.tup [.int (i / j), .int (i % j)]))) dmM := by
  intro W s σ H x y a b O Q rp la lb hO hp
  cases a with
  | int i =>
    cases b with
    | int j =>
      have e1 := la.int; have e2 := lb.int; subst e1 e2
      unfold dmM at hp
      by_cases c : 0 < j ∧ j < 1073741824
      · simp only [if_pos c] at hp
        exact ⟨i, j, rfl, c, PostE.tup hp rp hO (.cons rfl (.cons rfl .nil))⟩
      · simp only [if_neg c] at hp; exact hp.elim
    | _ => exact hp.elim
  | _ => exact hp.elim
/-! ### isinstance of a built-in type -/
def tyN : DL.D → Option String
  | .non => some "NoneType"
  | .bl _ => some "bool"
  | .int _ => some "int"
  | .str _ => some "str"
  | .tup _ => some "tuple"
  | .lst _ => some "list"
  | .dic _ _ => some "dict"
  | _ => none
def isiM (a b : DL.D) : M R := match b with
  | .ty T => (match (tyN a).bind fun t => kitB t T with
    | some k => boolM k
    | none => M.bad)
  | _ => M.bad
theorem tyN_rep {a : DL.D} {x : V} {t : String} (la : RepL G W H a x) (e : tyN a = some t) : TyX G.K H x (.type t) := by
  cases a with
  | non => cases e; have := la.non; subst this; exact .base .non
  | bl b => cases e; have := la.bl; subst this; exact .base (.bl b)
  | int b => cases e; have := la.int; subst this; exact .base (.int b)
  | str b => cases e; have := la.str; subst this; exact .base (.str b)
  | tup b => cases e; obtain ⟨p, vs, z, h, _⟩ := la.tup; subst z; exact .base (.tup h)
  | lst b => cases e; obtain ⟨p, vs, z, h, _⟩ := la.lst; subst z; exact h.elim (fun h => .base (.lst h)) fun ⟨o, h⟩ => .base (.frz h)
  | dic b c => cases e; obtain ⟨p, vs, z, h, _⟩ := la.dic; subst z; exact h.elim (fun h => .base (.dK h)) fun ⟨o, h⟩ => .fDict h
  | _ => cases e
theorem ol_isi : OpL G X (fun x y H Q => rIsi G.K [x, y] H Q) isiM := by
  intro W s σ H x y a b O Q rp la lb hO hp
  cases b with
  | ty T =>
    unfold isiM at hp
    cases e : tyN a with
    | none => simp only [e, Option.bind] at hp; exact hp.elim
    | some t =>
      cases e2 : kitB t T with
      | none => simp only [e, Option.bind, e2] at hp; exact hp.elim
      | some k =>
        simp only [e, Option.bind, e2] at hp
        have ey : y = .ty T := lb.elim id fun ⟨_, _, z⟩ => z.elim
        subst ey
        exact ⟨x, .ty T, .type t, .type T, k, rfl, .ty T, tyN_rep la e, kit_ty e2, PostE.val hp rp hO rfl⟩
  | _ => exact hp.elim
theorem kit1 : kitB "int" "int" = some true ∧ kitB "bool" "int" = some true ∧ kitB "str" "int" = some false ∧ kitB "tuple" "int" = some false ∧ kitB "list" "int" = some false ∧ kitB "dict" "int" = some false ∧ kitB "NoneType" "int" = some false := by decide +kernel
theorem kit2 : kitB "int" "bool" = some false ∧ kitB "bool" "bool" = some true ∧ kitB "str" "bool" = some false ∧ kitB "tuple" "bool" = some false ∧ kitB "list" "bool" = some false ∧ kitB "dict" "bool" = some false ∧ kitB "NoneType" "bool" = some false := by decide +kernel
theorem kit3 : kitB "int" "tuple" = some false ∧ kitB "bool" "tuple" = some false ∧ kitB "str" "tuple" = some false ∧ kitB "tuple" "tuple" = some true ∧ kitB "list" "tuple" = some false ∧ kitB "dict" "tuple" = some false ∧ kitB "NoneType" "tuple" = some false := by decide +kernel
theorem kit4 : kitB "int" "str" = some false ∧ kitB "bool" "str" = some false ∧ kitB "str" "str" = some true ∧ kitB "tuple" "str" = some false ∧ kitB "list" "str" = some false ∧ kitB "dict" "str" = some false ∧ kitB "NoneType" "str" = some false := by decide +kernel
theorem kit5 : kitB "int" "list" = some false ∧ kitB "bool" "list" = some false ∧ kitB "str" "list" = some false ∧ kitB "tuple" "list" = some false ∧ kitB "list" "list" = some true ∧ kitB "dict" "list" = some false ∧ kitB "NoneType" "list" = some false := by decide +kernel
end
end DL

/-! * of numbers, of a list or a tuple and a number; repr. -/
namespace DL
open PySem L2 PyProof.Rows
theorem tuple_mul1 (l : Addr) (items : Array Value) (n : Nat) (dd : Option Addr) (sl : Array (Option Value)) (u : Tok) :
    Meets (Builtin.«tuple.__mul__» ⟨[.ref l, .int 1 u], []⟩) (fun _ R s => s.heap.get? l = some { cls := .type "tuple", dict := dd, data := .seq items n, slots := sl } ∧ R (.ok (.ret (Value.ref l))) s) :=
  .of_wp fun prog w A R s h => by
    obtain ⟨hp, g, d, tk, os⟩ := s
    obtain ⟨hl, h⟩ := h
    have f1 := AutoSeq1.idx_int
    have c1 : (items.isEmpty || (1 : Int) == 1) = true := by simp
    wp_walk using wpAny_loadPart' hl
    exact ⟨_, rfl, h⟩
def rRepT1 (K : PySem.W.Frag) : R2 := fun x y H Q => ∃ l xs, x = .ref l ∧ y = .int 1 ∧ SqT K H l xs ∧ Q (.ref l) H
theorem op_repT1 {Xc : Cx} : OpR Xc (binaryOp .Mult) (rRepT1 Xc.K) := by
  intro pins s σ H x y v u Q I rx ry h
  obtain ⟨l, xs, rfl, rfl, hT, q⟩ := h
  cases rx
  obtain ⟨t, rfl⟩ := ry
  obtain ⟨its, r, ⟨⟨cls, dd, data, sl⟩, ho, hc, n, hd⟩, hs⟩ := I.tuple hT
  simp only at hc hd
  subst hc hd
  exact wpAny_binaryOp_repeat_ref (T := "tuple") (U := "int") (by decide) ⟨_, ho, rfl⟩ (fun s' => typeIs_int s' 1 t) noFill_tuple_mul F.fills_int_mul F.slot_int_rmul repeat_tuple F.slot_int_index.lookup
    (call_meets F.slot_int_rmul (typeIs_int s 1 t) F.entry_int_rmul (F.args_int_rmul_2 _ _) (int_rmul_tuple 1 t l its.toArray n dd sl)
      ⟨ho, rfl, ⟨_, ho, rfl⟩, call_meets F.slot_tuple_mul ⟨_, ho, rfl⟩ F.entry_tuple_mul (F.args_tuple_mul_2 _ _) (tuple_mul1 l its.toArray n dd sl t) ⟨ho, ⟨.ref l, H, I, rfl, q⟩⟩⟩)
def mulM : D → D → M R
  | .int i, .int j => if i.natAbs.log2 + j.natAbs.log2 < 1000000 then M.pure (.val (.int (i * j))) else M.bad
  | .lst ds, .int k => if -lim ≤ k ∧ k ≤ lim ∧ ds.length * k.toNat ≤ lim then M.pure (.own (.lst (List.replicate k.toNat ds).flatten)) else M.bad
  | .tup ds, .int k => if ds ≠ [] ∧ 1 ≤ k ∧ k ≤ 1000 ∧ ds.length ≤ 1000 then M.pure (.val (.tup (List.replicate k.toNat ds).flatten)) else M.bad
  | _, _ => M.bad
/-- a list that is read alone -/
def rRepL : R2 := fun x y H Q => ∃ l k xs, x = .ref l ∧ y = .int k ∧ Rd H l (.lst xs) ∧ -(2 ^ 63) ≤ k ∧ k < 2 ^ 63 ∧ xs.length * k.toNat ≤ sizeLine ∧
  ∀ p, H p = none → Q (.ref p) (upd H p (.lst (List.replicate k.toNat xs).flatten))
theorem op_repR {Xc : Cx} : OpR Xc (binaryOp .Mult) rRepL := by
  intro pins s σ H x y v u Q I rx ry ⟨l, k, xs, ex, ey, hR, lo, hi, len, q⟩
  subst ex ey
  cases rx
  obtain ⟨t, eu⟩ := ry
  subst eu
  obtain ⟨z, ws, n, rv, hg⟩ := hR.ok I.hok
  have lw : ws.length = xs.length := rv.length.symm
  have small : ws.toArray.size * k.toNat ≤ sizeLine := by rw [List.size_toArray, lw]; exact len
  have cap : ¬ ws.toArray.size * k.toNat > (2 ^ 63 - 1) / 8 := by
    have b : (sizeLine : Nat) ≤ (2 ^ 63 - 1) / 8 := by decide
    omega
  have fit : ¬ (!Builtin.List.listFitsIndex k) = true := by rw [fitsIndex_both lo hi]; decide
  have long : ¬ Builtin.List.listTooLong (ws.toArray.size * k.toNat) = true := by rw [notLongL small]; decide
  have flat : List.foldl (fun a b => a ++ b) #[] (List.replicate (if ws.toArray.isEmpty = true then 0 else k.toNat) ws.toArray) = (List.replicate k.toNat ws).flatten.toArray := by
    cases ws with
    | nil => simp
    | cons a b => rw [if_neg (by simp), size_rep]
  refine wpAny_binaryOp_repeat_ref (T := "list") (U := "int") (by decide) ⟨_, hg, rfl⟩ (fun s' => typeIs_int s' k t) noFill_list_mul F.fills_int_mul F.slot_int_rmul repeat_list F.slot_int_index.lookup
    (call_meets F.slot_int_rmul (typeIs_int s k t) F.entry_int_rmul (F.args_int_rmul_2 _ _) (int___rmul___int_list k t l ws.toArray n) ⟨hg, rfl, ⟨_, hg, rfl⟩,
      call_meets F.slot_list_mul ⟨_, hg, rfl⟩ F.entry_list_mul (F.args_list_mul_2 _ _) (AutoListH.list___mul___list_int_3 l ws.toArray n k t fit cap long) ⟨hg, ?_⟩⟩)
  rw [flat]
  exact ⟨.ref _, _, I.lnew (t' := s.toks) (rv.rep k.toNat) (by rw [PyProof.Rows.lm_len_rep_flat, Nat.mul_comm]; exact len), rfl, q _ I.fresh⟩
def rMulA (K : PySem.W.Frag) : R2 := fun x y H Q => rI CMulW (fun i j => .int (i * j)) x y H Q ∨ (rRepL x y H Q ∨ (rRepT K x y H Q ∨ rRepT1 K x y H Q))
theorem op_mulA {Xc : Cx} : OpR Xc (binaryOp .Mult) (rMulA Xc.K) := op_mulW.or (op_repR.or (op_repT.or op_repT1))
section
variable {G : GD} {X : WX} {Xc : Cx} {N : List Str} {nm : List (Str × NameKind)} {pos : Pos}
theorem ol_mul : OpL G X (rMulA G.K) mulM := by
  intro W s σ H x y a b O Q rp la lb hO hp
  cases a with
  | int i =>
    cases b with
    | int j =>
      have e1 := la.int; have e2 := lb.int; subst e1 e2
      unfold mulM at hp
      by_cases c : i.natAbs.log2 + j.natAbs.log2 < 1000000
      · simp only [if_pos c] at hp
        exact .inl ⟨i, j, rfl, rfl, c, PostE.val hp rp hO rfl⟩
      · simp only [if_neg c] at hp; exact hp.elim
    | _ => exact hp.elim
  | lst ds =>
    cases b with
    | int k =>
      have e2 := lb.int; subst e2
      obtain ⟨p, vs, e, h, r⟩ := la.lst
      subst e
      unfold mulM at hp
      by_cases c : -(lim : Int) ≤ k ∧ k ≤ (lim : Int) ∧ ds.length * k.toNat ≤ lim
      · simp only [if_pos c] at hp
        obtain ⟨c1, c2, c3⟩ := c
        have hl : (lim : Int) = 1000000 := rfl
        exact .inr (.inl ⟨p, k, vs, rfl, rfl, h, by omega, by omega, by rw [← r.length]; exact lim_le c3, PostE.lst hp rp hO (r.flat _)⟩)
      · simp only [if_neg c] at hp; exact hp.elim
    | _ => exact hp.elim
  | tup ds =>
    cases b with
    | int k =>
      have e2 := lb.int; subst e2
      obtain ⟨p, vs, e, h, r⟩ := la.tup
      subst e
      unfold mulM at hp
      by_cases c : ds ≠ [] ∧ 1 ≤ k ∧ k ≤ 1000 ∧ ds.length ≤ 1000
      · simp only [if_pos c] at hp
        obtain ⟨c1, c2, c3, c4⟩ := c
        by_cases ck : k = 1
        · subst ck
          have e3 : (List.replicate (1 : Int).toNat ds).flatten = ds := by
            show (List.replicate 1 ds).flatten = ds
            simp
          rw [e3] at hp
          exact .inr (.inr (.inr ⟨p, vs, rfl, rfl, SqT.of h, PostE.val hp rp hO ⟨p, vs, rfl, h, r⟩⟩))
        · refine .inr (.inr (.inl ⟨p, k, vs, rfl, rfl, SqT.of h, fun z => c1 ?_, by omega, c3, by rw [← r.length]; exact c4, PostE.tup hp rp hO (r.flat _)⟩))
          have := r.length
          rw [z] at this
          exact List.length_eq_zero_iff.mp this
      · simp only [if_neg c] at hp; exact hp.elim
    | _ => exact hp.elim
  | _ => exact hp.elim
theorem ul_repr : UnL G X (fun x H Q => rRepr G.K [x] H Q) reprM := by
  intro W s σ H x a O Q rp la hO hp
  unfold reprM at hp
  by_cases c : (SeqAt.shaped (toP a) && ((toP a).showable && decide ((toP a).shown.length ≤ lim))) = true
  · simp only [if_pos c] at hp
    rw [Bool.and_eq_true, Bool.and_eq_true, decide_eq_true_eq] at c
    exact ⟨x, toP a, rfl, la.dp (SeqAt.canLay_of_shaped c.1), c.1, c.2.1, lim_le c.2.2, PostE.val hp rp hO rfl⟩
  · simp only [if_neg c] at hp; exact hp.elim
end
end DL

/-! op=; methods; displays of dicts. -/
namespace DL
open PySem L2 PyProof.Rows
section
variable {G : GD} {X : WX} {Xc : Cx} {N : List Str} {nm : List (Str × NameKind)} {pos : Pos} {σ σ1 : L2.St} {H H1 : Hp} {W W1 : WD} {s s1 : DS} {O O1 : Addr → Prop} {Q : VK}
theorem getD2_sc {c i d : DL.D} (e : getD2 c i = some d) : ∃ v, scV i = some v := by
  unfold getD2 at e
  cases c with
  | lst ds =>
    cases i with
    | int n => exact ⟨_, rfl⟩
    | _ => cases e
  | dic ks ds =>
    cases i with
    | int n => exact ⟨_, rfl⟩
    | str n => exact ⟨_, rfl⟩
    | _ => cases e
  | _ => cases e
theorem RepL.sc {i : DL.D} {v v0 : V} (h : RepL G W H i v) (e : scV i = some v0) : v = v0 := by
  cases i with
  | non => cases e; exact h.non
  | bl b => cases e; exact h.bl
  | int b => cases e; exact h.int
  | str b => cases e; exact h.str
  | _ => cases e
theorem j_augS {o i e : Expr} {fo fi fe : M R} {op : Operator} {r : R2} {f : R → R → M R} {tpos : Pos} (F : Fm Xc G X N nm) (ho : PE Xc o (TR G X fo)) (hi : PE Xc i (TR G X fi)) (hop : OpR Xc (inplaceOp op) r) (hs : OpS G X r f) (he : PE Xc e (TR G X fe))
    (ha : ∀ ov iv new, augStore i ov iv new = (do holding [new, ov, iv] (setItem ov iv new); release [new, ov, iv] []; pure .next) := by intros; rfl) : PS Xc (.AugAssign (.Subscript o i tpos) op e pos) (TSt G X (sAugS fo fi f fe)) := by
  refine (ps_augS ho hi (get_all (by have := F.un; omega)) he (tip := r) hop (set_all (by have := F.un; omega)) ha).imp fun En σ H ⟨W, s, rp, hp⟩ => ⟨W, s, rp, ?_⟩
  unfold sAugS at hp
  cases e1 : fo s with
  | bad => rw [e1] at hp; exact hp.elim
  | exn x s1 => rw [e1] at hp; exact hp
  | ok ro s1 =>
    simp only [e1] at hp
    intro W1 H1 ov st1 rp1 rro oo
    refine ⟨W1, s1, rp1, ?_⟩
    cases e2 : fi s1 with
    | bad => simp only [e2] at hp; exact hp.elim
    | exn x s2 => simp only [e2] at hp; exact fun W' σ' H' c d a b z => hp W' σ' H' c d (st1.trans a) b z
    | ok ri s2 =>
      simp only [e2] at hp
      intro W2 H2 iv st2 rp2 rri oi
      have rro2 := rro.step rp1 st2 rp2
      cases e3 : ri.look s2 with
      | bad => simp only [e3] at hp; exact hp.elim
      | exn x s3 => exact (R.look_exn e3).elim
      | ok i s3 =>
        simp only [e3] at hp
        obtain ⟨q3, li⟩ := look_ok rp2 rri e3
        subst q3
        cases e4 : ro.look s3 with
        | bad => simp only [e4] at hp; exact hp.elim
        | exn x s4 => exact (R.look_exn e4).elim
        | ok c s4 =>
          simp only [e4] at hp
          obtain ⟨q4, lc⟩ := look_ok rp2 rro2 e4
          subst q4
          cases e5 : getD2 c i with
          | none => simp only [e5] at hp; exact hp.elim
          | some x =>
            simp only [e5] at hp
            rw [F.eK]
            refine get_step lc li e5 fun xv rx => ⟨W2, s4, rp2, ?_⟩
            cases e6 : fe s4 with
            | bad => simp only [e6] at hp; exact hp.elim
            | exn x s5 => simp only [e6] at hp; exact fun W' σ' H' c d a b z => hp W' σ' H' c d ((st1.trans st2).trans a) b z
            | ok re s5 =>
              simp only [e6] at hp
              intro W5 H5 yv st5 rp5 rre oe
              have sy5 := st5.stay rp2.apart
              have st45 : Step (OwnAt s4.env σ) W2 H2 (fun p => OwnAt s5.env σ p ∨ OwnedBy re yv p) W5 H5 := st5.subO fun p z => by
                rcases z with z | z
                · exact .inr (.inl z)
                · exact (oe p z).elim .inl fun y => .inr (.inr y)
              refine hs W5 s5 σ H5 xv yv (.val x) re (fun p => OwnAt s5.env σ p ∨ OwnedBy re yv p) _ rp5 (rx.stay sy5) rre (fun p z => .inl z) (fun p z => z.elim) (fun p z => .inr z) ?_
              cases e7 : f (.val x) re s5 with
              | bad => simp only [e7] at hp; exact hp.elim
              | exn x s6 =>
                simp only [e7] at hp
                exact fun W' σ' H' c d a b z => hp W' σ' H' c d (((st1.trans st2).trans st45).trans a) b z
              | ok rz s6 =>
                simp only [e7] at hp
                intro W6 H6 zv st6 rp6 rrz oz
                cases e8 : rz.toD s6 with
                | bad => simp only [e8] at hp; exact hp.elim
                | exn x s7 => exact (R.toD_exn e8).elim
                | ok z s7 =>
                  simp only [e8] at hp
                  obtain ⟨W7, st7, rp7, rd7, _⟩ := toD_ok (O := fun p => OwnAt s6.env σ p ∨ OwnedBy rz zv p) rp6 rrz e8 (fun p z => .inl z) (fun p z => .inr z)
                  have st67 := (st6.subO (O2 := fun p => OwnAt s6.env σ p ∨ OwnedBy rz zv p) fun p z => (by
                    rcases z with z | z
                    · exact .inr (.inl z)
                    · exact (oz p z).elim .inl fun y => .inr (.inr y))).trans st7
                  have st47 := st45.trans st67
                  cases e9 : ro.upd (setU i z) s7 with
                  | bad => simp only [e9] at hp; exact hp.elim
                  | exn x s8 => exact (R.upd_exn e9).elim
                  | ok u s8 =>
                    simp only [e9] at hp
                    obtain ⟨v0, hv0⟩ := getD2_sc e5
                    have ei : iv = v0 := RepL.sc li hv0
                    subst ei
                    exact set_step rp7 (rro2.step rp2 st47 rp7) (.inl (scV_rep hv0)) rd7 e9 fun H8 st8 rp8 => hp W7 σ H8 (((st1.trans st2).trans st47).trans st8) rp8
/-- name op= e -/
def sAug (i : Nat) (f : R → R → M R) (fe : M R) : M Ctl := fun s => match s.env[i]? with
  | some (.val d) => (match fe s with
    | .ok re s1 => (match f (.val d) re s1 with
      | .ok rz s2 => (match rz.put i s2 with
        | .ok _ s3 => .ok .nx s3
        | _ => .bad)
      | .exn x s2 => .exn x s2
      | .bad => .bad)
    | .exn x s1 => .exn x s1
    | .bad => .bad)
  | _ => .bad
theorem j_aug {i : Nat} {x : Str} {e : Expr} {fe : M R} {op : Operator} {r : R2} {f : R → R → M R} {pos' : Pos} (F : FmS Xc G X N nm) (hi : N[i]? = some x) (hx : nm.lookup x = some .local ∨ nm.lookup x = some .cell) (hop : OpR Xc (inplaceOp op) r) (hs : OpS G X r f) (he : PE Xc e (TR G X fe)) :
    PS Xc (.AugAssign (.Name x pos') op e pos) (TSt G X (sAug i f fe)) := by
  refine (ps_aug (i := i) (ti := r) (by rw [F.eN]; exact F.nd) (by rw [F.eN]; exact hi) (by unfold L2.Loc; rw [F.eS]; exact hx) he hop (.inl (F.fn x))).imp fun En σ H ⟨W, s, rp, hp⟩ => ?_
  unfold sAug at hp
  cases e0 : s.env[i]? with
  | none => simp only [e0] at hp; exact hp.elim
  | some y =>
    cases y with
    | un => simp only [e0] at hp; exact hp.elim
    | own d => simp only [e0] at hp; exact hp.elim
    | val d =>
      simp only [e0] at hp
      obtain ⟨v, hv, rd⟩ := rp.val i d e0
      refine ⟨v, hv, W, s, rp, ?_⟩
      cases e1 : fe s with
      | bad => simp only [e1] at hp; exact hp.elim
      | exn x s1 => simp only [e1] at hp; exact hp
      | ok re s1 =>
        simp only [e1] at hp
        intro W1 H1 yv st1 rp1 rre oe
        have st01 : Step (OwnAt s.env σ) W H (fun p => OwnAt s1.env σ p ∨ OwnedBy re yv p) W1 H1 := st1.subO fun p z => by
          rcases z with z | z
          · exact .inr (.inl z)
          · exact (oe p z).elim .inl fun y => .inr (.inr y)
        refine hs W1 s1 σ H1 v yv (.val d) re (fun p => OwnAt s1.env σ p ∨ OwnedBy re yv p) _ rp1 (rd.stay (st1.stay rp.apart)) rre (fun p z => .inl z) (fun p z => z.elim) (fun p z => .inr z) ?_
        cases e2 : f (.val d) re s1 with
        | bad => simp only [e2] at hp; exact hp.elim
        | exn x s2 => simp only [e2] at hp; exact fun W' σ' H' c d a b z => hp W' σ' H' c d (st01.trans a) b z
        | ok rz s2 =>
          simp only [e2] at hp
          intro W2 H2 zv st2 rp2 rrz oz
          cases e3 : rz.put i s2 with
          | bad => simp only [e3] at hp; exact hp.elim
          | exn x s3 => exact (R.put_exn e3).elim
          | ok u s3 =>
            simp only [e3] at hp
            obtain ⟨W3, st3, rp3⟩ := put_ok (O := fun p => OwnAt s2.env σ p ∨ OwnedBy rz zv p) rp2 rrz e3 (fun p z => .inl z) (fun p z => .inr z)
            have st23 := (st2.subO (O2 := fun p => OwnAt s2.env σ p ∨ OwnedBy rz zv p) fun p z => (by
              rcases z with z | z
              · exact .inr (.inl z)
              · exact (oz p z).elim .inl fun y => .inr (.inr y))).trans st3
            exact hp W3 _ H2 (st01.trans st23) rp3
end
end DL

/-! Methods of lists; displays of dicts. -/
namespace DL
open PySem L2 PyProof.Rows
def isL : D → Bool
  | .lst _ => true
  | _ => false
def sM (k : D → Bool) (f : R → List D → M R) (fo : M R) (fs : M (List D)) : M R := fun s => match fo s with
  | .ok ro s1 => (match ro.look s1 with
    | .ok c s2 => if k c = true then (match fs s2 with
      | .ok ds s3 => f ro ds s3
      | .exn x s3 => .exn x s3
      | .bad => .bad) else .bad
    | _ => .bad)
  | .exn x s1 => .exn x s1
  | .bad => .bad
def MtS (G : GD) (X : WX) (r : V → List V → Hp → VK → Prop) (f : R → List D → M R) : Prop :=
  ∀ (W : WD) (s : DS) (σ : L2.St) (H : Hp) (x : V) (vs : List V) (ro : R) (ds : List D) (O : Addr → Prop) (Q : VK), Rep G W s σ H → RepR G W s σ H ro x → RepDs G W H ds vs →
    (∀ p, OwnAt s.env σ p → O p) → PostE G X O W H σ (f ro ds s) Q → r x vs H Q
section
variable {G : GD} {X : WX} {Xc : Cx} {N : List Str} {nm : List (Str × NameKind)} {pos : Pos} {σ σ1 : L2.St} {H H1 : Hp} {W W1 : WD} {s s1 : DS} {O O1 : Addr → Prop} {Q : VK}
theorem TR.meth {T : String} {k : DL.D → Bool} {r : V → List V → Hp → VK → Prop} {f : R → List DL.D → M R} {fo : M R} {fs : M (List DL.D)} {K : PySem.W.Frag} (hk : ∀ {W : WD} {H : Hp} {c : DL.D} {v : V}, k c = true → RepL G W H c v → tyV K T v H) (hs : MtS G X r f)
    (h : TR G X (sM k f fo fs) σ H Q) : tBM K T r (TR G X fo) (TA' G X fs) σ H Q := by
  obtain ⟨W, s, rp, hp⟩ := h
  refine ⟨W, s, rp, ?_⟩
  unfold sM at hp
  cases e1 : fo s with
  | bad => rw [e1] at hp; exact hp.elim
  | exn x s1 => rw [e1] at hp; exact hp
  | ok ro s1 =>
    simp only [e1] at hp
    intro W1 H1 v st1 rp1 rro oo
    cases e2 : ro.look s1 with
    | bad => simp only [e2] at hp; exact hp.elim
    | exn x s2 => exact (R.look_exn e2).elim
    | ok c s2 =>
      simp only [e2] at hp
      obtain ⟨q, lc⟩ := look_ok rp1 rro e2
      subst q
      by_cases ck : k c = true
      · simp only [if_pos ck] at hp
        refine ⟨hk ck lc, W1, s2, rp1, ?_⟩
        cases e3 : fs s2 with
        | bad => simp only [e3] at hp; exact hp.elim
        | exn x s3 => simp only [e3] at hp; exact fun W' σ' H' c d a b z => hp W' σ' H' c d (st1.trans a) b z
        | ok ds s3 =>
          simp only [e3] at hp
          intro W3 H3 vs st3 rp3 rds
          refine hs W3 s3 σ H3 v vs ro ds (OwnAt s3.env σ) Q rp3 (rro.step rp1 st3 rp3) rds (fun _ z => z) ?_
          exact PostE.after (O0' := fun _ => True) hp (st1.trans st3)
      · simp only [if_neg ck] at hp; exact hp.elim
theorem lst_ty {W : WD} {H : Hp} {c : DL.D} {v : V} (hk : isL c = true) (l : RepL G W H c v) : tyV G.K "list" v H := by
  cases c with
  | lst ds =>
    obtain ⟨p, vs, e, h, r⟩ := l.lst
    subst e
    exact .inl ⟨rfl, vs, .inl h⟩
  | _ => cases hk
theorem j_lm {id : String} {name : Str} {o e : Expr} {es : List Expr} {fo : M R} {fs : M (List DL.D)} {r : V → List V → Hp → VK → Prop} {f : R → List DL.D → M R} {apos : Pos} (F : Fm Xc G X N nm) (pa : PlainAttrs "list") (slot : PySem.Slot "list" name id) (hty : typeOf (.builtin id) = pure (.type "method_descriptor"))
    (hm : MtR Xc id r) (hs : MtS G X r f) (ho : PE Xc o (TR G X fo)) (ha : PA Xc (e :: es) (TA' G X fs)) (hbase : attributeBase o name Xc.env (eval o Xc.env) = eval o Xc.env := by rfl)
    (hfew : ((backTo pos (starEach (e :: es) Xc.env)).all (fun x => !x.1) && (backToKw pos (keywordEach [] Xc.env)).all (fun x => x.1.isSome)
      && decide ((e :: es).length + ([] : List Keyword).length + (if ([] : List Keyword).isEmpty then 0 else 1) < 30)) = true := by rfl)
    (hline : (apos.endLine == pos.line) = true := by rfl) (he : starEach (e :: es) Xc.env = (false, eval e Xc.env) :: starEach es Xc.env := by rfl) (hpl : (backTo pos (starEach es Xc.env)).any (·.1) = false := by rfl) :
    PE Xc (.Call (.Attribute o name apos) (e :: es) [] pos) (TR G X (sM isL f fo fs)) :=
  (pe_bm pa slot hty hm ho ha hbase hfew hline he hpl).imp fun σ H Q h => by
    rw [F.eK]
    exact h.meth (fun hk l => lst_ty hk l) hs
theorem j_lm0 {id : String} {name : Str} {o : Expr} {fo : M R} {r : V → List V → Hp → VK → Prop} {f : R → List DL.D → M R} {apos : Pos} (F : Fm Xc G X N nm) (pa : PlainAttrs "list") (slot : PySem.Slot "list" name id) (hty : typeOf (.builtin id) = pure (.type "method_descriptor"))
    (hm : MtR Xc id r) (hs : MtS G X r f) (ho : PE Xc o (TR G X fo)) (hbase : attributeBase o name Xc.env (eval o Xc.env) = eval o Xc.env := by rfl) (hline : (apos.endLine == pos.line) = true := by rfl) :
    PE Xc (.Call (.Attribute o name apos) [] [] pos) (TR G X (sM isL f fo sNil)) :=
  (pe_bm0 pa slot hty hm ho hbase hline).imp fun σ H Q h => by
    rw [F.eK]
    obtain ⟨W, s, rp, hp⟩ := h.meth (K := G.K) (T := "list") (fun hk l => lst_ty hk l) hs
    refine ⟨W, s, rp, hp.mono fun v H' ⟨ty, W2, s2, rp2, hp2⟩ => ⟨ty, hp2 W2 H' [] (Step.refl.subO fun p z => .inl z) rp2 rfl⟩⟩
/-! ### append, pop -/
def updR (r : R) (f : DL.D → Option (DL.D × DL.D)) : M R := fun s => match r.upd f s with
  | .ok d s1 => .ok (.val d) s1
  | .exn x s1 => .exn x s1
  | .bad => .bad
theorem upd_post {r : R} {v : V} {f : DL.D → Option (DL.D × DL.D)} (rp : Rep G W s σ H) (h : RepR G W s σ H r v) (hO : ∀ p, OwnAt s.env σ p → O p) (hp : PostE G X O W H σ (updR r f s) Q) :
    ∃ p d d' a, v = .ref p ∧ RepC G W H d p ∧ f d = some (d', a) ∧ ∀ o', (∀ xs, o' ≠ .tup xs) → (∀ c ks ds, d' ≠ .ins c ks ds) → (Stay W H W (upd H p o') → RepC G W (upd H p o') d' p) → ∀ u, (Stay W H W (upd H p o') → RepD G W (upd H p o') a u) → Q u (upd H p o') := by
  unfold updR at hp
  cases e : r.upd f s with
  | bad => rw [e] at hp; exact hp.elim
  | exn x s1 => exact (R.upd_exn e).elim
  | ok a s1 =>
    rw [e] at hp
    obtain ⟨p, d, d', e1, rc, ef, q⟩ := upd_ok rp h e
    refine ⟨p, d, d', a, e1, rc, ef, fun o' nt ni hc u hu => ?_⟩
    have uo := q o' nt ni hc
    exact hp W _ u (uo.st.bigO hO) uo.rep (hu uo.sy) fun _ z => z.elim
def appU (d : DL.D) : DL.D → Option (DL.D × DL.D)
  | .lst ds => if ds.length < lim then some (.lst (ds ++ [d]), .non) else none
  | _ => none
def appF (ro : R) (ds : List DL.D) : M R := match ds with
  | [d] => updR ro (appU d)
  | _ => M.bad
theorem ms_append : MtS G X rAppend appF := by
  intro W s σ H x vs ro ds O Q rp rr rd hO hp
  unfold appF at hp
  match ds, rd, hp with
  | [d], rd, hp =>
    obtain ⟨y, w, e, h1, h2⟩ := rd.uncons
    have e2 : w = [] := h2
    subst e2 e
    obtain ⟨p, c, c', a, e1, rc, ef, q⟩ := upd_post rp rr hO hp
    subst e1
    unfold appU at ef
    cases c with
    | lst cs =>
      simp only [] at ef
      by_cases cl : cs.length < lim
      · rw [if_pos cl] at ef
        cases ef
        obtain ⟨us, h3, h4⟩ := rc
        exact ⟨p, us, y, rfl, rfl, h3, by rw [← h4.length]; exact lim_lt cl, q (.lst (us ++ [y])) (fun _ z => by cases z) (fun _ _ _ z => by cases z) (fun sy => ⟨us ++ [y], upd_same, (h4.stay sy).append (.cons (h1.stay sy) .nil)⟩) .non fun _ => rfl⟩
      · rw [if_neg cl] at ef; cases ef
    | _ => cases ef
  | [], rd, hp => exact hp.elim
  | _ :: _ :: _, rd, hp => exact hp.elim
def popU : DL.D → Option (DL.D × DL.D)
  | .lst ds => (ds[ds.length - 1]?).map fun d => (.lst ds.dropLast, d)
  | _ => none
def popF (ro : R) (ds : List DL.D) : M R := match ds with
  | [] => updR ro popU
  | _ => M.bad
theorem RepDs.dropLast {ds : List DL.D} {vs : List V} (r : RepDs G W H ds vs) : RepDs G W H ds.dropLast vs.dropLast := by
  rw [List.dropLast_eq_take, List.dropLast_eq_take, r.length]
  exact r.take _
theorem ms_pop : MtS G X rPop popF := by
  intro W s σ H x vs ro ds O Q rp rr rd hO hp
  unfold popF at hp
  cases ds with
  | cons _ _ => exact hp.elim
  | nil =>
    have e2 : vs = [] := rd
    subst e2
    obtain ⟨p, c, c', a, e1, rc, ef, q⟩ := upd_post rp rr hO hp
    subst e1
    unfold popU at ef
    cases c with
    | lst cs =>
      simp only [] at ef
      cases eg : cs[cs.length - 1]? with
      | none => rw [eg] at ef; cases ef
      | some z =>
        rw [eg] at ef
        cases ef
        obtain ⟨us, h3, h4⟩ := rc
        obtain ⟨u, hu, ru⟩ := h4.get eg
        exact ⟨p, us, u, rfl, rfl, h3, by rw [← h4.length]; exact hu, q (.lst us.dropLast) (fun _ z => by cases z) (fun _ _ _ z => by cases z) (fun sy => ⟨us.dropLast, upd_same, (h4.stay sy).dropLast⟩) u fun sy => ru.stay sy⟩
    | _ => cases ef
/-! ### {k: v, ..} -/
def sPairs : List (M R × M R) → M (List (DL.D × DL.D))
  | [] => M.pure []
  | (fk, fv) :: r => fun s => match fk s with
    | .ok rk s1 => (match rk.toD s1 with
      | .ok k s2 => (match fv s2 with
        | .ok rv s3 => (match rv.toD s3 with
          | .ok v s4 => (match sPairs r s4 with
            | .ok ps s5 => .ok ((k, v) :: ps) s5
            | .exn x s5 => .exn x s5
            | .bad => .bad)
          | _ => .bad)
        | .exn x s3 => .exn x s3
        | .bad => .bad)
      | _ => .bad)
    | .exn x s1 => .exn x s1
    | .bad => .bad
/-- an object beside all that is known -/
theorem Rep.sideO {p : Addr} {o o' : HO} (rp : Rep G W s σ H) (hD : H p = some o) (nf : ¬ W.fz p) (nm : p ∉ W.mu) (no : ¬ OwnAt s.env σ p) (nt : ∀ xs, o ≠ .tup xs := by intro _ z; cases z) : Rep G W s σ (upd H p o') := by
  have keep : ∀ q u, H q = some u → q ≠ p → upd H p o' q = some u := fun q u h n => by rw [upd_ne n]; exact h
  have sy : Stay W H W (upd H p o') := ⟨fun _ h => h, fun _ _ h => h, fun q u h c => keep q u h fun z => by
    subst z
    rcases c with c | ⟨ws, c⟩
    · exact nf c
    · rw [hD] at h; cases h; exact nt ws c⟩
  refine ⟨rp.len, fun i d e => ?_, fun i d e => ?_, rp.sep, rp.slen, fun n d a e1 e2 => ?_, rp.nod, fun q f => ?_⟩
  · obtain ⟨v, a, b⟩ := rp.val i d e
    exact ⟨v, a, b.stay sy⟩
  · obtain ⟨q, a, b, c⟩ := rp.own i d e
    exact ⟨q, a, b.stay sy fun o h => keep q o h fun z => no ⟨i, d, e, by rw [← z]; exact a⟩, c⟩
  · obtain ⟨c, f⟩ := rp.sto n d a e1 e2
    exact ⟨c.stay sy fun o h => keep a o h fun z => nm (by rw [← z]; exact List.mem_of_getElem? e2), f⟩
  · have hq : q ≠ p := fun z => nf (by rw [← z]; exact f)
    rw [upd_ne hq]
    exact rp.fzd q f
theorem pairs_ok : ∀ {fs : List (M R × M R)} {W : WD} {s : DS} {H : Hp} {Qp : List (V × V) → Hp → Prop}, Rep G W s σ H → (match sPairs fs s with
    | .ok ps s' => ∀ W' H' us, Step (OwnAt s.env σ) W H (OwnAt s'.env σ) W' H' → Rep G W' s' σ H' → RepDs G W' H' (ps.map (·.1)) (us.map (·.1)) → RepDs G W' H' (ps.map (·.2)) (us.map (·.2)) → Qp us H'
    | .exn x s' => PostX G X (OwnAt s.env σ) W H x s'
    | .bad => False) → tPairs (fs.map fun q => (TR G X q.1, TR G X q.2)) σ H Qp
  | [], W, s, H, Qp, rp, hp => hp W H [] Step.refl rp rfl rfl
  | (fk, fv) :: r, W, s, H, Qp, rp, hp => by
    refine ⟨W, s, rp, ?_⟩
    show PostE G X _ W H σ (fk s) _
    unfold sPairs at hp
    cases e1 : fk s with
    | bad => simp only [e1] at hp
    | exn x s1 => simp only [e1] at hp; exact hp
    | ok rk s1 =>
      simp only [e1] at hp
      intro W1 H1 xv st1 rp1 rrk ok1
      cases e2 : rk.toD s1 with
      | bad => simp only [e2] at hp
      | exn x s2 => exact (R.toD_exn e2).elim
      | ok k s2 =>
        simp only [e2] at hp
        obtain ⟨W2, st2, rp2, rdk, _⟩ := toD_ok (O := fun p => OwnAt s1.env σ p ∨ OwnedBy rk xv p) rp1 rrk e2 (fun p z => .inl z) (fun p z => .inr z)
        have st02 := (st1.subO (O2 := fun p => OwnAt s1.env σ p ∨ OwnedBy rk xv p) fun p z => (by
          rcases z with z | z
          · exact .inr (.inl z)
          · exact (ok1 p z).elim .inl fun y => .inr (.inr y))).trans st2
        refine ⟨W2, s2, rp2, ?_⟩
        show PostE G X _ W2 H1 σ (fv s2) _
        cases e3 : fv s2 with
        | bad => simp only [e3] at hp
        | exn x s3 => simp only [e3] at hp; exact fun W' σ' H' c d a b z => hp W' σ' H' c d (st02.trans a) b z
        | ok rv s3 =>
          simp only [e3] at hp
          intro W3 H3 yv st3 rp3 rrv ov1
          cases e4 : rv.toD s3 with
          | bad => simp only [e4] at hp
          | exn x s4 => exact (R.toD_exn e4).elim
          | ok v s4 =>
            simp only [e4] at hp
            obtain ⟨W4, st4, rp4, rdv, _⟩ := toD_ok (O := fun p => OwnAt s3.env σ p ∨ OwnedBy rv yv p) rp3 rrv e4 (fun p z => .inl z) (fun p z => .inr z)
            have st24 := (st3.subO (O2 := fun p => OwnAt s3.env σ p ∨ OwnedBy rv yv p) fun p z => (by
              rcases z with z | z
              · exact .inr (.inl z)
              · exact (ov1 p z).elim .inl fun y => .inr (.inr y))).trans st4
            refine pairs_ok rp4 ?_
            cases e5 : sPairs r s4 with
            | bad => simp only [e5] at hp
            | exn x s5 => simp only [e5] at hp; exact fun W' σ' H' c d a b z => hp W' σ' H' c d ((st02.trans st24).trans a) b z
            | ok ps s5 =>
              simp only [e5] at hp
              intro W5 H5 us st5 rp5 h1 h2
              have y5 := st5.stay rp4.apart
              exact hp W5 H5 ((xv, yv) :: us) ((st02.trans st24).trans st5) rp5 (.cons ((rdk.stay (st24.stay rp2.apart)).stay y5) h1) (.cons (rdv.stay y5) h2)
def keysD : List DL.D → Option (List Key)
  | [] => some []
  | d :: ds => (keyD d).bind fun k => (keysD ds).map (k :: ·)
def sDisp (fs : List (M R × M R)) : M R := fun s => match sPairs fs s with
  | .ok ps s1 => (match keysD (ps.map (·.1)) with
    | some ks => if ks.length ≤ 15 ∧ ks.Nodup then .ok (.own (.dic ks (ps.map (·.2)))) s1 else .bad
    | none => .bad)
  | .exn x s1 => .exn x s1
  | .bad => .bad
theorem putK_new {k : Key} {v : V} {acc : List (Key × V)} (h : k ∉ acc.map (·.1)) : putK acc k v = acc ++ [(k, v)] := by
  unfold putK
  rw [if_neg]
  intro z
  rw [List.any_eq_true] at z
  obtain ⟨q, hq, e⟩ := z
  exact h (by rw [← of_decide_eq_true e]; exact List.mem_map_of_mem hq)
theorem merge_new : ∀ {more acc : List (Key × V)}, ((acc ++ more).map (·.1)).Nodup → mergeK acc more = acc ++ more
  | [], acc, _ => by unfold mergeK; simp
  | p :: more, acc, h => by
    have h1 : p.1 ∉ acc.map (·.1) := fun z => by
      rw [List.map_append, List.map_cons] at h
      have := (List.nodup_append.mp h).2.2 _ z p.1 (by simp)
      exact this rfl
    have e : mergeK acc (p :: more) = mergeK (putK acc p.1 p.2) more := rfl
    rw [e, putK_new h1, merge_new (by rw [List.append_assoc]; exact h), List.append_assoc]
    rfl
theorem keysD_rep : ∀ {ds : List DL.D} {vs : List V} {ks : List Key}, keysD ds = some ks → RepDs G W H ds vs → vs = ks.map kV
  | [], vs, ks, e, r => by cases e; exact r
  | d :: ds, vs, ks, e, r => by
    obtain ⟨v, w, e1, h1, h2⟩ := r.uncons
    unfold keysD at e
    cases ek : keyD d with
    | none => rw [ek] at e; cases e
    | some k =>
      rw [ek] at e
      have e : (keysD ds).map (k :: ·) = some ks := e
      cases e2 : keysD ds with
      | none => rw [e2] at e; cases e
      | some ks2 =>
        rw [e2] at e
        cases e
        rw [e1, List.map_cons, keysD_rep e2 h2, keyD_rep ek (.inl h1)]
theorem pair_up : ∀ {ks : List Key} {us : List (V × V)}, us.map (·.1) = ks.map kV → ∃ kvs : List (Key × V), us = kvs.map (fun kv => (kV kv.1, kv.2)) ∧ kvs.map (·.1) = ks ∧ kvs.map (·.2) = us.map (·.2)
  | [], us, h => by
    cases us with
    | nil => exact ⟨[], rfl, rfl, rfl⟩
    | cons a b => cases h
  | k :: ks, us, h => by
    cases us with
    | nil => cases h
    | cons a b =>
      rw [List.map_cons, List.map_cons] at h
      injection h with h1 h2
      obtain ⟨kvs, e1, e2, e3⟩ := pair_up h2
      exact ⟨(k, a.2) :: kvs, by rw [List.map_cons, ← e1, ← h1], by rw [List.map_cons, e2], by rw [List.map_cons, List.map_cons, e3]⟩
theorem j_disp {keys : List (Option Expr)} {values : List Expr} {fs : List (M R × M R)} (h : PPs Xc pos keys values (fs.map fun q => (TR G X q.1, TR G X q.2))) (hall : keys.all (·.isSome) = true) (hl : keys.length = values.length) (h0 : keys ≠ []) (h15 : keys.length ≤ 15) : PE Xc (.Dict keys values pos) (TR G X (sDisp fs)) := by
  refine (pe_disp h hall hl h0 h15).imp fun σ H Q ⟨W, s, rp, hp⟩ p hn => ?_
  have gr : Grow H (upd H p (.dK [])) := Grow.new hn
  have nn := rp.newNot hn
  refine pairs_ok (rp.grow gr) ?_
  unfold sDisp at hp
  cases e1 : sPairs fs s with
  | bad => rw [e1] at hp; exact hp
  | exn x s1 => rw [e1] at hp; exact fun W' σ' H' c d a b z => hp W' σ' H' c d ((gr.step fun p z => .inl z).trans a) b z
  | ok ps s1 =>
    simp only [e1] at hp
    intro W1 H1 us st rp1 r1 r2
    cases e2 : keysD (ps.map (·.1)) with
    | none => simp only [e2] at hp; exact hp.elim
    | some ks =>
      simp only [e2] at hp
      by_cases c : ks.length ≤ 15 ∧ ks.Nodup
      · rw [if_pos c] at hp
        obtain ⟨kvs, z1, z2, z3⟩ := pair_up (keysD_rep e2 r1)
        obtain ⟨k1, k2, k3, k4⟩ := st.side (upd_same (a := p)) nn.1 nn.2.1 nn.2.2
        refine ⟨k1, kvs, z1, by rw [← z2, List.length_map] at c; exact c.1, ?_⟩
        have em : mergeK [] kvs = kvs := by rw [merge_new (by rw [List.nil_append, z2]; exact c.2), List.nil_append]
        rw [em]
        have q1 : Stay W1 H1 W1 (upd H1 p (.dK kvs)) := ⟨fun _ h => h, fun _ _ h => h, fun q o h c => by
          have hq : q ≠ p := fun z => by
            subst z
            rcases c with c | ⟨ws, c⟩
            · exact k2 c
            · rw [k1] at h; cases h; cases c
          rw [upd_ne hq]; exact h⟩
        have st0 : Step (OwnAt s.env σ) W H (OwnAt s1.env σ) W1 (upd H1 p (.dK kvs)) := ((gr.step fun p z => .inl z).trans st).new hn
        have rp2 : Rep G W1 s1 σ (upd H1 p (.dK kvs)) := rp1.sideO k1 k2 k3 k4
        refine hp W1 _ (.ref p) st0 rp2 ⟨p, rfl, ⟨kvs, upd_same, z2, ?_⟩, k2, k3, k4, fun _ _ _ z => by cases z⟩ fun q z => ?_
        · rw [z3]; exact r2.stay q1
        · have z' : V.ref p = V.ref q := z
          cases z'; exact .inr hn
      · rw [if_neg c] at hp; exact hp.elim
theorem j_pnil : PPs Xc pos [] [] (([] : List (M R × M R)).map fun q => (TR G X q.1, TR G X q.2)) := pps_nil
theorem j_pcons {k v : Expr} {ks : List (Option Expr)} {vs : List Expr} {fk fv : M R} {fs : List (M R × M R)} (hk : PE Xc k (TR G X fk)) (hv : PE Xc v (TR G X fv)) (hr : PPs Xc pos ks vs (fs.map fun q => (TR G X q.1, TR G X q.2))) :
    PPs Xc pos (some k :: ks) (v :: vs) (((fk, fv) :: fs).map fun q => (TR G X q.1, TR G X q.2)) := pps_cons hk hv hr
def sDic0 : M R := M.pure (.own (.dic [] []))
theorem j_dic0 : PE Xc (.Dict [] [] pos) (TR G X sDic0) := pe_dnewK.imp fun σ H Q ⟨W, s, rp, hp⟩ => PostE.dic hp rp (fun _ z => z) rfl rfl
end
end DL

/-! a, b = x, y; a, b, c = x, y, z; cells. -/
namespace DL
open PySem L2 PyProof.Rows
section
variable {G : GD} {X : WX} {Xc : Cx} {N : List Str} {nm : List (Str × NameKind)} {pos : Pos} {σ σ1 : L2.St} {H H1 : Hp} {W W1 : WD} {s s1 : DS} {O O1 : Addr → Prop} {Q : VK}
/-- a value, or a new object; what a slot holds is a value from now on -/
def R.keep (r : R) : M R := fun s => match r with
  | .val d => .ok (.val d) s
  | .own d => .ok (.own d) s
  | .slot i => (match (R.slot i).toD s with
    | .ok d s1 => .ok (.val d) s1
    | .exn x s1 => .exn x s1
    | .bad => .bad)
theorem keep_ok {r r' : R} {v : V} (rp : Rep G W s σ H) (h : RepR G W s σ H r v) (o : ∀ p, OwnedBy r v p → OwnAt s.env σ p ∨ O p) (e : r.keep s = .ok r' s1) :
    ∃ W1, Step (OwnAt s.env σ) W H (OwnAt s1.env σ) W1 H ∧ Rep G W1 s1 σ H ∧ RepR G W1 s1 σ H r' v ∧ (∀ p, OwnedBy r' v p → OwnedBy r v p) ∧ (∀ i, r' ≠ .slot i) := by
  cases r with
  | val d => cases e; exact ⟨W, Step.refl, rp, h, fun _ z => z, fun _ z => by cases z⟩
  | own d => cases e; exact ⟨W, Step.refl, rp, h, fun _ z => z, fun _ z => by cases z⟩
  | slot i =>
    unfold R.keep at e
    simp only [] at e
    cases e1 : (R.slot i).toD s with
    | bad => rw [e1] at e; cases e
    | exn x s2 => exact (R.toD_exn e1).elim
    | ok d s2 =>
      rw [e1] at e
      cases e
      obtain ⟨W1, st, rp1, rd, _⟩ := toD_ok (O := OwnAt s.env σ) rp h e1 (fun _ z => z) (fun _ z => z.elim)
      exact ⟨W1, st, rp1, rd, fun _ z => z.elim, fun _ z => by cases z⟩
theorem R.keep_exn {r : R} {x : DL.D} (e : r.keep s = .exn x s1) : False := by
  cases r with
  | val d => cases e
  | own d => cases e
  | slot i =>
    unfold R.keep at e
    simp only [] at e
    cases e1 : (R.slot i).toD s with
    | bad => rw [e1] at e; cases e
    | exn x s2 => exact R.toD_exn e1
    | ok d s2 => rw [e1] at e; cases e
/-! ### argument lists whose new objects stay new -/
inductive RepRs (G : GD) (W : WD) (s : DS) (σ : L2.St) (H : Hp) : List R → List V → Prop where
  | nil : RepRs G W s σ H [] []
  | cons {r : R} {v : V} {rs : List R} {vs : List V} (h : RepR G W s σ H r v) (n : ∀ i, r ≠ .slot i) (t : RepRs G W s σ H rs vs) (ap : ∀ p, OwnedBy r v p → ∀ (i : Nat) r' u, rs[i]? = some r' → vs[i]? = some u → ¬ OwnedBy r' u p) : RepRs G W s σ H (r :: rs) (v :: vs)
def TK (G : GD) (X : WX) (f : M (List R)) : TA := fun σ H Q => ∃ W s, Rep G W s σ H ∧ (match f s with
  | .ok rs s' => ∀ W' H' vs, Step (OwnAt s.env σ) W H (OwnAt s'.env σ) W' H' → Rep G W' s' σ H' → RepRs G W' s' σ H' rs vs → (∀ p (i : Nat) r v, rs[i]? = some r → vs[i]? = some v → OwnedBy r v p → OwnAt s.env σ p ∨ H p = none) → Q vs H'
  | .exn x s' => PostX G X (OwnAt s.env σ) W H x s'
  | .bad => False)
def kNil : M (List R) := M.pure []
def kCons (fa : M R) (fs : M (List R)) : M (List R) := fun s => match fa s with
  | .ok r s1 => (match r.keep s1 with
    | .ok r1 s2 => (match fs s2 with
      | .ok rs s3 => .ok (r1 :: rs) s3
      | .exn x s3 => .exn x s3
      | .bad => .bad)
    | .exn x s2 => .exn x s2
    | .bad => .bad)
  | .exn x s1 => .exn x s1
  | .bad => .bad
theorem j_kn : PA Xc [] (TK G X kNil) := by
  refine ⟨fun pos pins s σ H Q I h => pa_nil.run pos pins s σ H Q I ?_⟩
  obtain ⟨W, t, rp, hp⟩ := h
  exact hp W H [] Step.refl rp .nil fun p i r v z => by simp at z
theorem j_kc {e : Expr} {es : List Expr} {fa : M R} {fs : M (List R)} (ha : PE Xc e (TR G X fa)) (hr : PA Xc es (TK G X fs)) (hs : starEach (e :: es) Xc.env = (false, eval e Xc.env) :: starEach es Xc.env := by rfl) : PA Xc (e :: es) (TK G X (kCons fa fs)) := by
  refine ⟨fun pos pins s σ H Q I h => (pa_cons ha hr hs).run pos pins s σ H Q I ?_⟩
  obtain ⟨W, t, rp, hp⟩ := h
  unfold kCons at hp
  refine ⟨W, t, rp, ?_⟩
  cases e1 : fa t with
  | bad => rw [e1] at hp; exact hp.elim
  | exn x t1 => rw [e1] at hp; exact hp
  | ok r t1 =>
    simp only [e1] at hp
    intro W1 H1 v st1 rp1 r1 o1
    cases e2 : r.keep t1 with
    | bad => simp only [e2] at hp
    | exn x t2 => exact (R.keep_exn e2).elim
    | ok r2 t2 =>
      simp only [e2] at hp
      obtain ⟨W2, st2, rp2, rr2, ow2, ns⟩ := keep_ok (O := fun p => OwnAt t.env σ p ∨ H p = none) rp1 r1 (fun p z => .inr (o1 p z)) e2
      have st12 := st1.trans st2
      refine ⟨W2, t2, rp2, ?_⟩
      cases e3 : fs t2 with
      | bad => simp only [e3] at hp
      | exn x t3 =>
        simp only [e3] at hp
        exact fun W' σ' H' c d' a b z => hp W' σ' H' c d' (st12.trans a) b z
      | ok rs t3 =>
        simp only [e3] at hp
        intro W3 H3 vs st3 rp3 rds ow3
        refine hp W3 H3 (v :: vs) (st12.trans st3) rp3 (.cons (rr2.step rp2 st3 rp3) ns rds fun p z i r' u h1 h2 z2 => ?_) fun p i r v h1 h2 z => ?_
        · cases r2 with
          | own d =>
            obtain ⟨q, eq, c, _, _, no, _⟩ := rr2
            have ep : v = .ref p := z
            rw [eq] at ep; cases ep
            obtain ⟨o, ho, _, _⟩ := c.some
            rcases ow3 p i r' u h1 h2 z2 with y | y
            · exact no y
            · rw [ho] at y; cases y
          | _ => exact z
        · cases i with
          | zero =>
            rw [List.getElem?_cons_zero] at h1 h2
            cases h1; cases h2
            exact o1 p (ow2 p z)
          | succ i =>
            rw [List.getElem?_cons_succ] at h1 h2
            rcases ow3 p i r v h1 h2 z with y | y
            · exact st12.nown p y
            · exact .inr (st12.dom p y)
/-- stored from the left -/
def putAll : List R → List Nat → M Unit
  | [], [] => M.pure ()
  | r :: rs, i :: is => fun s => match r.put i s with
    | .ok _ s1 => putAll rs is s1
    | .exn x s1 => .exn x s1
    | .bad => .bad
  | _, _ => M.bad
def setAll (σ : L2.St) : List V → List Nat → L2.St
  | v :: vs, i :: is => setAll (σ.set i (some v)) vs is
  | _, _ => σ
theorem putAll_exn : ∀ {rs : List R} {is : List Nat} {s : DS} {x : DL.D}, putAll rs is s = .exn x s1 → False
  | [], [], s, x, e => by cases e
  | r :: rs, i :: is, s, x, e => by
    unfold putAll at e
    cases e1 : r.put i s with
    | bad => rw [e1] at e; cases e
    | exn x s2 => exact R.put_exn e1
    | ok u s2 => rw [e1] at e; exact putAll_exn e
  | [], _ :: _, s, x, e => by cases e
  | _ :: _, [], s, x, e => by cases e
theorem RepRs.put {r0 : R} {v0 : V} {i : Nat} {d : DL.Slot} {W' : WD} {s' : DS} (rp : Rep G W s σ H) (rp' : Rep G W' s' (σ.set i (some v0)) H) (st : Step O W H (OwnAt s'.env (σ.set i (some v0))) W' H) (hO : ∀ p, O p → OwnAt s.env σ p ∨ OwnedBy r0 v0 p) : ∀ {rs : List R} {vs : List V}, RepRs G W s σ H rs vs →
    (∀ p, OwnedBy r0 v0 p → ∀ (i : Nat) r' u, rs[i]? = some r' → vs[i]? = some u → ¬ OwnedBy r' u p) → RepRs G W' s' (σ.set i (some v0)) H rs vs
  | [], [], _, _ => .nil
  | [], _ :: _, h, _ => by cases h
  | _ :: _, [], h, _ => by cases h
  | r :: rs, v :: vs, .cons h n t ap, z => by
    refine .cons ?_ n (RepRs.put (d := d) rp rp' st hO t fun p y i r' u h1 h2 => z p y (i + 1) r' u (by rw [List.getElem?_cons_succ]; exact h1) (by rw [List.getElem?_cons_succ]; exact h2)) ap
    cases r with
    | slot j => exact absurd rfl (n j)
    | val x =>
      have sy : Stay W H W' H := ⟨st.fz, st.mu, fun _ _ h _ => h⟩
      exact RepD.stay sy h
    | own x =>
      obtain ⟨p, e, c, nf, nm, no, ni⟩ := h
      have sy : Stay W H W' H := ⟨st.fz, st.mu, fun _ _ h _ => h⟩
      obtain ⟨o, ho, _, _⟩ := c.some
      have hn : H p ≠ none := by rw [ho]; exact fun z => by cases z
      have nO : ¬ O p := fun y => (hO p y).elim no fun y => z p y 0 (.own x) v rfl rfl e
      refine ⟨p, e, c.stay sy fun _ h => h, fun y => ?_, fun y => ?_, fun y => ?_, ni⟩
      · rcases st.nfz p y with q | q | q
        · exact nf q
        · exact hn q
        · exact nO q
      · rcases st.nmu p y with q | q | q
        · exact nm q
        · exact hn q
        · exact nO q
      · rcases st.nown p y with q | q
        · exact nO q
        · exact hn q
theorem putAll_ok : ∀ {rs : List R} {is : List Nat} {vs : List V} {W : WD} {s : DS} {σ : L2.St} {u : Unit} {O : Addr → Prop}, Rep G W s σ H → RepRs G W s σ H rs vs → putAll rs is s = .ok u s1 → (∀ p, OwnAt s.env σ p → O p) → (∀ p (i : Nat) r v, rs[i]? = some r → vs[i]? = some v → OwnedBy r v p → O p) →
    ∃ W1, Step O W H (OwnAt s1.env (setAll σ vs is)) W1 H ∧ Rep G W1 s1 (setAll σ vs is) H
  | [], [], vs, W, s, σ, u, O, rp, h, e, hO, hB => by
    cases h
    cases e
    exact ⟨W, Step.refl.subO fun p z => .inl (hO p z), rp⟩
  | [], _ :: _, vs, W, s, σ, u, O, rp, h, e, hO, hB => by cases e
  | _ :: _, [], vs, W, s, σ, u, O, rp, h, e, hO, hB => by cases e
  | r :: rs, i :: is, vs, W, s, σ, u, O, rp, h, e, hO, hB => by
    cases h with
    | @cons r0 v rs0 vs h n t ap =>
      unfold putAll at e
      cases e1 : r.put i s with
      | bad => rw [e1] at e; cases e
      | exn x s2 => exact (R.put_exn e1).elim
      | ok u2 s2 =>
        rw [e1] at e
        obtain ⟨W2, st2, rp2⟩ := put_ok (O := fun p => OwnAt s.env σ p ∨ OwnedBy r v p) rp h e1 (fun p z => .inl z) (fun p z => .inr z)
        have t2 := RepRs.put (d := .un) rp rp2 st2 (fun p z => z) t ap
        have st2' : Step O W H (OwnAt s2.env (σ.set i (some v))) W2 H := st2.bigO fun p z => z.elim (hO p) fun y => hB p 0 r v rfl rfl y
        obtain ⟨W3, st3, rp3⟩ := putAll_ok (O := fun p => O p ∨ OwnAt s2.env (σ.set i (some v)) p) rp2 t2 e (fun p z => .inr z) fun p j r' v' h1 h2 z => .inl (hB p (j + 1) r' v' (by rw [List.getElem?_cons_succ]; exact h1) (by rw [List.getElem?_cons_succ]; exact h2) z)
        refine ⟨W3, ?_, rp3⟩
        exact (st2'.subO (O2 := fun p => O p ∨ OwnAt s2.env (σ.set i (some v)) p) fun p z => (by
          rcases z with z | z
          · exact .inl z
          · exact .inr (.inl z))).trans st3
def sPar (is : List Nat) (fs : M (List R)) : M Ctl := fun s => match fs s with
  | .ok rs s1 => if rs.length = is.length then (match putAll rs is s1 with
    | .ok _ s2 => .ok .nx s2
    | _ => .bad) else .bad
  | .exn x s1 => .exn x s1
  | .bad => .bad
theorem RepRs.length {rs : List R} {vs : List V} (h : RepRs G W s σ H rs vs) : rs.length = vs.length := by
  induction h with
  | nil => rfl
  | cons _ _ _ _ ih => rw [List.length_cons, List.length_cons, ih]
theorem TSt.par {is : List Nat} {fs : M (List R)} {En : Ends} (h : TSt G X (sPar is fs) En σ H) : TK G X fs σ H fun vs H1 => vs.length = is.length ∧ En.nx (setAll σ vs is) H1 := by
  obtain ⟨W, s, rp, hp⟩ := h
  unfold sPar at hp
  refine ⟨W, s, rp, ?_⟩
  cases e1 : fs s with
  | bad => rw [e1] at hp; exact hp
  | exn x s1 => rw [e1] at hp; exact hp
  | ok rs s1 =>
    simp only [e1] at hp
    intro W1 H1 vs st rp1 rr ow
    by_cases c : rs.length = is.length
    · rw [if_pos c] at hp
      refine ⟨by rw [← rr.length]; exact c, ?_⟩
      cases e2 : putAll rs is s1 with
      | bad => rw [e2] at hp; exact hp.elim
      | exn x s2 => exact (putAll_exn e2).elim
      | ok u s2 =>
        rw [e2] at hp
        obtain ⟨W2, st2, rp2⟩ := putAll_ok (O := fun p => OwnAt s1.env σ p ∨ OwnAt s.env σ p ∨ H p = none) rp1 rr e2 (fun p z => .inl z) fun p i r v h1 h2 z => .inr (ow p i r v h1 h2 z)
        exact hp W2 _ H1 ((st.subO (O2 := fun p => OwnAt s1.env σ p ∨ OwnAt s.env σ p ∨ H p = none) fun p z => (by
          rcases z with z | z | z
          · exact .inr (.inl z)
          · exact .inl z
          · exact .inr (.inr z))).trans st2) rp2
    · rw [if_neg c] at hp; exact hp.elim
/-! ### the rules -/
def isStar : Expr → Bool
  | .Starred .. => true
  | _ => false
theorem sw2 {x y : Str} {px py pt pt2 : Pos} {a b : Expr} {kt k2} (F : Fm Xc G X N nm) (hx : nm.lookup x = some .local) (hy : nm.lookup y = some .local) (hl : (py.line == px.line) = true) (hne : ([x, y] : List Str).eraseDups.length = 2)
    (h1 : ([a, b] : List Expr).any isStar = false) (h2 : ([a, b] : List Expr).all (foldedForSure 8) = false) (h3 : ([a, b] : List Expr).all (constantsAlone 8) = false) :
    swappedStores [.Tuple [.Name x px, .Name y py] kt pt] (.Tuple [a, b] k2 pt2) Xc.env = pure (some [x, y]) := by
  have kx : Xc.env.kindOf x = some .local := by show Xc.env.scope.names.lookup x = _; rw [F.eS]; exact hx
  have ky : Xc.env.kindOf y = some .local := by show Xc.env.scope.names.lookup y = _; rw [F.eS]; exact hy
  have kb : Xc.env.blockKind = .function := by unfold Env.blockKind; rw [F.eF]; rfl
  have hp : (px.line == px.line) = true := beq_self_eq_true _
  unfold swappedStores
  simp only [kb, h2, h3, kx, ky, Expr.pos, hl, hp, List.filterMap_cons, List.filterMap_nil, List.head?_cons, Option.map_some, Option.getD_some, Bool.and_true, beq_self_eq_true, if_true, hne, List.length_cons, List.length_nil]
  refine (if_neg (by decide)).trans ((if_neg fun q => ?_).trans ((if_neg (by decide)).trans ((if_neg (by decide)).trans ((if_neg (by decide)).trans rfl))))
  exact Bool.false_ne_true (h1.symm.trans q)
theorem swc1 {x y : Str} {px py pt pt2 : Pos} {a b : Expr} {kt k2} (F : Fm Xc G X N nm) (hx : nm.lookup x = some .cell) (hy : nm.lookup y = some .local) (h1 : ([a, b] : List Expr).any isStar = false) :
    swappedStores [.Tuple [.Name x px, .Name y py] kt pt] (.Tuple [a, b] k2 pt2) Xc.env = pure none := by
  have kx : Xc.env.kindOf x = some .cell := by show Xc.env.scope.names.lookup x = _; rw [F.eS]; exact hx
  have ky : Xc.env.kindOf y = some .local := by show Xc.env.scope.names.lookup y = _; rw [F.eS]; exact hy
  have kb : Xc.env.blockKind = .function := by unfold Env.blockKind; rw [F.eF]; rfl
  have hp : (px.line == px.line) = true := beq_self_eq_true _
  unfold swappedStores
  simp only [kb, kx, ky, Expr.pos, hp, List.filterMap_cons, List.filterMap_nil, List.head?_cons, Option.map_some, Option.getD_some, Bool.and_true, beq_self_eq_true, if_true, List.length_cons, List.length_nil]
  have kc : (some NameKind.cell == some NameKind.local) = false := by decide
  simp only [kc, Bool.false_and, Bool.false_eq_true, if_false]
  refine (if_neg (by decide)).trans ((if_neg fun q => ?_).trans ?_)
  · exact Bool.false_ne_true (h1.symm.trans q)
  · first
    | rfl
    | (by_cases c : (py.line == px.line) = true
       · simp only [c]; rfl
       · have c' := Bool.not_eq_true _ ▸ c
         simp only [c']; rfl)
theorem swc2 {x y : Str} {px py pt pt2 : Pos} {a b : Expr} {kt k2} (F : Fm Xc G X N nm) (hx : nm.lookup x = some .local) (hy : nm.lookup y = some .cell) (h1 : ([a, b] : List Expr).any isStar = false) :
    swappedStores [.Tuple [.Name x px, .Name y py] kt pt] (.Tuple [a, b] k2 pt2) Xc.env = pure none := by
  have kx : Xc.env.kindOf x = some .local := by show Xc.env.scope.names.lookup x = _; rw [F.eS]; exact hx
  have ky : Xc.env.kindOf y = some .cell := by show Xc.env.scope.names.lookup y = _; rw [F.eS]; exact hy
  have kb : Xc.env.blockKind = .function := by unfold Env.blockKind; rw [F.eF]; rfl
  have hp : (px.line == px.line) = true := beq_self_eq_true _
  unfold swappedStores
  simp only [kb, kx, ky, Expr.pos, hp, List.filterMap_cons, List.filterMap_nil, List.head?_cons, Option.map_some, Option.getD_some, Bool.and_true, beq_self_eq_true, if_true, List.length_cons, List.length_nil]
  have kc : (some NameKind.cell == some NameKind.local) = false := by decide
  simp only [kc, Bool.false_and, Bool.false_eq_true, if_false]
  refine (if_neg (by decide)).trans ((if_neg fun q => ?_).trans ?_)
  · exact Bool.false_ne_true (h1.symm.trans q)
  · first
    | rfl
    | (by_cases c : (py.line == px.line) = true
       · simp only [c]; rfl
       · have c' := Bool.not_eq_true _ ▸ c
         simp only [c']; rfl)
theorem swc3 {x y : Str} {px py pt pt2 : Pos} {a b : Expr} {kt k2} (F : Fm Xc G X N nm) (hx : nm.lookup x = some .cell) (hy : nm.lookup y = some .cell) (h1 : ([a, b] : List Expr).any isStar = false) :
    swappedStores [.Tuple [.Name x px, .Name y py] kt pt] (.Tuple [a, b] k2 pt2) Xc.env = pure none := by
  have kx : Xc.env.kindOf x = some .cell := by show Xc.env.scope.names.lookup x = _; rw [F.eS]; exact hx
  have ky : Xc.env.kindOf y = some .cell := by show Xc.env.scope.names.lookup y = _; rw [F.eS]; exact hy
  have kb : Xc.env.blockKind = .function := by unfold Env.blockKind; rw [F.eF]; rfl
  have hp : (px.line == px.line) = true := beq_self_eq_true _
  unfold swappedStores
  simp only [kb, kx, ky, Expr.pos, hp, List.filterMap_cons, List.filterMap_nil, List.head?_cons, Option.map_some, Option.getD_some, Bool.and_true, beq_self_eq_true, if_true, List.length_cons, List.length_nil]
  have kc : (some NameKind.cell == some NameKind.local) = false := by decide
  simp only [kc, Bool.false_and, Bool.false_eq_true, if_false]
  refine (if_neg (by decide)).trans ((if_neg fun q => ?_).trans ?_)
  · exact Bool.false_ne_true (h1.symm.trans q)
  · first
    | rfl
    | (by_cases c : (py.line == px.line) = true
       · simp only [c]; rfl
       · have c' := Bool.not_eq_true _ ▸ c
         simp only [c']; rfl)
theorem sw3 {x y z : Str} {px py pz pt pt2 : Pos} {a b c : Expr} {kt k2} (F : Fm Xc G X N nm) (hx : nm.lookup x = some .local) (hy : nm.lookup y = some .local) (hz : nm.lookup z = some .local) (hl : (py.line == px.line) = true) (hl2 : (pz.line == px.line) = true) (hne : ([x, y, z] : List Str).eraseDups.length = 3)
    (h1 : ([a, b, c] : List Expr).any isStar = false) (h2 : ([a, b, c] : List Expr).all (foldedForSure 8) = false) (h3 : ([a, b, c] : List Expr).all (constantsAlone 8) = false) :
    swappedStores [.Tuple [.Name x px, .Name y py, .Name z pz] kt pt] (.Tuple [a, b, c] k2 pt2) Xc.env = pure (some [x, y, z]) := by
  have kx : Xc.env.kindOf x = some .local := by show Xc.env.scope.names.lookup x = _; rw [F.eS]; exact hx
  have ky : Xc.env.kindOf y = some .local := by show Xc.env.scope.names.lookup y = _; rw [F.eS]; exact hy
  have kz : Xc.env.kindOf z = some .local := by show Xc.env.scope.names.lookup z = _; rw [F.eS]; exact hz
  have kb : Xc.env.blockKind = .function := by unfold Env.blockKind; rw [F.eF]; rfl
  have hp : (px.line == px.line) = true := beq_self_eq_true _
  unfold swappedStores
  simp only [kb, h2, h3, kx, ky, kz, Expr.pos, hl, hl2, hp, List.filterMap_cons, List.filterMap_nil, List.head?_cons, Option.map_some, Option.getD_some, Bool.and_true, beq_self_eq_true, if_true, hne, List.length_cons, List.length_nil]
  refine (if_neg (by decide)).trans ((if_neg fun q => ?_).trans ((if_neg (by decide)).trans ((if_neg (by decide)).trans ((if_neg (by decide)).trans rfl))))
  exact Bool.false_ne_true (h1.symm.trans q)
theorem j_par2 {i j : Nat} {x y : Str} {px py pt pt2 : Pos} {a b : Expr} {kt k2} {fs : M (List R)} (F : Fm Xc G X N nm) (hi : N[i]? = some x) (hj : N[j]? = some y) (hij : i ≠ j) (hx : nm.lookup x = some .local) (hy : nm.lookup y = some .local) (hl : (py.line == px.line) = true) (hne : ([x, y] : List Str).eraseDups.length = 2)
    (h1 : ([a, b] : List Expr).any isStar = false) (h2 : ([a, b] : List Expr).all (foldedForSure 8) = false) (h3 : ([a, b] : List Expr).all (constantsAlone 8) = false) (ha : PA Xc [a, b] (TK G X fs))
    (hs : swapsWithSole [.Tuple [.Name x px, .Name y py] kt pt] (.Tuple [a, b] k2 pt2) pos.line Xc.env = pure false := by rfl) :
    PS Xc (.Assign [.Tuple [.Name x px, .Name y py] kt pt] (.Tuple [a, b] k2 pt2) pos) (TSt G X (sPar [i, j] fs)) := by
  refine (ps_par (i := i) (j := j) F.calm (by rw [F.eN]; exact F.nd) (by rw [F.eN]; exact hi) (by rw [F.eN]; exact hj) hij (by rw [F.eS]; exact hx) (by rw [F.eS]; exact hy) ha (sw2 F hx hy hl hne h1 h2 h3) hs).imp fun En σ H h => ?_
  obtain ⟨W, s, rp, hp⟩ := h.par
  refine ⟨W, s, rp, ?_⟩
  cases e : fs s with
  | bad => rw [e] at hp; exact hp
  | exn x t => rw [e] at hp; exact hp
  | ok rs t =>
    rw [e] at hp
    intro W1 H1 vs st rp1 rr ow
    obtain ⟨hl, q⟩ := hp W1 H1 vs st rp1 rr ow
    match vs, hl, q with
    | [v, w], _, q => exact ⟨v, w, rfl, q⟩
/-- three names -/
def tPar3 (i j k : Nat) (ta : TA) : TS := fun D σ H => ta σ H fun vs H1 => ∃ u v w, vs = [u, v, w] ∧ D.nx (((σ.set i (some u)).set j (some v)).set k (some w)) H1
theorem vals3 {a b c : V} {us : List Value} (r : Vals [a, b, c] us) : ∃ u v w, us = [u, v, w] ∧ RelV a u ∧ RelV b v ∧ RelV c w := by
  cases r with
  | cons p q => cases q with
    | cons p2 q2 => cases q2 with
      | cons p3 q3 => cases q3; exact ⟨_, _, _, rfl, p, p2, p3⟩
theorem ps_par3 {i j k : Nat} {x y z : Str} {a b c : Expr} {ta : TA} {px py pz pt : Pos} {kt k2 pt2} (hc : Xc.calm = true) (hN : Xc.N.Nodup) (hi : Xc.N[i]? = some x) (hj : Xc.N[j]? = some y) (hk : Xc.N[k]? = some z) (hij : i ≠ j) (hik : i ≠ k) (hjk : j ≠ k)
    (hx : Xc.env.scope.names.lookup x = some .local) (hy : Xc.env.scope.names.lookup y = some .local) (hz : Xc.env.scope.names.lookup z = some .local) (ha : PA Xc [a, b, c] ta)
    (hw : swappedStores [.Tuple [.Name x px, .Name y py, .Name z pz] kt pt] (.Tuple [a, b, c] k2 pt2) Xc.env = pure (some [x, y, z]))
    (hs : swapsWithSole [.Tuple [.Name x px, .Name y py, .Name z pz] kt pt] (.Tuple [a, b, c] k2 pt2) pos.line Xc.env = pure false := by rfl) :
    PS Xc (.Assign [.Tuple [.Name x px, .Name y py, .Name z pz] kt pt] (.Tuple [a, b, c] k2 pt2) pos) (tPar3 i j k ta) := by
  refine ⟨fun pins s σ H D I h => ?_⟩
  rw [exec_Assign_arm]
  refine wpAny_bind (wpAny_standAt ?_)
  rw [hs]
  refine wpAny_bind (wpAny_pure ?_)
  rw [if_neg (by decide)]
  refine wpAny_bind (Tuple_ (thn (ha.run _ pins s σ H _ I h) ?_))
  rintro us s1 ⟨vs, H1, I1, r1, u, v, w, rfl, q1⟩
  obtain ⟨u1, u2, u3, rfl, ru, rv, rw'⟩ := vals3 r1
  refine wpAny_newObj_type ?_ (by show 3 ≤ sizeLine; decide)
  have J : Inv Xc pins σ H1 { s1 with heap := s1.heap.push { cls := .type "tuple", data := .seq [u1, u2, u3].toArray } } := I1.kept (t' := s1.toks) fun b o e => Heap.get?_push_of_some _ e
  rw [hw]
  refine wpAny_bind (wpAny_pure ?_)
  show wpAny (model Xc.prog Xc.w) Xc.A (do rule "assign.swapped-stores"; let items ← unpackItems (.ref s1.heap.objs.size) 3 none; assignInOrder [fun v => bindName Xc.env z v, fun v => bindName Xc.env y v, fun v => bindName Xc.env x v] items.reverse; pure Flow.next) _ _ _
  refine wpAny_bind (wpAny_rule (wpAny_bind (unpackItems_tuple (items := #[u1, u2, u3]) (I.ok.hd hc) (IsTup.new s1.heap _) fun h' hx' => ?_)))
  have J2 := J.kept (h' := h') (t' := s1.toks) fun b o e => hx' b o (Nat.ne_of_lt (Heap.lt_size e)) e
  show wpAny _ _ (assignInOrder [fun v => bindName Xc.env z v, fun v => bindName Xc.env y v, fun v => bindName Xc.env x v] [u3, u2, u1] >>= fun _ => pure Flow.next) _ _ _
  refine wpAny_bind (assignInOrder_cons (wpAny_bindName (store_ok J2 hN hk (.inl hz) rw' (fun s2 J3 => ?_) (.inr hz))))
  refine assignInOrder_cons (wpAny_bindName (store_ok J3 hN hj (.inl hy) rv (fun s3 J4 => ?_) (.inr hy)))
  refine assignInOrder_cons (wpAny_bindName (store_ok J4 hN hi (.inl hx) ru (fun s4 J5 => assignInOrder_nil (wpAny_pure ?_)) (.inr hx)))
  refine ⟨_, H1, ?_, q1⟩
  have e : ((σ.set k (some w)).set j (some v)).set i (some u) = ((σ.set i (some u)).set j (some v)).set k (some w) := by
    rw [List.set_comm (l := σ) (some w) (some v) hjk.symm, List.set_comm (l := σ.set j (some v)) (some w) (some u) hik.symm, List.set_comm (l := σ) (some v) (some u) hij.symm]
  rw [← e]
  exact J5
theorem j_par3 {i j k : Nat} {x y z : Str} {px py pz pt pt2 : Pos} {a b c : Expr} {kt k2} {fs : M (List R)} (F : Fm Xc G X N nm) (hi : N[i]? = some x) (hj : N[j]? = some y) (hk : N[k]? = some z) (hij : i ≠ j) (hik : i ≠ k) (hjk : j ≠ k) (hx : nm.lookup x = some .local) (hy : nm.lookup y = some .local) (hz : nm.lookup z = some .local)
    (hl : (py.line == px.line) = true) (hl2 : (pz.line == px.line) = true) (hne : ([x, y, z] : List Str).eraseDups.length = 3)
    (h1 : ([a, b, c] : List Expr).any isStar = false) (h2 : ([a, b, c] : List Expr).all (foldedForSure 8) = false) (h3 : ([a, b, c] : List Expr).all (constantsAlone 8) = false) (ha : PA Xc [a, b, c] (TK G X fs))
    (hs : swapsWithSole [.Tuple [.Name x px, .Name y py, .Name z pz] kt pt] (.Tuple [a, b, c] k2 pt2) pos.line Xc.env = pure false := by rfl) :
    PS Xc (.Assign [.Tuple [.Name x px, .Name y py, .Name z pz] kt pt] (.Tuple [a, b, c] k2 pt2) pos) (TSt G X (sPar [i, j, k] fs)) := by
  refine (ps_par3 (i := i) (j := j) (k := k) F.calm (by rw [F.eN]; exact F.nd) (by rw [F.eN]; exact hi) (by rw [F.eN]; exact hj) (by rw [F.eN]; exact hk) hij hik hjk (by rw [F.eS]; exact hx) (by rw [F.eS]; exact hy) (by rw [F.eS]; exact hz) ha (sw3 F hx hy hz hl hl2 hne h1 h2 h3) hs).imp fun En σ H h => ?_
  obtain ⟨W, s, rp, hp⟩ := h.par
  refine ⟨W, s, rp, ?_⟩
  cases e : fs s with
  | bad => rw [e] at hp; exact hp
  | exn x t => rw [e] at hp; exact hp
  | ok rs t =>
    rw [e] at hp
    intro W1 H1 vs st rp1 rr ow
    obtain ⟨hl, q⟩ := hp W1 H1 vs st rp1 rr ow
    match vs, hl, q with
    | [u, v, w], _, q => exact ⟨u, v, w, rfl, q⟩
/-! ### cells: a new object becomes one that is shared -/
def sCell (fa : M R) : M R := fun s => match fa s with
  | .ok (.own d) s1 => .ok (.val (.ref s1.sto.length)) { s1 with sto := s1.sto ++ [d] }
  | .ok _ _ => .bad
  | .exn x s1 => .exn x s1
  | .bad => .bad
theorem j_cell {e : Expr} {fa : M R} (h : PE Xc e (TR G X fa)) : PE Xc e (TR G X (sCell fa)) := h.imp fun σ H Q ⟨W, s, rp, hp⟩ => by
  refine ⟨W, s, rp, ?_⟩
  unfold sCell at hp
  cases e1 : fa s with
  | bad => rw [e1] at hp; exact hp.elim
  | exn x s1 => rw [e1] at hp; exact hp
  | ok r s1 =>
    rw [e1] at hp
    cases r with
    | val d => exact hp.elim
    | slot i => exact hp.elim
    | own d =>
      intro W1 H1 v st rp1 rr ow
      obtain ⟨p, ev, c, nf, nm, no, ni⟩ := rr
      have z : OwnAt s.env σ p ∨ H p = none := ow p ev
      have sy : Stay W1 H1 ⟨W1.fz, W1.mu ++ [p]⟩ H1 := ⟨fun _ h => h, fun n a h => by
        rw [List.getElem?_append_left (List.getElem?_eq_some_iff.mp h).1]; exact h, fun _ _ h _ => h⟩
      refine hp ⟨W1.fz, W1.mu ++ [p]⟩ H1 v ?_ ⟨rp1.len, fun i d e => ?_, fun i d e => ?_, rp1.sep, ?_, fun n d a e1 e2 => ?_, ?_, rp1.fzd⟩ ⟨p, ev, ?_⟩ fun _ z => z.elim
      · refine ⟨st.fz, fun n a h => sy.mu n a (st.mu n a h), st.kp, st.dom, st.nfz, fun q hq => ?_, st.nown⟩
        rcases List.mem_append.mp hq with hq | hq
        · exact st.nmu q hq
        · rw [List.mem_singleton] at hq
          subst hq
          exact .inr (z.symm)
      · obtain ⟨u, z1, z2⟩ := rp1.val i d e
        exact ⟨u, z1, z2.stay sy⟩
      · obtain ⟨q, z1, z2, z3, z4, z5⟩ := rp1.own i d e
        refine ⟨q, z1, z2.stay sy fun _ h => h, z3, fun hq => ?_, z5⟩
        rcases List.mem_append.mp hq with hq | hq
        · exact z4 hq
        · rw [List.mem_singleton] at hq
          subst hq
          exact no ⟨i, d, e, z1⟩
      · show (s1.sto ++ [_]).length = (W1.mu ++ [p]).length
        rw [List.length_append, List.length_append, rp1.slen]; rfl
      · have e1 : (s1.sto ++ _)[n]? = some d := e1
        have e2 : (W1.mu ++ [p])[n]? = some a := e2
        by_cases hn : n < s1.sto.length
        · rw [List.getElem?_append_left hn] at e1
          rw [List.getElem?_append_left (by rw [← rp1.slen]; exact hn)] at e2
          obtain ⟨z1, z2⟩ := rp1.sto n d a e1 e2
          exact ⟨z1.stay sy fun _ h => h, z2⟩
        · have hn : s1.sto.length ≤ n := by omega
          rw [List.getElem?_append_right hn] at e1
          rw [List.getElem?_append_right (by rw [← rp1.slen]; exact hn), ← rp1.slen] at e2
          cases hk : n - s1.sto.length with
          | zero =>
            rw [hk] at e1 e2
            cases e1; cases e2
            exact ⟨c.stay sy fun _ h => h, nf⟩
          | succ k =>
            rw [hk, List.getElem?_eq_none (by simp)] at e1; cases e1
      · show (W1.mu ++ [p]).Nodup
        rw [List.nodup_append]
        exact ⟨rp1.nod, by simp, fun a ha b hb => by rw [List.mem_singleton] at hb; subst hb; exact fun z => nm (by rw [← z]; exact ha)⟩
      · show (W1.mu ++ [p])[s1.sto.length]? = some p
        rw [List.getElem?_append_right (by rw [rp1.slen]; exact Nat.le_refl _), rp1.slen, Nat.sub_self]; rfl
end
end DL

/-! enumerate over lists and tuples; zip. -/
namespace DL
open PySem L2 PyProof.Rows
theorem meets_enum1 {v : Value} {o : Obj} {H : Heap → Prop} (B : Begins v o H) :
    Meets (Builtin.«enumerate.__new__» ⟨[.type "enumerate", v], []⟩) (fun _ R s => H s.heap ∧
      R (.ok (.ret (.ref (s.heap.push o).objs.size))) { s with heap := (s.heap.push o).push { cls := .type "enumerate", data := .fields #[.none, .bool false, .ref s.heap.objs.size, rawInt 0, .none, .none] } }) :=
  .of_wp fun prog w A R s h => by
    obtain ⟨hp, g, d, tk, os⟩ := s; obtain ⟨h1, h⟩ := h
    have hsub := sub_enumerate
    have it1 : ∀ {A' : Around} {E : Value → Shared → Prop} {Q : Value → Shared → Prop}, Q (.ref hp.objs.size) ⟨hp.push o, g, d, tk, os⟩ → wpAny (model prog w) A' (pyIter v) Q E ⟨hp, g, d, tk, os⟩ :=
      fun q => B.iter prog w _ _ ⟨hp, g, d, tk, os⟩ _ h1 q
    wp_walk using it1
    refine wpAny_stack_any fun st => wpAny_pure ?_
    split
    · rename_i c _ _ _ _ _
      cases (c == Value.type "enumerate") <;> (wp_walk using it1; exact ⟨_, rfl, h⟩)
    · wp_walk using it1
      exact ⟨_, rfl, h⟩
theorem enum_of {prog : Program} {w : World} {A : Around} {E : Value → Shared → Prop} {s : Shared} {v : Value} {o : Obj} {H : Heap → Prop} {Q : Value → Shared → Prop} (B : Begins v o H) (h1 : H s.heap)
    (h : ∀ h', IsEnum h' (s.heap.objs.size + 1) s.heap.objs.size 0 .none → h'.get? s.heap.objs.size = some o → (∀ b u, s.heap.get? b = some u → h'.get? b = some u) → Q (.ref (s.heap.objs.size + 1)) { s with heap := h' }) :
    wpAny (model prog w) A (call (.type "enumerate") [v]) Q E s := by
  refine callType_new F.called_enumerate (by decide) (F.typeCall_enumerate_1 _) (F.newCall_enumerate_1 _) (fun obj => F.args_object_init_2 obj _) F.entry_enumerate_new (meets_enum1 B) ⟨h1, ?_⟩
  have hz : (s.heap.push o).objs.size = s.heap.objs.size + 1 := Heap.size_push ..
  show _ ∧ _
  rw [hz]
  have he : IsEnum ((s.heap.push o).push { cls := .type "enumerate", data := .fields #[.none, .bool false, .ref s.heap.objs.size, rawInt 0, .none, .none] }) (s.heap.objs.size + 1) s.heap.objs.size 0 .none := by
    have q := Heap.get?_push_size (s.heap.push o) (o := { cls := .type "enumerate", data := .fields #[.none, .bool false, .ref s.heap.objs.size, rawInt 0, .none, .none] }) rfl
    rw [hz] at q; exact q
  exact ⟨⟨_, he, rfl⟩, h _ he (Heap.get?_push_of_some _ (Heap.get?_push_size _ B.free)) fun b u x => Heap.get?_push_of_some _ (Heap.get?_push_of_some _ x)⟩
/-- the tuple at a, each item in a new pair -/
def ItT (K : PySem.W.Frag) (a : Addr) : It :=
  ⟨fun i H => ∃ (xs : List V) (x : V), SqT K H a xs ∧ xs[i]? = some x, fun i H v H' => ∃ T x, v = .ref T ∧ H T = none ∧ H' = upd H T (.tup [.int (i : Nat), x]) ∧ ∀ xs, SqT K H a xs → xs[i]? = some x, fun i H => ∃ xs : List V, SqT K H a xs ∧ xs.length ≤ i⟩
theorem turn_enumT {P : Program} {w : World} {K : PySem.W.Frag} {elts : List Expr} {kk : Nat} {tpos : Pos} (a e it : Addr) :
    Turn P w K (.Tuple elts kk tpos) (ItT K a) [e, it] e (fun i h => (∃ old, IsEnum h e it ((i : Nat) : Int) old) ∧ h.IsTupleIter it a i ∧ e ≠ it ∧ a ≠ it ∧ e ≠ a) where
  mem := by simp
  obj := fun i h ⟨⟨old, he⟩, ⟨o, ho, hc, hd⟩, _⟩ b hb => by
    rcases (by simpa using hb : b = e ∨ b = it) with z | z
    · rw [z]; exact ⟨_, he, fun v q => nomatch q⟩
    · rw [z]; exact ⟨o, ho, fun v q => by rw [hd] at q; cases q⟩
  keep := fun i h h' ⟨⟨old, he⟩, hi, hne⟩ k => ⟨⟨old, k e (by simp) _ he⟩, hi.at fun o q => k it (by simp) o q, hne⟩
  item := by
    intro X hP hw hK hc i pins s σ H E I hf ⟨⟨old, he⟩, hit, hne, na, nea⟩ ⟨xs, x, hq, hx⟩
    subst hP hw hK
    obtain ⟨its, rv, p, hz⟩ := I.tuple hq
    obtain ⟨u, hu, ru⟩ := rv.get hx
    have hel : e < s.heap.objs.size := Heap.lt_size he
    have hil : it < s.heap.objs.size := by obtain ⟨_, q, _⟩ := hit; exact Heap.lt_size q
    have hi : i < its.toArray.size := by
      rw [List.size_toArray]; exact (List.getElem?_eq_some_iff.mp hu).1
    refine wpAny_pyNext_enum_itemC (Draws.tuple (A := X.A.in1) (show X.A.in1.handled = none from I.ok.hd hc) it a na its.toArray) he ⟨hit, p⟩ hi hne (by simp [hne, nea]) fun x' h' tk hP ho hst hT hsz hk => ?_
    have eu : x' = u := by
      have q : its.toArray[i]? = some x' := hP
      rw [List.getElem?_toArray, hu] at q
      exact (Option.some.inj q).symm
    subst eu
    refine ⟨_, rfl, wpAny_letOwnedTupleGo_enum (s := { s with heap := h', toks := tk + 1 }) ho fun h'' he' sb => ?_⟩
    have hT2 : h''.get? s.heap.objs.size = some { cls := .type "tuple", data := .seq #[.int i tk, x'] } := (sb.2 _ (Nat.ne_of_gt hel)).trans hT
    have new : ObjOk X.prog X.w (upd H s.heap.objs.size (.tup [.int (i : Nat), x])) h'' s.heap.objs.size (.tup [.int (i : Nat), x]) :=
      ⟨by show 2 ≤ sizeLine; decide, [.int i tk, x'], .cons ⟨_, rfl⟩ (.cons ru .nil), ⟨_, hT2, rfl, _, rfl⟩⟩
    have I1 : Inv X pins σ (upd H s.heap.objs.size (.tup [.int (i : Nat), x])) { s with heap := h'', toks := tk + 1 } :=
      I.turnedNew (ch := [e, it]) (fun b ob hb q => (sb.2 b (fun z => hb (by simp [z]))).trans (hk b ob (fun z => hb (by simp [z])) (fun z => hb (by simp [z])) q)) hf (Nat.le_refl _) new
    refine ⟨.ref s.heap.objs.size, _, I1, rfl, ⟨_, x, rfl, I.hok.fresh (Nat.le_refl _), rfl, fun ys hy => by rw [I.tuple_inj hy hq]; exact hx⟩, ⟨⟨x', ?_⟩, hst.1.at fun o q => (sb.2 it (Ne.symm hne)).trans q, hne, na, nea⟩, fun b hb => ?_⟩
    · rw [show ((i + 1 : Nat) : Int) = (i : Int) + 1 by omega]; exact he'
    · have hb' : b < s.heap.objs.size := by
        rcases (by simpa using hb : b = e ∨ b = it) with z | z
        · rw [z]; exact hel
        · rw [z]; exact hil
      rw [upd_ne (Nat.ne_of_lt hb')]
      exact (hf b hb).1
  done := by
    intro X hP hw hK hc i pins s σ H E I hf ⟨⟨old, he⟩, hit, hne, na, nea⟩ ⟨xs, hq, hx⟩
    subst hP hw hK
    obtain ⟨its, rv, p, hz⟩ := I.tuple hq
    have hl := rv.length
    have D : Draws X.prog X.w X.A.in1 it [it, a] i (fun _ _ => True) (fun j h => j = i ∧ h.IsTupleIter it a i ∧ h.IsTuple a its.toArray) :=
      ⟨fun j h ⟨_, st, _⟩ => let ⟨o, ho, _⟩ := st; ⟨o, ho⟩, fun j h h' ⟨q, st, st2⟩ k => ⟨q, st.at fun o e => k it (by simp) o e, st2.at fun o e => k a (by simp) o e⟩,
        fun j s' Q E hj ⟨q, _⟩ => absurd q (Nat.ne_of_lt hj), fun s' Q E ⟨_, st, st2⟩ hE => RZ.nextOf_tuple_end (show X.A.in1.handled = none from I.ok.hd hc) st st2 (by simp; omega) hE⟩
    obtain ⟨f0, f1, f2, f3, f4, f5⟩ := hf it (by simp)
    exact wpAny_pyNext_enum_endD D he ⟨rfl, hit, p⟩ fun h' eb => ⟨rfl, I.turned (t' := s.toks) (fun b o hb q => eb b o hb q) f0 f1 f3 f4 f5⟩
  self := fun A i s Q E ⟨⟨_, he⟩, _⟩ h => wpAny_pyIter_enum he h
def iEnumA (K : PySem.W.Frag) (ta : TA) : TI := fun σ H R => ta σ H fun vs H1 => ∃ a xs, vs = [.ref a] ∧ ((SqL K H1 a xs ∧ R (Ite K a) H1) ∨ (SqT K H1 a xs ∧ R (ItT K a) H1))
theorem pi_enumA {X : Cx} {e : Expr} {ta : TA} {p pos tpos : Pos} {elts : List Expr} {kk : Nat} (hg : Gl X "enumerate") (hm : X.mg "enumerate" = none) (ha : PA X [e] ta) (hs : starEach [e] X.env = [(false, eval e X.env)] := by rfl) :
    PI X (.Tuple elts kk tpos) (.Call (.Name "enumerate" p) [e] [] pos) (iEnumA X.K ta) := by
  refine ⟨fun pins s σ H R I h => Call_ (ld_blt I hg hm boot_enumerate (PyProof.Rows.callWith_type1 (thn (ha.run pos pins s σ H _ I h) ?_) hs rfl))⟩
  rintro us s1 ⟨vs, H1, I1, r1, a, xs, rfl, q⟩
  obtain ⟨u, rfl, ru⟩ := vals1 r1
  obtain rfl : u = Value.ref a := ru
  have fresh : ∀ b, b ∈ [s1.heap.objs.size + 1, s1.heap.objs.size] → FpOk X pins H1 b := fun b hb => by
    have hle : s1.heap.objs.size ≤ b := by
      rcases (by simpa using hb : b = s1.heap.objs.size + 1 ∨ b = s1.heap.objs.size) with z | z
      · rw [z]; exact Nat.le_succ _
      · rw [z]; exact Nat.le_refl _
    exact I1.fpOk hle (I1.hok.fresh hle)
  rcases q with ⟨hq, q⟩ | ⟨hq, q⟩
  · obtain ⟨its, rv, p', hz⟩ := I1.list hq
    refine call_enumerate_list p'.isList fun h' he hit hsz hk => wpAny_pyIter_enum he ?_
    exact ⟨s1.heap.objs.size + 1, [s1.heap.objs.size + 1, s1.heap.objs.size], _, _, H1, rfl, I1.kept (h' := h') (t' := s1.toks) hk, turn_enum a (s1.heap.objs.size + 1) s1.heap.objs.size, ⟨⟨.none, he⟩, hit, Nat.succ_ne_self _⟩, fresh, q⟩
  · obtain ⟨its, rv, p', hz⟩ := I1.tuple hq
    obtain ⟨o, ho, _⟩ := id p'
    have al : a < s1.heap.objs.size := Heap.lt_size ho
    refine enum_of (begins_tuple a its.toArray) p' fun h' he hit hk => wpAny_pyIter_enum he ?_
    exact ⟨s1.heap.objs.size + 1, [s1.heap.objs.size + 1, s1.heap.objs.size], _, _, H1, rfl, I1.kept (h' := h') (t' := s1.toks) hk, turn_enumT a (s1.heap.objs.size + 1) s1.heap.objs.size,
      ⟨⟨.none, he⟩, ⟨_, hit, rfl, rfl⟩, Nat.succ_ne_self _, Nat.ne_of_lt al, fun z => Nat.not_succ_lt_self (Nat.lt_of_le_of_lt (Nat.le_of_eq z) al)⟩, fresh, q⟩
theorem walk_enumT {K : PySem.W.Frag} {a : Addr} {xs : List V} : Walk (ItT K a) xs.length (fun H => SqT K H a xs) (YPair (fun i => some (.int (i : Nat))) (fun i => xs[i]?)) := by
  refine ⟨fun i _ hi q => ⟨xs, xs[i], q, List.getElem?_eq_getElem hi⟩, fun _ q => ⟨xs, q, Nat.le_refl _⟩, ?_⟩
  rintro i H v H' _ q ⟨T, x, h1, h2, h3, h4⟩
  exact ⟨T, .int (i : Nat), x, h1, h2, h3, rfl, h4 xs q⟩
theorem walk_zipT {K : PySem.W.Frag} {a b : Addr} {xs ys : List V} {n : Nat} (hn : n = min xs.length ys.length) : Walk (RZ.ItzT K a b) n (fun H => SqT K H a xs ∧ SqT K H b ys) (YPair (fun i => xs[i]?) (fun i => ys[i]?)) := by
  subst hn
  refine ⟨fun i _ hi q => ⟨xs, ys, xs[i]'(by omega), ys[i]'(by omega), q.1, q.2, List.getElem?_eq_getElem _, List.getElem?_eq_getElem _⟩, fun _ q => ⟨xs, ys, q.1, q.2, by omega⟩, ?_⟩
  rintro i H v H' _ q ⟨T, x, z, h1, h2, h3, h4, h5⟩
  exact ⟨T, x, z, h1, h2, h3, h4 xs q.1, h5 ys q.2⟩
/-- (0, x0), (1, x1), .. -/
def enumD : Nat → List D → List D
  | _, [] => []
  | k, d :: ds => .tup [.int (k : Int), d] :: enumD (k + 1) ds
def zipD : List D → List D → List D
  | a :: as, b :: bs => .tup [a, b] :: zipD as bs
  | _, _ => []
theorem enumD_get : ∀ {ds : List D} {k i : Nat} {d : D}, ds[i]? = some d → (enumD k ds)[i]? = some (.tup [.int ((k + i : Nat) : Int), d])
  | [], k, i, d, h => by simp at h
  | x :: ds, k, 0, d, h => by rw [List.getElem?_cons_zero] at h; cases h; rfl
  | x :: ds, k, i + 1, d, h => by
    rw [List.getElem?_cons_succ] at h
    have := enumD_get (k := k + 1) h
    show (enumD (k + 1) ds)[i]? = _
    rw [this, show k + 1 + i = k + (i + 1) by omega]
theorem enumD_length : ∀ {ds : List D} {k : Nat}, (enumD k ds).length = ds.length
  | [], _ => rfl
  | _ :: ds, k => congrArg Nat.succ (enumD_length (ds := ds))
theorem zipD_get : ∀ {as bs : List D} {i : Nat} {a b : D}, as[i]? = some a → bs[i]? = some b → (zipD as bs)[i]? = some (.tup [a, b])
  | [], _, i, a, b, h, _ => by simp at h
  | _ :: _, [], i, a, b, _, h => by simp at h
  | x :: as, y :: bs, 0, a, b, h, g => by rw [List.getElem?_cons_zero] at h g; cases h; cases g; rfl
  | x :: as, y :: bs, i + 1, a, b, h, g => by
    rw [List.getElem?_cons_succ] at h g
    exact zipD_get (as := as) (bs := bs) h g
theorem zipD_length : ∀ {as bs : List D}, (zipD as bs).length = min as.length bs.length
  | [], _ => by simp [zipD]
  | _ :: _, [] => by simp [zipD]
  | _ :: as, _ :: bs => by
    show (zipD as bs).length + 1 = _
    rw [zipD_length, List.length_cons, List.length_cons]; omega
section
variable {G : GD} {X : WX} {Xc : Cx} {N : List Str} {nm : List (Str × NameKind)} {pos : Pos} {σ σ1 : L2.St} {H H1 : Hp} {W W1 : WD} {s s1 : DS} {O O1 : Addr → Prop} {Q : VK}
/-- pairs over what is fixed -/
theorem IterOf.pairs {J : It} {n : Nat} {Gd : Hp → Prop} {xs ys : Nat → Option V} {ps : List DL.D} {as bs : Nat → Option DL.D} (w : L2.Walk J n Gd (YPair xs ys)) (hn : ps.length = n) (hG : ∀ W' H', Stay W H W' H' → Gd H')
    (ha : ∀ i x, i < n → xs i = some x → ∃ d, as i = some d ∧ RepD G W H d x) (hb : ∀ i x, i < n → ys i = some x → ∃ d, bs i = some d ∧ RepD G W H d x) (hp : ∀ i a b, as i = some a → bs i = some b → ps[i]? = some (.tup [a, b])) : IterOf G W H J ps := by
  refine ⟨Gd, fun i H' x H'' => i < n ∧ YPair xs ys i H' x H'', ?_, hG, ?_⟩
  · rw [hn]
    exact ⟨w.goes, w.stops, fun i H x H' hi h y => ⟨hi, w.yields i H x H' hi h y⟩⟩
  · rintro i W' H' x H'' sy ⟨hi, T, u, v, rfl, hT, rfl, hu, hv⟩
    obtain ⟨a, ea, ra⟩ := ha i u hi hu
    obtain ⟨b, eb, rb⟩ := hb i v hi hv
    have gr : Grow H' (upd H' T (.tup [u, v])) := Grow.new hT
    exact ⟨.tup [a, b], hp i a b ea eb, gr, ⟨T, [u, v], rfl, upd_same, .cons ((ra.stay sy).stay gr.stay) (.cons ((rb.stay sy).stay gr.stay) .nil)⟩⟩
theorem RepDs.getI {ds : List DL.D} {vs : List V} {i : Nat} {v : V} (r : RepDs G W H ds vs) (h : vs[i]? = some v) : ∃ d, ds[i]? = some d ∧ RepD G W H d v := by
  have hl : i < ds.length := by rw [r.length]; exact (List.getElem?_eq_some_iff.mp h).1
  obtain ⟨u, hu, ru⟩ := r.get (List.getElem?_eq_getElem hl)
  rw [h] at hu; cases hu
  exact ⟨_, List.getElem?_eq_getElem hl, ru⟩
/-- what is walked, whether it is a list -/
def sItK (fa : M R) : M (Bool × List DL.D) := fun s => match fa s with
  | .ok r s1 => (match r.toD s1 with
    | .ok (.tup ds) s2 => .ok (false, ds) s2
    | .ok (.lst ds) s2 => .ok (true, ds) s2
    | .ok _ _ => .bad
    | .exn x s2 => .exn x s2
    | .bad => .bad)
  | .exn x s1 => .exn x s1
  | .bad => .bad
def WalkAt (G : GD) (W : WD) (H : Hp) (k : Bool) (ds : List DL.D) (v : V) : Prop := match k with
  | true => ∃ p vs, v = .ref p ∧ W.fz p ∧ Rd H p (.lst vs) ∧ RepDs G W H ds vs
  | false => ∃ p vs, v = .ref p ∧ H p = some (.tup vs) ∧ RepDs G W H ds vs
theorem WalkAt.stay {k : Bool} {ds : List DL.D} {v : V} (h : WalkAt G W H k ds v) (sy : Stay W H W1 H1) : WalkAt G W1 H1 k ds v := by
  cases k with
  | true => obtain ⟨p, vs, e, f, a, r⟩ := h; exact ⟨p, vs, e, sy.fz p f, sy.rd f a, r.stay sy⟩
  | false => obtain ⟨p, vs, e, a, r⟩ := h; exact ⟨p, vs, e, sy.kp p _ a (.inr ⟨vs, rfl⟩), r.stay sy⟩
theorem It.fixK {fa : M R} {Qi : Bool × List DL.D → DS → Prop} (h : match sItK fa s with
    | .ok ds s1 => Qi ds s1
    | .exn x s1 => PostX G X (OwnAt s.env σ) W H x s1
    | .bad => False) : PostE G X (OwnAt s.env σ) W H σ (fa s) fun v H1 => ∃ W1 s1 k ds, Qi (k, ds) s1 ∧ Step (OwnAt s.env σ) W H (OwnAt s1.env σ) W1 H1 ∧ Rep G W1 s1 σ H1 ∧ WalkAt G W1 H1 k ds v := by
  unfold sItK at h
  cases e1 : fa s with
  | bad => rw [e1] at h; exact h.elim
  | exn x s1 => rw [e1] at h; exact h
  | ok r s1 =>
    simp only [e1] at h
    intro W1 H1 v st rp1 rr ow
    cases e2 : r.toD s1 with
    | bad => simp only [e2] at h
    | exn x s2 => exact (R.toD_exn e2).elim
    | ok d s2 =>
      simp only [e2] at h
      obtain ⟨W2, st2, rp2, rd, _⟩ := toD_ok (O := fun p => OwnAt s1.env σ p ∨ OwnedBy r v p) rp1 rr e2 (fun p z => .inl z) (fun p z => .inr z)
      have st12 : Step (OwnAt s.env σ) W H (OwnAt s2.env σ) W2 H1 := (st.subO fun p z => (by
        rcases z with z | z
        · exact .inr (.inl z)
        · exact (ow p z).elim .inl fun y => .inr (.inr y))).trans st2
      cases d with
      | lst ds => exact ⟨W2, s2, true, ds, h, st12, rp2, rd⟩
      | tup ds => exact ⟨W2, s2, false, ds, h, st12, rp2, rd⟩
      | _ => exact h.elim
def sEnum (fa : M R) : M (List DL.D) := fun s => match sItK fa s with
  | .ok ds s1 => .ok (enumD 0 ds.2) s1
  | .exn x s1 => .exn x s1
  | .bad => .bad
theorem ji_enum {e : Expr} {fa : M R} {p tpos : Pos} {elts : List Expr} {kk : Nat} (F : Fm Xc G X N nm) (hg : nm.lookup ("enumerate" : Str) = some .globalImplicit) (hm : G.mg ("enumerate" : Str) = none) (ha : PE Xc e (TR G X fa)) (hs : starEach [e] Xc.env = [(false, eval e Xc.env)] := by rfl) :
    PI Xc (.Tuple elts kk tpos) (.Call (.Name "enumerate" p) [e] [] pos) (TIt G X (sEnum fa)) := by
  refine (pi_enumA (by show Xc.env.scope.names.lookup _ = _; rw [F.eS]; exact hg) (by rw [F.eM]; exact hm) (pa_cons ha pa_nil hs) hs).imp fun σ H Rq ⟨W, s, rp, hp⟩ => ⟨W, s, rp, ?_⟩
  unfold sEnum at hp
  have h2 : (match sItK fa s with
    | .ok ds s1 => ∀ W1 H1 J, Step (OwnAt s.env σ) W H (OwnAt s1.env σ) W1 H1 → Rep G W1 s1 σ H1 → IterOf G W1 H1 J (enumD 0 ds.2) → Rq J H1
    | .exn x s1 => PostX G X (OwnAt s.env σ) W H x s1
    | .bad => False) := by
    cases e1 : sItK fa s with
    | bad => rw [e1] at hp; exact hp
    | exn x s1 => rw [e1] at hp; exact hp
    | ok ds s1 => rw [e1] at hp; exact hp
  refine (It.fixK (Qi := fun ds s1 => ∀ W1 H1 J, Step (OwnAt s.env σ) W H (OwnAt s1.env σ) W1 H1 → Rep G W1 s1 σ H1 → IterOf G W1 H1 J (enumD 0 ds.2) → Rq J H1) h2).mono ?_
  rintro v H1 ⟨W1, s1, k, ds, q, st, rp1, wa⟩
  have h0 : ∀ (i : Nat) (a b : DL.D), some (DL.D.int (i : Int)) = some a → ds[i]? = some b → (enumD 0 ds)[i]? = some (.tup [a, b]) := fun i a b ea eb => by
    cases ea
    have q := enumD_get (k := 0) eb
    rwa [Nat.zero_add] at q
  cases k with
  | true =>
    obtain ⟨p, vs, rfl, f, h, r⟩ := wa
    exact ⟨p, vs, rfl, .inl ⟨.inl h, q W1 H1 _ st rp1 (IterOf.pairs (as := fun i => some (.int (i : Nat))) (bs := fun i => ds[i]?) walk_enum (by rw [enumD_length, r.length]) (fun W' H' z => .inl (z.rd f h)) (fun i x _ e => by cases e; exact ⟨_, rfl, rfl⟩) (fun i x _ e => r.getI e) h0)⟩⟩
  | false =>
    obtain ⟨p, vs, rfl, h, r⟩ := wa
    exact ⟨p, vs, rfl, .inr ⟨SqT.of h, q W1 H1 _ st rp1 (IterOf.pairs (as := fun i => some (.int (i : Nat))) (bs := fun i => ds[i]?) walk_enumT (by rw [enumD_length, r.length]) (fun W' H' z => SqT.of (z.kp p _ h (.inr ⟨vs, rfl⟩))) (fun i x _ e => by cases e; exact ⟨_, rfl, rfl⟩) (fun i x _ e => r.getI e) h0)⟩⟩
def sZip (fa fb : M R) : M (List DL.D) := fun s => match sItK fa s with
  | .ok a s1 => (match sItK fb s1 with
    | .ok b s2 => if a.1 = b.1 then .ok (zipD a.2 b.2) s2 else .bad
    | .exn x s2 => .exn x s2
    | .bad => .bad)
  | .exn x s1 => .exn x s1
  | .bad => .bad
theorem ji_zip {e e2 : Expr} {fa fb : M R} {p tpos : Pos} {elts : List Expr} {kk : Nat} (F : Fm Xc G X N nm) (hg : nm.lookup ("zip" : Str) = some .globalImplicit) (hm : G.mg ("zip" : Str) = none) (ha : PE Xc e (TR G X fa)) (hb : PE Xc e2 (TR G X fb))
    (hs : starEach [e, e2] Xc.env = (false, eval e Xc.env) :: starEach [e2] Xc.env := by rfl) (hs2 : starEach [e2] Xc.env = [(false, eval e2 Xc.env)] := by rfl) (hpl : (backTo pos (starEach [e2] Xc.env)).any (·.1) = false := by rfl) :
    PI Xc (.Tuple elts kk tpos) (.Call (.Name "zip" p) [e, e2] [] pos) (TIt G X (sZip fa fb)) := by
  refine (RZ.pi_zipA (by show Xc.env.scope.names.lookup _ = _; rw [F.eS]; exact hg) (by rw [F.eM]; exact hm) (pa_cons ha (pa_cons hb pa_nil hs2) hs) hs hpl).imp fun σ H Rq ⟨W, s, rp, hp⟩ => ⟨W, s, rp, ?_⟩
  unfold sZip at hp
  have h2 : (match sItK fa s with
    | .ok a s1 => (match sItK fb s1 with
      | .ok b s2 => a.1 = b.1 ∧ ∀ W1 H1 J, Step (OwnAt s.env σ) W H (OwnAt s2.env σ) W1 H1 → Rep G W1 s2 σ H1 → IterOf G W1 H1 J (zipD a.2 b.2) → Rq J H1
      | .exn x s2 => PostX G X (OwnAt s.env σ) W H x s2
      | .bad => False)
    | .exn x s1 => PostX G X (OwnAt s.env σ) W H x s1
    | .bad => False) := by
    cases e1 : sItK fa s with
    | bad => rw [e1] at hp; exact hp
    | exn x s1 => rw [e1] at hp; exact hp
    | ok a s1 =>
      simp only [e1] at hp ⊢
      cases e2 : sItK fb s1 with
      | bad => rw [e2] at hp; exact hp
      | exn x s2 => rw [e2] at hp; exact hp
      | ok b s2 =>
        simp only [e2] at hp ⊢
        by_cases c : a.1 = b.1
        · rw [if_pos c] at hp; exact ⟨c, hp⟩
        · rw [if_neg c] at hp; exact hp.elim
  refine (It.fixK (Qi := fun a s1 => (match sItK fb s1 with
      | .ok b s2 => a.1 = b.1 ∧ ∀ W1 H1 J, Step (OwnAt s.env σ) W H (OwnAt s2.env σ) W1 H1 → Rep G W1 s2 σ H1 → IterOf G W1 H1 J (zipD a.2 b.2) → Rq J H1
      | .exn x s2 => PostX G X (OwnAt s.env σ) W H x s2
      | .bad => False)) h2).mono ?_
  rintro v H1 ⟨W1, s1, k, ds, q, st, rp1, wa⟩
  refine ⟨W1, s1, rp1, ?_⟩
  have q2 : (match sItK fb s1 with
      | .ok b s2 => k = b.1 ∧ ∀ W2 H2 J, Step (OwnAt s1.env σ) W1 H1 (OwnAt s2.env σ) W2 H2 → Rep G W2 s2 σ H2 → IterOf G W2 H2 J (zipD ds b.2) → Rq J H2
      | .exn x s2 => PostX G X (OwnAt s1.env σ) W1 H1 x s2
      | .bad => False) := by
    cases e2 : sItK fb s1 with
    | bad => rw [e2] at q; exact q
    | exn x s2 => simp only [e2] at q; exact fun W' σ' H' c d a b z => q W' σ' H' c d (st.trans a) b z
    | ok b s2 => simp only [e2] at q; exact ⟨q.1, fun W2 H2 J a b c => q.2 W2 H2 J (st.trans a) b c⟩
  refine (It.fixK (Qi := fun b s2 => k = b.1 ∧ ∀ W2 H2 J, Step (OwnAt s1.env σ) W1 H1 (OwnAt s2.env σ) W2 H2 → Rep G W2 s2 σ H2 → IterOf G W2 H2 J (zipD ds b.2) → Rq J H2) q2).mono ?_
  rintro v2 H2 ⟨W2, s2, k2, bs, ⟨ek, q3⟩, st2, rp2, wb⟩
  have ek : k = k2 := ek
  subst ek
  have wa := wa.stay (st2.stay rp1.apart)
  cases k with
  | true =>
    obtain ⟨p, vs, rfl, f, h, r⟩ := wa
    obtain ⟨p2, ws, rfl, f2, h2, r2⟩ := wb
    exact ⟨p, p2, vs, ws, rfl, .inl ⟨.inl h, .inl h2, q3 W2 H2 _ st2 rp2 (IterOf.pairs (as := fun i => ds[i]?) (bs := fun i => bs[i]?) (walk_zip rfl) (by rw [zipD_length, r.length, r2.length]) (fun W' H' z => ⟨.inl (z.rd f h), .inl (z.rd f2 h2)⟩) (fun i x _ e => r.getI e) (fun i x _ e => r2.getI e) fun i a b ea eb => zipD_get ea eb)⟩⟩
  | false =>
    obtain ⟨p, vs, rfl, h, r⟩ := wa
    obtain ⟨p2, ws, rfl, h2, r2⟩ := wb
    exact ⟨p, p2, vs, ws, rfl, .inr ⟨SqT.of h, SqT.of h2, q3 W2 H2 _ st2 rp2 (IterOf.pairs (as := fun i => ds[i]?) (bs := fun i => bs[i]?) (walk_zipT rfl) (by rw [zipD_length, r.length, r2.length]) (fun W' H' z => ⟨SqT.of (z.kp p _ h (.inr ⟨vs, rfl⟩)), SqT.of (z.kp p2 _ h2 (.inr ⟨ws, rfl⟩))⟩) (fun i x _ e => r.getI e) (fun i x _ e => r2.getI e) fun i a b ea eb => zipD_get ea eb)⟩⟩
end
end DL

/-! tuple(range(..)), list(range(..)). -/
namespace DL
open PySem L2 PyProof.Rows
section
variable {G : GD} {X : WX} {Xc : Cx} {N : List Str} {nm : List (Str × NameKind)} {pos : Pos} {σ σ1 : L2.St} {H H1 : Hp} {W W1 : WD} {s s1 : DS} {O O1 : Addr → Prop} {Q : VK}
theorem rangeD_rep {a b : Int} : RepDs G W H (rangeD a (b - a).toNat) (rgV a b) := by
  unfold rangeD rgV
  generalize (List.range (b - a).toNat) = l
  induction l with
  | nil => rfl
  | cons x l ih => exact .cons rfl ih
def rgM (k : Bool) (a b : Int) : M R := if (-rlim ≤ a ∧ a ≤ rlim) ∧ -rlim ≤ b ∧ b ≤ rlim then (match k with
  | true => M.pure (.own (.lst (rangeD a (b - a).toNat)))
  | false => M.pure (.val (.tup (rangeD a (b - a).toNat)))) else M.bad
def rg1 (k : Bool) : DL.D → M R
  | .int n => rgM k 0 n
  | _ => M.bad
def rg2 (k : Bool) : DL.D → DL.D → M R
  | .int m, .int n => rgM k m n
  | _, _ => M.bad
theorem rgOk {a b : Int} (c : (-rlim ≤ a ∧ a ≤ rlim) ∧ -rlim ≤ b ∧ b ≤ rlim) : RgOk a b := by
  unfold rlim at c
  exact ⟨by omega, by omega, by omega, by omega, by omega⟩
theorem ul_rgT : UnL G X (fun x H Q => ∃ n, x = .int n ∧ RgOk 0 n ∧ ∀ q, H q = none → Q (.ref q) (upd H q (.tup (rgV 0 n)))) (rg1 false) := by
  intro W s σ H x a O Q rp la hO hp
  cases a with
  | int n =>
    have e := la.int; subst e
    unfold rg1 rgM at hp
    by_cases c : (-rlim ≤ (0 : Int) ∧ (0 : Int) ≤ rlim) ∧ -rlim ≤ n ∧ n ≤ rlim
    · simp only [if_pos c] at hp
      exact ⟨n, rfl, rgOk c, PostE.tup hp rp hO rangeD_rep⟩
    · simp only [if_neg c] at hp; exact hp.elim
  | _ => exact hp.elim
theorem ul_rgL : UnL G X (fun x H Q => ∃ n, x = .int n ∧ RgOk 0 n ∧ ∀ q, H q = none → Q (.ref q) (upd H q (.lst (rgV 0 n)))) (rg1 true) := by
  intro W s σ H x a O Q rp la hO hp
  cases a with
  | int n =>
    have e := la.int; subst e
    unfold rg1 rgM at hp
    by_cases c : (-rlim ≤ (0 : Int) ∧ (0 : Int) ≤ rlim) ∧ -rlim ≤ n ∧ n ≤ rlim
    · simp only [if_pos c] at hp
      exact ⟨n, rfl, rgOk c, PostE.lst hp rp hO rangeD_rep⟩
    · simp only [if_neg c] at hp; exact hp.elim
  | _ => exact hp.elim
theorem ol_rgT : OpL G X (fun x y H Q => ∃ m n, x = .int m ∧ y = .int n ∧ RgOk m n ∧ ∀ q, H q = none → Q (.ref q) (upd H q (.tup (rgV m n)))) (rg2 false) := by
  intro W s σ H x y a b O Q rp la lb hO hp
  cases a with
  | int m =>
    cases b with
    | int n =>
      have e := la.int; have e2 := lb.int; subst e e2
      unfold rg2 rgM at hp
      by_cases c : (-rlim ≤ m ∧ m ≤ rlim) ∧ -rlim ≤ n ∧ n ≤ rlim
      · simp only [if_pos c] at hp
        exact ⟨m, n, rfl, rfl, rgOk c, PostE.tup hp rp hO rangeD_rep⟩
      · simp only [if_neg c] at hp; exact hp.elim
    | _ => exact hp.elim
  | _ => exact hp.elim
theorem ol_rgL : OpL G X (fun x y H Q => ∃ m n, x = .int m ∧ y = .int n ∧ RgOk m n ∧ ∀ q, H q = none → Q (.ref q) (upd H q (.lst (rgV m n)))) (rg2 true) := by
  intro W s σ H x y a b O Q rp la lb hO hp
  cases a with
  | int m =>
    cases b with
    | int n =>
      have e := la.int; have e2 := lb.int; subst e e2
      unfold rg2 rgM at hp
      by_cases c : (-rlim ≤ m ∧ m ≤ rlim) ∧ -rlim ≤ n ∧ n ≤ rlim
      · simp only [if_pos c] at hp
        exact ⟨m, n, rfl, rfl, rgOk c, PostE.lst hp rp hO rangeD_rep⟩
      · simp only [if_neg c] at hp; exact hp.elim
    | _ => exact hp.elim
  | _ => exact hp.elim
theorem j_tupRg1 {a : Expr} {fa : M R} {p p2 pos2 : Pos} (F : Fm Xc G X N nm) (hg : nm.lookup ("tuple" : Str) = some .globalImplicit) (hm : G.mg ("tuple" : Str) = none) (hg2 : nm.lookup ("range" : Str) = some .globalImplicit) (hm2 : G.mg ("range" : Str) = none) (ha : PE Xc a (TR G X fa))
    (h1 : starEach [a] Xc.env = (false, eval a Xc.env) :: starEach [] Xc.env := by rfl) (h2 : starEach [Expr.Call (.Name "range" p2) [a] [] pos2] Xc.env = (false, eval (.Call (.Name "range" p2) [a] [] pos2) Xc.env) :: starEach [] Xc.env := by rfl) :
    PE Xc (.Call (.Name "tuple" p) [.Call (.Name "range" p2) [a] [] pos2] [] pos) (TR G X (DL.s1 (rd1 (rg1 false)) fa)) :=
  (pe_tupRg F.calm (by show Xc.env.scope.names.lookup _ = _; rw [F.eS]; exact hg) (by rw [F.eM]; exact hm) (prg_1 (by show Xc.env.scope.names.lookup _ = _; rw [F.eS]; exact hg2) (by rw [F.eM]; exact hm2) ha h1) h2).imp fun σ H Q h => TR.one ul_rgT.un h
theorem j_listRg1 {a : Expr} {fa : M R} {p p2 pos2 : Pos} (F : Fm Xc G X N nm) (hg : nm.lookup ("list" : Str) = some .globalImplicit) (hm : G.mg ("list" : Str) = none) (hg2 : nm.lookup ("range" : Str) = some .globalImplicit) (hm2 : G.mg ("range" : Str) = none) (ha : PE Xc a (TR G X fa))
    (h1 : starEach [a] Xc.env = (false, eval a Xc.env) :: starEach [] Xc.env := by rfl) (h2 : starEach [Expr.Call (.Name "range" p2) [a] [] pos2] Xc.env = (false, eval (.Call (.Name "range" p2) [a] [] pos2) Xc.env) :: starEach [] Xc.env := by rfl) :
    PE Xc (.Call (.Name "list" p) [.Call (.Name "range" p2) [a] [] pos2] [] pos) (TR G X (DL.s1 (rd1 (rg1 true)) fa)) :=
  (pe_listRg F.calm (by show Xc.env.scope.names.lookup _ = _; rw [F.eS]; exact hg) (by rw [F.eM]; exact hm) (prg_1 (by show Xc.env.scope.names.lookup _ = _; rw [F.eS]; exact hg2) (by rw [F.eM]; exact hm2) ha h1) h2).imp fun σ H Q h => TR.one ul_rgL.un h
end
end DL

/-! The rules as they are printed. -/
namespace DL
open PySem L2 PyProof.Rows
def negM : D → M R
  | .int i => M.pure (.val (.int (-i)))
  | _ => M.bad
section
variable {G : GD} {X : WX} {Xc : Cx} {N : List Str} {nm : List (Str × NameKind)} {pos : Pos} {σ σ1 : L2.St} {H H1 : Hp} {W W1 : WD} {s s1 : DS} {O O1 : Addr → Prop} {Q : VK}
theorem ul_neg : UnL G X (rU fun i => .int (-i)) negM := by
  intro W s σ H x a O Q rp la hO hp
  cases a with
  | int i => have e := la.int; subst e; exact ⟨i, rfl, PostE.val hp rp hO rfl⟩
  | _ => exact hp.elim
theorem j_neg {a : Expr} {fa : M R} (ha : PE Xc a (TR G X fa)) : PE Xc (.UnaryOp .USub a pos) (TR G X (DL.s1 (rd1 negM) fa)) := je_un un_neg ul_neg.un ha
/-- what is never reached -/
theorem j_bad {e : Expr} : PE Xc e (TR G X M.bad) := ⟨fun pins s σ H Q I ⟨W, s0, rp, hp⟩ => hp.elim⟩
theorem js_bad {st : Stmt} : PS Xc st (TSt G X M.bad) := ⟨fun pins s σ H D I ⟨W, s0, rp, hp⟩ => hp.elim⟩
theorem jt_bad {e : Expr} : PT Xc e (TB G X M.bad) := ⟨fun pins s σ H Q I ⟨W, s0, rp, hp⟩ => hp.elim⟩
/-! ### operations over the text's part -/
theorem kb_add (F : Fm Xc G X N nm) : OpR Xc (binaryOp .Add) (rAddA G.K) := by rw [← F.eK]; exact op_addA
theorem kb_sub (F : Fm Xc G X N nm) : OpR Xc (binaryOp .Sub) (rI0 fun i j => .int (i - j)) := op_sub
theorem kb_mul (F : Fm Xc G X N nm) : OpR Xc (binaryOp .Mult) (rMulA G.K) := by rw [← F.eK]; exact op_mulA
theorem kb_div (F : Fm Xc G X N nm) : OpR Xc (binaryOp .FloorDiv) (rI CDivW fun i j => .int (i / j)) := op_fdivW
theorem kb_mod (F : Fm Xc G X N nm) : OpR Xc (binaryOp .Mod) (rI (fun _ j => 0 < j) fun i j => .int (i % j)) := op_mod
theorem kb_pow (F : Fm Xc G X N nm) : OpR Xc (binaryOp .Pow) (rI CPow fun i j => .int (i ^ j.toNat)) := op_pow
theorem kc_eq (F : Fm Xc G X N nm) : OpR Xc (compareOp .Eq) (fun x y H Q => rEq x y H Q ∨ rEqD G.K x y H Q) := by
  have h : OpR Xc (compareOp .Eq) (fun x y H Q => rEq x y H Q ∨ rEqD Xc.K x y H Q) := op_eq.or (op_eqD (by have := F.un; omega))
  rw [F.eK] at h; exact h
theorem kc_ne (F : Fm Xc G X N nm) : OpR Xc (compareOp .NotEq) (fun x y H Q => rNe x y H Q ∨ rNeD G.K x y H Q) := by
  have h : OpR Xc (compareOp .NotEq) (fun x y H Q => rNe x y H Q ∨ rNeD Xc.K x y H Q) := op_ne.or (op_neD (by have := F.un; omega))
  rw [F.eK] at h; exact h
theorem kc_lt (F : Fm Xc G X N nm) : OpR Xc (compareOp .Lt) (rLtA G.K) := by rw [← F.eK]; exact op_ltA (by have := F.un; omega)
theorem kc_le (F : Fm Xc G X N nm) : OpR Xc (compareOp .LtE) (rLeA G.K) := by rw [← F.eK]; exact op_leA (by have := F.un; omega)
theorem kc_gt (F : Fm Xc G X N nm) : OpR Xc (compareOp .Gt) (rI0 fun i j => .bl (decide (j < i))) := op_gt
theorem kc_ge (F : Fm Xc G X N nm) : OpR Xc (compareOp .GtE) (rI0 fun i j => .bl (decide (j ≤ i))) := op_ge
theorem kc_in (F : Fm Xc G X N nm) : OpR Xc (compareOp .In) (rInAll G.K) := by rw [← F.eK]; exact op_inAll F.un
theorem kc_nin (F : Fm Xc G X N nm) : OpR Xc (compareOp .NotIn) (rNotInAll G.K) := by rw [← F.eK]; exact op_notinAll F.un
theorem kc_is (F : Fm Xc G X N nm) : OpR Xc (compareOp .Is) (fun x y H Q => y = .non ∧ Q (.bl (decide (x = .non))) H) := op_isN
theorem kc_nis (F : Fm Xc G X N nm) : OpR Xc (compareOp .IsNot) (fun x y H Q => y = .non ∧ Q (.bl (!decide (x = .non))) H) := op_notN
theorem ki_add (F : Fm Xc G X N nm) : OpR Xc (inplaceOp .Add) (rI0 fun i j => .int (i + j)) := iop_add
theorem ki_sub (F : Fm Xc G X N nm) : OpR Xc (inplaceOp .Sub) (rI0 fun i j => .int (i - j)) := iop_sub
def addG (i j : Int) : Option DL.D := some (.int (i + j))
theorem ol_iadd : OpL G X (rI0 fun i j => .int (i + j)) (intD addG) := ol_int0 fun i j d e => by cases e; rfl
theorem k_len (F : Fm Xc G X N nm) : CallR Xc (.builtin "len") (fun xs H Q => ∃ x n, xs = [x] ∧ LenV G.K x H n ∧ Q (.int n) H) := by rw [← F.eK]; exact call_len
theorem k_list (F : Fm Xc G X N nm) : CallR Xc (.type "list") (fun xs H Q => ∃ p ys, xs = [.ref p] ∧ (SqL G.K H p ys ∨ SqT G.K H p ys) ∧ ∀ l, H l = none → Q (.ref l) (upd H l (.lst ys))) := by rw [← F.eK]; exact call_list_of
theorem k_tup (F : Fm Xc G X N nm) : CallR Xc (.type "tuple") (fun xs H Q => ∃ p ys, xs = [.ref p] ∧ ((SqL G.K H p ys ∧ ∀ l, H l = none → Q (.ref l) (upd H l (.tup ys))) ∨ (SqT G.K H p ys ∧ Q (.ref p) H))) := by rw [← F.eK]; exact call_tuple_of
theorem k_isi (F : Fm Xc G X N nm) : CallR Xc (.builtin "isinstance") (rIsi G.K) := by rw [← F.eK]; exact call_isi
theorem k_repr (F : Fm Xc G X N nm) : CallR Xc (.builtin "repr") (rRepr G.K) := by rw [← F.eK]; exact call_reprD F.gu (by have := F.un; omega)
/-! ### builtins by name -/
section
variable {a b : Expr} {fa fb : M R} {p : Pos}
theorem j_len (F : Fm Xc G X N nm) (hg : nm.lookup ("len" : Str) = some .globalImplicit) (hm : G.mg ("len" : Str) = none) (ha : PE Xc a (TR G X fa)) (he : starEach [a] Xc.env = [(false, eval a Xc.env)] := by rfl) : PE Xc (.Call (.Name "len" p) [a] [] pos) (TR G X (DL.s1 (rd1 lenM) fa)) :=
  j_b1 (k_len F) ul_len.un F hg hm boot_len ha (by decide) (by decide) he
theorem j_abs (F : Fm Xc G X N nm) (hg : nm.lookup ("abs" : Str) = some .globalImplicit) (hm : G.mg ("abs" : Str) = none) (ha : PE Xc a (TR G X fa)) (he : starEach [a] Xc.env = [(false, eval a Xc.env)] := by rfl) : PE Xc (.Call (.Name "abs" p) [a] [] pos) (TR G X (DL.s1 (rd1 absM) fa)) :=
  j_b1 call_abs ul_abs.un F hg hm boot_abs ha (by decide) (by decide) he
theorem j_repr (F : Fm Xc G X N nm) (hg : nm.lookup ("repr" : Str) = some .globalImplicit) (hm : G.mg ("repr" : Str) = none) (ha : PE Xc a (TR G X fa)) (he : starEach [a] Xc.env = [(false, eval a Xc.env)] := by rfl) : PE Xc (.Call (.Name "repr" p) [a] [] pos) (TR G X (DL.s1 (rd1 reprM) fa)) :=
  j_b1 (k_repr F) ul_repr.un F hg hm boot_repr ha (by decide) (by decide) he
theorem j_list (F : Fm Xc G X N nm) (hg : nm.lookup ("list" : Str) = some .globalImplicit) (hm : G.mg ("list" : Str) = none) (ha : PE Xc a (TR G X fa)) (he : starEach [a] Xc.env = [(false, eval a Xc.env)] := by rfl) : PE Xc (.Call (.Name "list" p) [a] [] pos) (TR G X (DL.s1 (rd1 listM) fa)) :=
  j_t1 (k_list F) ul_list.un F hg hm boot_list ha (by decide) (by decide) he
theorem j_tuple (F : Fm Xc G X N nm) (hg : nm.lookup ("tuple" : Str) = some .globalImplicit) (hm : G.mg ("tuple" : Str) = none) (ha : PE Xc a (TR G X fa)) (he : starEach [a] Xc.env = [(false, eval a Xc.env)] := by rfl) : PE Xc (.Call (.Name "tuple" p) [a] [] pos) (TR G X (DL.s1 (rd1 tupM) fa)) :=
  j_t1 (k_tup F) ul_tup.un F hg hm boot_tuple ha (by decide) (by decide) he
theorem j_int1 (F : Fm Xc G X N nm) (hg : nm.lookup ("int" : Str) = some .globalImplicit) (hm : G.mg ("int" : Str) = none) (ha : PE Xc a (TR G X fa)) (he : starEach [a] Xc.env = [(false, eval a Xc.env)] := by rfl) : PE Xc (.Call (.Name "int" p) [a] [] pos) (TR G X (DL.s1 (rd1 intM) fa)) :=
  j_t1 call_int1 ul_int.un F hg hm boot_int ha (by decide) (by decide) he
theorem j_isinstance (F : Fm Xc G X N nm) (hg : nm.lookup ("isinstance" : Str) = some .globalImplicit) (hm : G.mg ("isinstance" : Str) = none) (ha : PE Xc a (TR G X fa)) (hb : PE Xc b (TR G X fb))
    (he : starEach [a, b] Xc.env = (false, eval a Xc.env) :: starEach [b] Xc.env := by rfl) (he2 : starEach [b] Xc.env = [(false, eval b Xc.env)] := by rfl) (hpl : (backTo pos (starEach [b] Xc.env)).any (·.1) = false := by rfl) : PE Xc (.Call (.Name "isinstance" p) [a, b] [] pos) (TR G X (DL.s2 (rd2 isiM) fa fb)) :=
  j_b2 (k_isi F) ol_isi.op F hg hm boot_isinstance ha hb (by decide) (by decide) he he2 hpl
theorem j_divmod (F : Fm Xc G X N nm) (hg : nm.lookup ("divmod" : Str) = some .globalImplicit) (hm : G.mg ("divmod" : Str) = none) (ha : PE Xc a (TR G X fa)) (hb : PE Xc b (TR G X fb))
    (he : starEach [a, b] Xc.env = (false, eval a Xc.env) :: starEach [b] Xc.env := by rfl) (he2 : starEach [b] Xc.env = [(false, eval b Xc.env)] := by rfl) (hpl : (backTo pos (starEach [b] Xc.env)).any (·.1) = false := by rfl) : PE Xc (.Call (.Name "divmod" p) [a, b] [] pos) (TR G X (DL.s2 (rd2 dmM) fa fb)) :=
  j_b2 call_divmod ol_dm.op F hg hm boot_divmod ha hb (by decide) (by decide) he he2 hpl
theorem j_min (F : Fm Xc G X N nm) (hg : nm.lookup ("min" : Str) = some .globalImplicit) (hm : G.mg ("min" : Str) = none) (ha : PE Xc a (TR G X fa)) (hb : PE Xc b (TR G X fb))
    (he : starEach [a, b] Xc.env = (false, eval a Xc.env) :: starEach [b] Xc.env := by rfl) (he2 : starEach [b] Xc.env = [(false, eval b Xc.env)] := by rfl) (hpl : (backTo pos (starEach [b] Xc.env)).any (·.1) = false := by rfl) : PE Xc (.Call (.Name "min" p) [a, b] [] pos) (TR G X (DL.s2 (rd2 (intD minG)) fa fb)) :=
  j_b2 (call_min2 F.calm) ol_min.op F hg hm boot_min ha hb (by decide) (by decide) he he2 hpl
theorem j_max (F : Fm Xc G X N nm) (hg : nm.lookup ("max" : Str) = some .globalImplicit) (hm : G.mg ("max" : Str) = none) (ha : PE Xc a (TR G X fa)) (hb : PE Xc b (TR G X fb))
    (he : starEach [a, b] Xc.env = (false, eval a Xc.env) :: starEach [b] Xc.env := by rfl) (he2 : starEach [b] Xc.env = [(false, eval b Xc.env)] := by rfl) (hpl : (backTo pos (starEach [b] Xc.env)).any (·.1) = false := by rfl) : PE Xc (.Call (.Name "max" p) [a, b] [] pos) (TR G X (DL.s2 (rd2 (intD maxG)) fa fb)) :=
  j_b2 (call_max2 F.calm) ol_max.op F hg hm boot_max ha hb (by decide) (by decide) he he2 hpl
end
/-! ### methods of lists -/
theorem j_append {o e : Expr} {fo fe : M R} {apos : Pos} (F : Fm Xc G X N nm) (ho : PE Xc o (TR G X fo)) (ha : PE Xc e (TR G X fe)) (hbase : attributeBase o "append" Xc.env (eval o Xc.env) = eval o Xc.env := by rfl)
    (hfew : ((backTo pos (starEach [e] Xc.env)).all (fun x => !x.1) && (backToKw pos (keywordEach [] Xc.env)).all (fun x => x.1.isSome) && decide (([e] : List Expr).length + ([] : List Keyword).length + (if ([] : List Keyword).isEmpty then 0 else 1) < 30)) = true := by rfl)
    (hline : (apos.endLine == pos.line) = true := by rfl) (he : starEach [e] Xc.env = (false, eval e Xc.env) :: starEach [] Xc.env := by rfl) : PE Xc (.Call (.Attribute o "append" apos) [e] [] pos) (TR G X (sM isL appF fo (sCons fe sNil))) :=
  j_lm F PySem.F.plainAttrs_list PySem.F.slot_list_append PySem.F.type_list_append mt_append ms_append ho (j_cons ha j_nil he) hbase hfew hline he (by rfl)
theorem j_pop {o : Expr} {fo : M R} {apos : Pos} (F : Fm Xc G X N nm) (ho : PE Xc o (TR G X fo)) (hbase : attributeBase o "pop" Xc.env (eval o Xc.env) = eval o Xc.env := by rfl) (hline : (apos.endLine == pos.line) = true := by rfl) : PE Xc (.Call (.Attribute o "pop" apos) [] [] pos) (TR G X (sM isL popF fo sNil)) :=
  j_lm0 F PySem.F.plainAttrs_list PySem.F.slot_list_pop PySem.F.type_list_pop mt_pop ms_pop ho hbase hline
end
end DL

/-! More words: *=, sum, any, all, pop(i), extend. -/
namespace DL
open PySem L2 PyProof.Rows
section
variable {G : GD} {X : WX} {Xc : Cx} {N : List Str} {nm : List (Str × NameKind)} {pos : Pos} {σ σ1 : L2.St} {H H1 : Hp} {W W1 : WD} {s s1 : DS} {O O1 : Addr → Prop} {Q : VK}
/-! ### sums -/
def intsOf : List DL.D → Option (List Int)
  | [] => some []
  | .int i :: r => (intsOf r).map (i :: ·)
  | _ :: _ => none
theorem intsOf_rep : ∀ {ds : List DL.D} {vs : List V} {ns : List Int}, RepDs G W H ds vs → intsOf ds = some ns → vs = ns.map V.int
  | [], vs, ns, r, e => by
    cases e
    exact r
  | d :: ds, vs, ns, r, e => by
    rcases RepDs.shape r with ⟨e1, _⟩ | ⟨d', D', v, V', e1, e2, p, q⟩
    · cases e1
    · cases e1
      subst e2
      cases d with
      | int i =>
        have e0 : (intsOf ds).map (i :: ·) = some ns := e
        cases e3 : intsOf ds with
        | none => rw [e3] at e0; cases e0
        | some ms =>
          rw [e3] at e0
          cases e0
          have hv : v = .int i := p
          rw [hv, intsOf_rep q e3]; rfl
      | _ => cases e
def sumM : DL.D → M R
  | .lst ds => (match intsOf ds with
    | some ns => M.pure (.val (.int ns.sum))
    | none => M.bad)
  | _ => M.bad
theorem ul_sum : UnL G X (fun x H Q => rSum G.K [x] H Q) sumM := by
  intro W s σ H x a O Q rp la hO hp
  cases a with
  | lst ds =>
    obtain ⟨p, vs, e, h, r⟩ := la.lst
    subst e
    unfold sumM at hp
    cases e2 : intsOf ds with
    | none => simp only [e2] at hp; exact hp.elim
    | some ns =>
      simp only [e2] at hp
      have ev := intsOf_rep r e2
      subst ev
      exact ⟨p, ns, rfl, .inl h, PostE.val hp rp hO rfl⟩
  | _ => exact hp.elim
theorem k_sum (F : Fm Xc G X N nm) : CallR Xc (.builtin "sum") (rSum G.K) := by rw [← F.eK]; exact cr_sum F.calm
theorem j_sum {a : Expr} {fa : M R} {p : Pos} (F : Fm Xc G X N nm) (hg : nm.lookup ("sum" : Str) = some .globalImplicit) (hm : G.mg ("sum" : Str) = none) (ha : PE Xc a (TR G X fa)) (he : starEach [a] Xc.env = [(false, eval a Xc.env)] := by rfl) : PE Xc (.Call (.Name "sum" p) [a] [] pos) (TR G X (DL.s1 (rd1 sumM) fa)) :=
  j_b1 (k_sum F) ul_sum.un F hg hm (by decide +kernel) ha (by decide) (by decide) he
/-! ### any, all -/
def blsOf : List DL.D → Option (List Bool)
  | [] => some []
  | .bl i :: r => (blsOf r).map (i :: ·)
  | _ :: _ => none
theorem blsOf_rep : ∀ {ds : List DL.D} {vs : List V} {ns : List Bool}, RepDs G W H ds vs → blsOf ds = some ns → vs = ns.map V.bl
  | [], vs, ns, r, e => by
    cases e
    exact r
  | d :: ds, vs, ns, r, e => by
    rcases RepDs.shape r with ⟨e1, _⟩ | ⟨d', D', v, V', e1, e2, p, q⟩
    · cases e1
    · cases e1
      subst e2
      cases d with
      | bl i =>
        have e0 : (blsOf ds).map (i :: ·) = some ns := e
        cases e3 : blsOf ds with
        | none => rw [e3] at e0; cases e0
        | some ms =>
          rw [e3] at e0
          cases e0
          have hv : v = .bl i := p
          rw [hv, blsOf_rep q e3]; rfl
      | _ => cases e
def anyM : DL.D → M R
  | .lst ds => (match blsOf ds with
    | some ns => M.pure (.val (.bl (ns.any id)))
    | none => M.bad)
  | _ => M.bad
def allM : DL.D → M R
  | .lst ds => (match blsOf ds with
    | some ns => M.pure (.val (.bl (ns.all id)))
    | none => M.bad)
  | _ => M.bad
theorem ul_any : UnL G X (fun x H Q => rAny G.K [x] H Q) anyM := by
  intro W s σ H x a O Q rp la hO hp
  cases a with
  | lst ds =>
    obtain ⟨p, vs, e, h, r⟩ := la.lst
    subst e
    unfold anyM at hp
    cases e2 : blsOf ds with
    | none => simp only [e2] at hp; exact hp.elim
    | some ns =>
      simp only [e2] at hp
      have ev := blsOf_rep r e2
      subst ev
      exact ⟨p, ns, rfl, .inl h, PostE.val hp rp hO rfl⟩
  | _ => exact hp.elim
theorem ul_all : UnL G X (fun x H Q => rAll G.K [x] H Q) allM := by
  intro W s σ H x a O Q rp la hO hp
  cases a with
  | lst ds =>
    obtain ⟨p, vs, e, h, r⟩ := la.lst
    subst e
    unfold allM at hp
    cases e2 : blsOf ds with
    | none => simp only [e2] at hp; exact hp.elim
    | some ns =>
      simp only [e2] at hp
      have ev := blsOf_rep r e2
      subst ev
      exact ⟨p, ns, rfl, .inl h, PostE.val hp rp hO rfl⟩
  | _ => exact hp.elim
theorem k_any (F : Fm Xc G X N nm) : CallR Xc (.builtin "any") (rAny G.K) := by rw [← F.eK]; exact cr_any F.calm
theorem k_all (F : Fm Xc G X N nm) : CallR Xc (.builtin "all") (rAll G.K) := by rw [← F.eK]; exact cr_all F.calm
theorem j_any {a : Expr} {fa : M R} {p : Pos} (F : Fm Xc G X N nm) (hg : nm.lookup ("any" : Str) = some .globalImplicit) (hm : G.mg ("any" : Str) = none) (ha : PE Xc a (TR G X fa)) (he : starEach [a] Xc.env = [(false, eval a Xc.env)] := by rfl) : PE Xc (.Call (.Name "any" p) [a] [] pos) (TR G X (DL.s1 (rd1 anyM) fa)) :=
  j_b1 (k_any F) ul_any.un F hg hm (by decide +kernel) ha (by decide) (by decide) he
theorem j_all {a : Expr} {fa : M R} {p : Pos} (F : Fm Xc G X N nm) (hg : nm.lookup ("all" : Str) = some .globalImplicit) (hm : G.mg ("all" : Str) = none) (ha : PE Xc a (TR G X fa)) (he : starEach [a] Xc.env = [(false, eval a Xc.env)] := by rfl) : PE Xc (.Call (.Name "all" p) [a] [] pos) (TR G X (DL.s1 (rd1 allM) fa)) :=
  j_b1 (k_all F) ul_all.un F hg hm (by decide +kernel) ha (by decide) (by decide) he
/-! ### pop(i) -/
def popAtU (i : Int) : DL.D → Option (DL.D × DL.D)
  | .lst cs => if -9223372036854775808 ≤ i ∧ i < 9223372036854775808 then (seqIndex? i cs.length).bind fun k => (cs[k]?).map fun y => (.lst (cs.eraseIdx k), y) else none
  | _ => none
def popAtF (ro : R) (ds : List DL.D) : M R := match ds with
  | [.int i] => updR ro (popAtU i)
  | _ => M.bad
theorem ms_popAt : MtS G X rPopAt popAtF := by
  intro W s σ H x vs ro ds O Q rp rr rd hO hp
  unfold popAtF at hp
  cases ds with
  | nil => exact hp.elim
  | cons d ds => cases ds with
    | cons _ _ => cases d <;> exact hp.elim
    | nil => cases d with
      | int i =>
        have e0 : vs = [V.int i] := RepDs.ints_inv (ns := [i]) rd
        subst e0
        obtain ⟨p, c, c', a, e1, rc, ef, q⟩ := upd_post rp rr hO hp
        subst e1
        unfold popAtU at ef
        cases c with
        | lst cs =>
          simp only [] at ef
          by_cases cb : -9223372036854775808 ≤ i ∧ i < 9223372036854775808
          · rw [if_pos cb] at ef
            cases ek : seqIndex? i cs.length with
            | none => rw [ek] at ef; cases ef
            | some k =>
              rw [ek] at ef
              simp only [Option.bind] at ef
              cases eg : cs[k]? with
              | none => rw [eg] at ef; cases ef
              | some z =>
                rw [eg] at ef
                cases ef
                obtain ⟨us, h3, h4⟩ := rc
                obtain ⟨u, hu, ru⟩ := h4.get eg
                exact ⟨p, us, i, k, u, rfl, rfl, h3, by have := cb.1; omega, by have := cb.2; omega, by rw [← h4.length]; exact ek, hu, q (.lst (us.eraseIdx k)) (fun _ z => by cases z) (fun _ _ _ z => by cases z) (fun sy => ⟨us.eraseIdx k, upd_same, (h4.stay sy).eraseIdx k⟩) u fun sy => ru.stay sy⟩
          · rw [if_neg cb] at ef; cases ef
        | _ => cases ef
      | _ => exact hp.elim
theorem j_popAt {o e : Expr} {fo fe : M R} {apos : Pos} (F : Fm Xc G X N nm) (ho : PE Xc o (TR G X fo)) (ha : PE Xc e (TR G X fe)) (hbase : attributeBase o "pop" Xc.env (eval o Xc.env) = eval o Xc.env := by rfl)
    (hfew : ((backTo pos (starEach [e] Xc.env)).all (fun x => !x.1) && (backToKw pos (keywordEach [] Xc.env)).all (fun x => x.1.isSome) && decide (([e] : List Expr).length + ([] : List Keyword).length + (if ([] : List Keyword).isEmpty then 0 else 1) < 30)) = true := by rfl)
    (hline : (apos.endLine == pos.line) = true := by rfl) (he : starEach [e] Xc.env = (false, eval e Xc.env) :: starEach [] Xc.env := by rfl) : PE Xc (.Call (.Attribute o "pop" apos) [e] [] pos) (TR G X (sM isL popAtF fo (sCons fe sNil))) :=
  j_lm F PySem.F.plainAttrs_list PySem.F.slot_list_pop PySem.F.type_list_pop mt_popAt ms_popAt ho (j_cons ha j_nil he) hbase hfew hline he (by rfl)
/-! ### *= -/
theorem iop_mulW : OpR Xc (inplaceOp .Mult) (rI CMulW fun i j => .int (i * j)) := opI fun _ _ _ _ _ _ _ hc q => imul_int q hc.ok
theorem ki_mul (F : Fm Xc G X N nm) : OpR Xc (inplaceOp .Mult) (rI CMulW fun i j => .int (i * j)) := iop_mulW
theorem ol_imul : OpL G X (rI CMulW fun i j => .int (i * j)) (intD mulG) := ol_int fun i j d e => by
  unfold mulG at e
  split at e
  · rename_i c; cases e; exact ⟨c, rfl⟩
  · cases e
/-! ### three names at once, of which some are captured -/
theorem sw3_llc {x y z : Str} {px py pz pt pt2 : Pos} {a b c : Expr} {kt k2} (F : Fm Xc G X N nm) (hx : nm.lookup x = some .local) (hy : nm.lookup y = some .local) (hz : nm.lookup z = some .cell) (h1 : ([a, b, c] : List Expr).any isStar = false) :
    swappedStores [.Tuple [.Name x px, .Name y py, .Name z pz] kt pt] (.Tuple [a, b, c] k2 pt2) Xc.env = pure none := by
  have kx : Xc.env.kindOf x = some .local := by show Xc.env.scope.names.lookup x = _; rw [F.eS]; exact hx
  have ky : Xc.env.kindOf y = some .local := by show Xc.env.scope.names.lookup y = _; rw [F.eS]; exact hy
  have kz : Xc.env.kindOf z = some .cell := by show Xc.env.scope.names.lookup z = _; rw [F.eS]; exact hz
  have kb : Xc.env.blockKind = .function := by unfold Env.blockKind; rw [F.eF]; rfl
  have hp : (px.line == px.line) = true := beq_self_eq_true _
  unfold swappedStores
  simp only [kb, kx, ky, kz, Expr.pos, hp, List.filterMap_cons, List.filterMap_nil, List.head?_cons, Option.map_some, Option.getD_some, Bool.and_true, beq_self_eq_true, if_true, List.length_cons, List.length_nil]
  have kc : (some NameKind.cell == some NameKind.local) = false := by decide
  simp only [kc, Bool.false_and, Bool.false_eq_true, if_false]
  refine (if_neg (by decide)).trans ((if_neg fun q => ?_).trans ?_)
  · exact Bool.false_ne_true (h1.symm.trans q)
  · first
    | rfl
    | (by_cases c : (py.line == px.line) = true <;> by_cases c2 : (pz.line == px.line) = true
       · simp only [c, c2]; rfl
       · have c2' := Bool.not_eq_true _ ▸ c2
         simp only [c, c2']; rfl
       · have c' := Bool.not_eq_true _ ▸ c
         simp only [c', c2]; rfl
       · have c' := Bool.not_eq_true _ ▸ c
         have c2' := Bool.not_eq_true _ ▸ c2
         simp only [c', c2']; rfl)
theorem sw3_lcl {x y z : Str} {px py pz pt pt2 : Pos} {a b c : Expr} {kt k2} (F : Fm Xc G X N nm) (hx : nm.lookup x = some .local) (hy : nm.lookup y = some .cell) (hz : nm.lookup z = some .local) (h1 : ([a, b, c] : List Expr).any isStar = false) :
    swappedStores [.Tuple [.Name x px, .Name y py, .Name z pz] kt pt] (.Tuple [a, b, c] k2 pt2) Xc.env = pure none := by
  have kx : Xc.env.kindOf x = some .local := by show Xc.env.scope.names.lookup x = _; rw [F.eS]; exact hx
  have ky : Xc.env.kindOf y = some .cell := by show Xc.env.scope.names.lookup y = _; rw [F.eS]; exact hy
  have kz : Xc.env.kindOf z = some .local := by show Xc.env.scope.names.lookup z = _; rw [F.eS]; exact hz
  have kb : Xc.env.blockKind = .function := by unfold Env.blockKind; rw [F.eF]; rfl
  have hp : (px.line == px.line) = true := beq_self_eq_true _
  unfold swappedStores
  simp only [kb, kx, ky, kz, Expr.pos, hp, List.filterMap_cons, List.filterMap_nil, List.head?_cons, Option.map_some, Option.getD_some, Bool.and_true, beq_self_eq_true, if_true, List.length_cons, List.length_nil]
  have kc : (some NameKind.cell == some NameKind.local) = false := by decide
  simp only [kc, Bool.false_and, Bool.false_eq_true, if_false]
  refine (if_neg (by decide)).trans ((if_neg fun q => ?_).trans ?_)
  · exact Bool.false_ne_true (h1.symm.trans q)
  · first
    | rfl
    | (by_cases c : (py.line == px.line) = true <;> by_cases c2 : (pz.line == px.line) = true
       · simp only [c, c2]; rfl
       · have c2' := Bool.not_eq_true _ ▸ c2
         simp only [c, c2']; rfl
       · have c' := Bool.not_eq_true _ ▸ c
         simp only [c', c2]; rfl
       · have c' := Bool.not_eq_true _ ▸ c
         have c2' := Bool.not_eq_true _ ▸ c2
         simp only [c', c2']; rfl)
theorem sw3_lcc {x y z : Str} {px py pz pt pt2 : Pos} {a b c : Expr} {kt k2} (F : Fm Xc G X N nm) (hx : nm.lookup x = some .local) (hy : nm.lookup y = some .cell) (hz : nm.lookup z = some .cell) (h1 : ([a, b, c] : List Expr).any isStar = false) :
    swappedStores [.Tuple [.Name x px, .Name y py, .Name z pz] kt pt] (.Tuple [a, b, c] k2 pt2) Xc.env = pure none := by
  have kx : Xc.env.kindOf x = some .local := by show Xc.env.scope.names.lookup x = _; rw [F.eS]; exact hx
  have ky : Xc.env.kindOf y = some .cell := by show Xc.env.scope.names.lookup y = _; rw [F.eS]; exact hy
  have kz : Xc.env.kindOf z = some .cell := by show Xc.env.scope.names.lookup z = _; rw [F.eS]; exact hz
  have kb : Xc.env.blockKind = .function := by unfold Env.blockKind; rw [F.eF]; rfl
  have hp : (px.line == px.line) = true := beq_self_eq_true _
  unfold swappedStores
  simp only [kb, kx, ky, kz, Expr.pos, hp, List.filterMap_cons, List.filterMap_nil, List.head?_cons, Option.map_some, Option.getD_some, Bool.and_true, beq_self_eq_true, if_true, List.length_cons, List.length_nil]
  have kc : (some NameKind.cell == some NameKind.local) = false := by decide
  simp only [kc, Bool.false_and, Bool.false_eq_true, if_false]
  refine (if_neg (by decide)).trans ((if_neg fun q => ?_).trans ?_)
  · exact Bool.false_ne_true (h1.symm.trans q)
  · first
    | rfl
    | (by_cases c : (py.line == px.line) = true <;> by_cases c2 : (pz.line == px.line) = true
       · simp only [c, c2]; rfl
       · have c2' := Bool.not_eq_true _ ▸ c2
         simp only [c, c2']; rfl
       · have c' := Bool.not_eq_true _ ▸ c
         simp only [c', c2]; rfl
       · have c' := Bool.not_eq_true _ ▸ c
         have c2' := Bool.not_eq_true _ ▸ c2
         simp only [c', c2']; rfl)
theorem sw3_cll {x y z : Str} {px py pz pt pt2 : Pos} {a b c : Expr} {kt k2} (F : Fm Xc G X N nm) (hx : nm.lookup x = some .cell) (hy : nm.lookup y = some .local) (hz : nm.lookup z = some .local) (h1 : ([a, b, c] : List Expr).any isStar = false) :
    swappedStores [.Tuple [.Name x px, .Name y py, .Name z pz] kt pt] (.Tuple [a, b, c] k2 pt2) Xc.env = pure none := by
  have kx : Xc.env.kindOf x = some .cell := by show Xc.env.scope.names.lookup x = _; rw [F.eS]; exact hx
  have ky : Xc.env.kindOf y = some .local := by show Xc.env.scope.names.lookup y = _; rw [F.eS]; exact hy
  have kz : Xc.env.kindOf z = some .local := by show Xc.env.scope.names.lookup z = _; rw [F.eS]; exact hz
  have kb : Xc.env.blockKind = .function := by unfold Env.blockKind; rw [F.eF]; rfl
  have hp : (px.line == px.line) = true := beq_self_eq_true _
  unfold swappedStores
  simp only [kb, kx, ky, kz, Expr.pos, hp, List.filterMap_cons, List.filterMap_nil, List.head?_cons, Option.map_some, Option.getD_some, Bool.and_true, beq_self_eq_true, if_true, List.length_cons, List.length_nil]
  have kc : (some NameKind.cell == some NameKind.local) = false := by decide
  simp only [kc, Bool.false_and, Bool.false_eq_true, if_false]
  refine (if_neg (by decide)).trans ((if_neg fun q => ?_).trans ?_)
  · exact Bool.false_ne_true (h1.symm.trans q)
  · first
    | rfl
    | (by_cases c : (py.line == px.line) = true <;> by_cases c2 : (pz.line == px.line) = true
       · simp only [c, c2]; rfl
       · have c2' := Bool.not_eq_true _ ▸ c2
         simp only [c, c2']; rfl
       · have c' := Bool.not_eq_true _ ▸ c
         simp only [c', c2]; rfl
       · have c' := Bool.not_eq_true _ ▸ c
         have c2' := Bool.not_eq_true _ ▸ c2
         simp only [c', c2']; rfl)
theorem sw3_clc {x y z : Str} {px py pz pt pt2 : Pos} {a b c : Expr} {kt k2} (F : Fm Xc G X N nm) (hx : nm.lookup x = some .cell) (hy : nm.lookup y = some .local) (hz : nm.lookup z = some .cell) (h1 : ([a, b, c] : List Expr).any isStar = false) :
    swappedStores [.Tuple [.Name x px, .Name y py, .Name z pz] kt pt] (.Tuple [a, b, c] k2 pt2) Xc.env = pure none := by
  have kx : Xc.env.kindOf x = some .cell := by show Xc.env.scope.names.lookup x = _; rw [F.eS]; exact hx
  have ky : Xc.env.kindOf y = some .local := by show Xc.env.scope.names.lookup y = _; rw [F.eS]; exact hy
  have kz : Xc.env.kindOf z = some .cell := by show Xc.env.scope.names.lookup z = _; rw [F.eS]; exact hz
  have kb : Xc.env.blockKind = .function := by unfold Env.blockKind; rw [F.eF]; rfl
  have hp : (px.line == px.line) = true := beq_self_eq_true _
  unfold swappedStores
  simp only [kb, kx, ky, kz, Expr.pos, hp, List.filterMap_cons, List.filterMap_nil, List.head?_cons, Option.map_some, Option.getD_some, Bool.and_true, beq_self_eq_true, if_true, List.length_cons, List.length_nil]
  have kc : (some NameKind.cell == some NameKind.local) = false := by decide
  simp only [kc, Bool.false_and, Bool.false_eq_true, if_false]
  refine (if_neg (by decide)).trans ((if_neg fun q => ?_).trans ?_)
  · exact Bool.false_ne_true (h1.symm.trans q)
  · first
    | rfl
    | (by_cases c : (py.line == px.line) = true <;> by_cases c2 : (pz.line == px.line) = true
       · simp only [c, c2]; rfl
       · have c2' := Bool.not_eq_true _ ▸ c2
         simp only [c, c2']; rfl
       · have c' := Bool.not_eq_true _ ▸ c
         simp only [c', c2]; rfl
       · have c' := Bool.not_eq_true _ ▸ c
         have c2' := Bool.not_eq_true _ ▸ c2
         simp only [c', c2']; rfl)
theorem sw3_ccl {x y z : Str} {px py pz pt pt2 : Pos} {a b c : Expr} {kt k2} (F : Fm Xc G X N nm) (hx : nm.lookup x = some .cell) (hy : nm.lookup y = some .cell) (hz : nm.lookup z = some .local) (h1 : ([a, b, c] : List Expr).any isStar = false) :
    swappedStores [.Tuple [.Name x px, .Name y py, .Name z pz] kt pt] (.Tuple [a, b, c] k2 pt2) Xc.env = pure none := by
  have kx : Xc.env.kindOf x = some .cell := by show Xc.env.scope.names.lookup x = _; rw [F.eS]; exact hx
  have ky : Xc.env.kindOf y = some .cell := by show Xc.env.scope.names.lookup y = _; rw [F.eS]; exact hy
  have kz : Xc.env.kindOf z = some .local := by show Xc.env.scope.names.lookup z = _; rw [F.eS]; exact hz
  have kb : Xc.env.blockKind = .function := by unfold Env.blockKind; rw [F.eF]; rfl
  have hp : (px.line == px.line) = true := beq_self_eq_true _
  unfold swappedStores
  simp only [kb, kx, ky, kz, Expr.pos, hp, List.filterMap_cons, List.filterMap_nil, List.head?_cons, Option.map_some, Option.getD_some, Bool.and_true, beq_self_eq_true, if_true, List.length_cons, List.length_nil]
  have kc : (some NameKind.cell == some NameKind.local) = false := by decide
  simp only [kc, Bool.false_and, Bool.false_eq_true, if_false]
  refine (if_neg (by decide)).trans ((if_neg fun q => ?_).trans ?_)
  · exact Bool.false_ne_true (h1.symm.trans q)
  · first
    | rfl
    | (by_cases c : (py.line == px.line) = true <;> by_cases c2 : (pz.line == px.line) = true
       · simp only [c, c2]; rfl
       · have c2' := Bool.not_eq_true _ ▸ c2
         simp only [c, c2']; rfl
       · have c' := Bool.not_eq_true _ ▸ c
         simp only [c', c2]; rfl
       · have c' := Bool.not_eq_true _ ▸ c
         have c2' := Bool.not_eq_true _ ▸ c2
         simp only [c', c2']; rfl)
theorem sw3_ccc {x y z : Str} {px py pz pt pt2 : Pos} {a b c : Expr} {kt k2} (F : Fm Xc G X N nm) (hx : nm.lookup x = some .cell) (hy : nm.lookup y = some .cell) (hz : nm.lookup z = some .cell) (h1 : ([a, b, c] : List Expr).any isStar = false) :
    swappedStores [.Tuple [.Name x px, .Name y py, .Name z pz] kt pt] (.Tuple [a, b, c] k2 pt2) Xc.env = pure none := by
  have kx : Xc.env.kindOf x = some .cell := by show Xc.env.scope.names.lookup x = _; rw [F.eS]; exact hx
  have ky : Xc.env.kindOf y = some .cell := by show Xc.env.scope.names.lookup y = _; rw [F.eS]; exact hy
  have kz : Xc.env.kindOf z = some .cell := by show Xc.env.scope.names.lookup z = _; rw [F.eS]; exact hz
  have kb : Xc.env.blockKind = .function := by unfold Env.blockKind; rw [F.eF]; rfl
  have hp : (px.line == px.line) = true := beq_self_eq_true _
  unfold swappedStores
  simp only [kb, kx, ky, kz, Expr.pos, hp, List.filterMap_cons, List.filterMap_nil, List.head?_cons, Option.map_some, Option.getD_some, Bool.and_true, beq_self_eq_true, if_true, List.length_cons, List.length_nil]
  have kc : (some NameKind.cell == some NameKind.local) = false := by decide
  simp only [kc, Bool.false_and, Bool.false_eq_true, if_false]
  refine (if_neg (by decide)).trans ((if_neg fun q => ?_).trans ?_)
  · exact Bool.false_ne_true (h1.symm.trans q)
  · first
    | rfl
    | (by_cases c : (py.line == px.line) = true <;> by_cases c2 : (pz.line == px.line) = true
       · simp only [c, c2]; rfl
       · have c2' := Bool.not_eq_true _ ▸ c2
         simp only [c, c2']; rfl
       · have c' := Bool.not_eq_true _ ▸ c
         simp only [c', c2]; rfl
       · have c' := Bool.not_eq_true _ ▸ c
         have c2' := Bool.not_eq_true _ ▸ c2
         simp only [c', c2']; rfl)
/-! ### extend -/
def rExtR : V → List V → Hp → VK → Prop := fun x vs H Q => ∃ l b xs zs, x = .ref l ∧ vs = [.ref b] ∧ H l = some (.lst xs) ∧ Rd H b (.lst zs) ∧ xs.length + zs.length ≤ sizeLine ∧ Q .non (upd H l (.lst (xs ++ zs)))
theorem mt_extR : MtM Xc "list.extend" rExtR := by
  intro pins s σ H x vs v us Q I rx rv h
  obtain ⟨l, b, xs, zs, rfl, rfl, hH, hB, hz, q⟩ := h
  cases rx
  obtain ⟨u, rfl, ru⟩ := rv.one
  cases ru
  obtain ⟨z, its, n, r, hl, e⟩ := I.lstM hH
  obtain ⟨z2, its2, n2, r2, e2⟩ := hB.ok I.hok
  have hl2 := r2.length
  have hsz : its.toArray.size + its2.toArray.size ≤ sizeLine := by rw [List.size_toArray, List.size_toArray]; omega
  have hlong : ¬ (!its.toArray.isEmpty && Builtin.List.listTooLong (its.toArray.size + its2.toArray.size)) = true := by
    rw [notLongL hsz, Bool.and_false]
    exact Bool.false_ne_true
  refine call_meets PySem.F.slot_list_extend ⟨_, e, rfl⟩ PySem.F.entry_list_extend (PySem.F.args_list_extend_2 _ _)
    (AutoSeq1.list_extend_list_list_0 l its.toArray n b its2.toArray n2 hlong (by rw [List.size_toArray]; omega) (by omega)) ⟨e, e2, ?_⟩
  refine ⟨.non, _, I.lset (its' := its ++ its2) hH e (by simp) (r.append r2) ?_, rfl, q⟩
  rw [List.length_append]
  omega
def extU (zs : List DL.D) : DL.D → Option (DL.D × DL.D)
  | .lst cs => if cs.length + zs.length ≤ lim then some (.lst (cs ++ zs), .non) else none
  | _ => none
def extF (ro : R) (ds : List DL.D) : M R := match ds with
  | [.lst zs] => updR ro (extU zs)
  | _ => M.bad
theorem ms_extR : MtS G X rExtR extF := by
  intro W s σ H x vs ro ds O Q rp rr rd hO hp
  unfold extF at hp
  cases ds with
  | nil => exact hp.elim
  | cons d ds => cases ds with
    | cons _ _ => cases d <;> exact hp.elim
    | nil => cases d with
      | lst zs =>
        obtain ⟨y, w, e, h1, h2⟩ := rd.uncons
        have e2 : w = [] := h2
        subst e2 e
        obtain ⟨b, ws, rfl, fz, hb, rb⟩ := (by simpa only [RepD] using h1 : ∃ p vs, y = .ref p ∧ W.fz p ∧ Rd H p (.lst vs) ∧ RepDs G W H zs vs)
        obtain ⟨p, c, c', a, e1, rc, ef, q⟩ := upd_post rp rr hO hp
        subst e1
        unfold extU at ef
        cases c with
        | lst cs =>
          simp only [] at ef
          by_cases cl : cs.length + zs.length ≤ lim
          · rw [if_pos cl] at ef
            cases ef
            obtain ⟨us, h3, h4⟩ := rc
            exact ⟨p, b, us, ws, rfl, rfl, h3, hb, by rw [← h4.length, ← rb.length]; exact lim_le cl, q (.lst (us ++ ws)) (fun _ z => by cases z) (fun _ _ _ z => by cases z) (fun sy => ⟨us ++ ws, upd_same, (h4.stay sy).append (rb.stay sy)⟩) .non fun _ => rfl⟩
          · rw [if_neg cl] at ef; cases ef
        | _ => cases ef
      | _ => exact hp.elim
theorem j_extend {o e : Expr} {fo fe : M R} {apos : Pos} (F : Fm Xc G X N nm) (ho : PE Xc o (TR G X fo)) (ha : PE Xc e (TR G X fe)) (hbase : attributeBase o "extend" Xc.env (eval o Xc.env) = eval o Xc.env := by rfl)
    (hfew : ((backTo pos (starEach [e] Xc.env)).all (fun x => !x.1) && (backToKw pos (keywordEach [] Xc.env)).all (fun x => x.1.isSome) && decide (([e] : List Expr).length + ([] : List Keyword).length + (if ([] : List Keyword).isEmpty then 0 else 1) < 30)) = true := by rfl)
    (hline : (apos.endLine == pos.line) = true := by rfl) (he : starEach [e] Xc.env = (false, eval e Xc.env) :: starEach [] Xc.env := by rfl) : PE Xc (.Call (.Attribute o "extend" apos) [e] [] pos) (TR G X (sM isL extF fo (sCons fe sNil))) :=
  j_lm F PySem.F.plainAttrs_list PySem.F.slot_list_extend PySem.F.type_list_extend mt_extR ms_extR ho (j_cons ha j_nil he) hbase hfew hline he (by rfl)
/-! ### two names at once, of constants -/
theorem sw2k {x y : Str} {px py pt pt2 : Pos} {a b : Expr} {kt k2} (F : Fm Xc G X N nm) (hx : nm.lookup x = some .local) (hy : nm.lookup y = some .local) (hl : (py.line == px.line) = true) (hne : ([x, y] : List Str).eraseDups.length = 2)
    (h1 : ([a, b] : List Expr).any isStar = false) (h2 : ([a, b] : List Expr).all (foldedForSure 8) = true) :
    swappedStores [.Tuple [.Name x px, .Name y py] kt pt] (.Tuple [a, b] k2 pt2) Xc.env = pure none := by
  have kx : Xc.env.kindOf x = some .local := by show Xc.env.scope.names.lookup x = _; rw [F.eS]; exact hx
  have ky : Xc.env.kindOf y = some .local := by show Xc.env.scope.names.lookup y = _; rw [F.eS]; exact hy
  have kb : Xc.env.blockKind = .function := by unfold Env.blockKind; rw [F.eF]; rfl
  have hp : (px.line == px.line) = true := beq_self_eq_true _
  unfold swappedStores
  simp only [kb, h2, kx, ky, Expr.pos, hl, hp, List.filterMap_cons, List.filterMap_nil, List.head?_cons, Option.map_some, Option.getD_some, Bool.and_true, beq_self_eq_true, if_true, hne, List.length_cons, List.length_nil]
  refine (if_neg (by decide)).trans ((if_neg fun q => ?_).trans ?_)
  · exact Bool.false_ne_true (h1.symm.trans q)
  · first
    | rfl
    | exact (if_neg (by decide)).trans rfl
    | exact ite_self _
end
end DL

/-! Defs with keyword-only parameters and their defaults. -/
namespace DL
open PySem L2 PyProof.Rows
/-- a def of the module, however it is bound -/
structure HasN (P : Program) (w : World) (K : PySem.W.Frag) (mg : Str → Option Value) (base : Heap) (G : GD) (k : Nat) (x : Str) (f : Addr) (fd : FuncData) (ps : List Str) (φ : List DL.D → M R) : Prop where
  fn : FnG P w K mg base k f fd ps (spD G ps.length φ)
  mg : mg x = some (.ref f)
  kp : PySem.W.keepIn K (.ref f) = true
/-- one way of binding: values, readings, data -/
structure KBd (K : PySem.W.Frag) (fd : FuncData) (ps : List Str) (n : Nat) (ks : List Str) (gv : List Value → List Value → List Value) (gV : List V → List V → List V) (gD : List DL.D → List DL.D → List DL.D) : Prop where
  to : ∀ (s : Shared) (us ws : List Value), K.In s.heap → us.length = n → ws.length = ks.length → BindsTo s fd ⟨us, ks.zip ws⟩ (ps.zip (gv us ws))
  rel : ∀ {vs : List V} {us : List Value} {zs : List V} {ws : List Value}, Vals vs us → Vals zs ws → Vals (gV vs zs) (gv us ws)
  rep : ∀ {G : GD} {W : WD} {H : Hp} {ds es : List DL.D} {vs zs : List V}, RepDs G W H ds vs → RepDs G W H es zs → RepDs G W H (gD ds es) (gV vs zs)
def KBx (K : PySem.W.Frag) (fd : FuncData) (ps : List Str) (n : Nat) (ks : List Str) (gD : List DL.D → List DL.D → List DL.D) : Prop := ∃ gv gV, KBd K fd ps n ks gv gV gD
/-- scalars stand for themselves everywhere -/
theorem scs_rep {G : GD} {W : WD} {H : Hp} : ∀ {ds : List DL.D} {vs : List V}, ds.map scV = vs.map some → RepDs G W H ds vs
  | [], [], _ => rfl
  | [], _ :: _, h => by cases h
  | _ :: _, [], h => by cases h
  | d :: ds, v :: vs, h => by
    rw [List.map_cons, List.map_cons] at h
    injection h with h1 h2
    exact .cons (scV_rep h1) (scs_rep h2)
theorem kbx_of {K : PySem.W.Frag} {x qual : Str} {params : Arguments} {body : List Stmt} {scope : Scope} {kws : List (Str × V)} {f : Addr} {fd : FuncData} {ps ks : List Str} {n : Nat} {ms : List (Str × V)} {mD : List DL.D} {g : {α : Type} → List α → List α → List α → List α} (F : FunD K x qual params body scope [] kws f fd)
    (hk : kws ≠ []) (hms : ∀ q ∈ ms, q ∈ kws) (hm : mD.map scV = (ms.map (·.2)).map some)
    (h : ∀ (D : Addr) (doc pm : Value) (an : Option Addr) (cdv ct : Value) (us mv ws : List Value), us.length = n → mv.length = ms.length → ws.length = ks.length →
      KwChain D ((ms.map (·.1)).zip mv) (bindArgs (PySem.W.fnOf x qual params body scope .none (.ref D) doc pm an cdv ct) ⟨us, ks.zip ws⟩) (ps.zip (g mv us ws)))
    (h1 : ∀ {ma : List V} {mb : List Value} {vs : List V} {us : List Value} {zs : List V} {ws : List Value}, Vals ma mb → Vals vs us → Vals zs ws → Vals (g ma vs zs) (g mb us ws))
    (h2 : ∀ {G : GD} {W : WD} {H : Hp} {ma : List DL.D} {mb : List V} {ds es : List DL.D} {vs zs : List V}, RepDs G W H ma mb → RepDs G W H ds vs → RepDs G W H es zs → RepDs G W H (g ma ds es) (g mb vs zs)) : KBx K fd ps n ks (g mD) := by
  obtain ⟨oc, od, dV, kV, doc, pm, an, cdv, ct, osl, rfl, lk, hcd, hD, hK⟩ := F.ex
  rcases hD with ⟨_, rfl⟩ | ⟨e, _⟩
  · rcases hK with e | ⟨D, rfl, hq⟩
    · exact absurd e hk
    · obtain ⟨mv, hl, rk, hks⟩ := kwd_vals (ms := ms) fun q hm => hq q (hms q hm)
      refine ⟨g mv, g (ms.map (·.2)), ⟨fun s us ws X l1 l2 => ?_, fun r1 r2 => h1 rk r1 r2, fun r1 r2 => h2 (scs_rep hm) r1 r2⟩⟩
      exact BindsTo.of_looks fun M => KwChain.looks X hks (h D doc pm an cdv ct us mv ws l1 hl l2)
  · exact absurd rfl e
/-! ### who stands where: 0 a default, 1 a written value, 2 a keyword's -/
def gsel {α : Type} (a b c : List α) (p : Nat × Nat) : Option α := match p.1 with
  | 0 => a[p.2]?
  | 1 => b[p.2]?
  | _ => c[p.2]?
def gpick (spec : List (Nat × Nat)) (n0 n1 n2 : Nat) {α : Type} (a b c : List α) : List α :=
  if a.length = n0 ∧ b.length = n1 ∧ c.length = n2 then spec.filterMap (gsel a b c) else []
theorem vals_at : ∀ {vs : List V} {us : List Value}, Vals vs us → ∀ i : Nat, (vs[i]? = none ∧ us[i]? = none) ∨ ∃ v u, vs[i]? = some v ∧ us[i]? = some u ∧ RelV v u
  | _, _, .nil, i => .inl ⟨rfl, rfl⟩
  | _, _, .cons h r, 0 => .inr ⟨_, _, rfl, rfl, h⟩
  | _, _, .cons h r, i + 1 => vals_at r i
theorem reps_at {G : GD} {W : WD} {H : Hp} {ds : List DL.D} {vs : List V} (r : RepDs G W H ds vs) (i : Nat) : (ds[i]? = none ∧ vs[i]? = none) ∨ ∃ d v, ds[i]? = some d ∧ vs[i]? = some v ∧ RepD G W H d v := by
  cases e : ds[i]? with
  | none =>
    have hl := r.length
    exact .inl ⟨rfl, List.getElem?_eq_none (by rw [← hl]; exact List.getElem?_eq_none_iff.mp e)⟩
  | some d =>
    obtain ⟨v, hv, h⟩ := r.get e
    exact .inr ⟨d, v, rfl, hv, h⟩
theorem gsel_vals {ma : List V} {mb : List Value} {vs : List V} {us : List Value} {zs : List V} {ws : List Value} (r0 : Vals ma mb) (r1 : Vals vs us) (r2 : Vals zs ws) (p : Nat × Nat) : (gsel ma vs zs p = none ∧ gsel mb us ws p = none) ∨ ∃ v u, gsel ma vs zs p = some v ∧ gsel mb us ws p = some u ∧ RelV v u := by
  unfold gsel
  split
  · exact vals_at r0 _
  · exact vals_at r1 _
  · exact vals_at r2 _
theorem gsel_reps {G : GD} {W : WD} {H : Hp} {ma : List DL.D} {mb : List V} {ds es : List DL.D} {vs zs : List V} (r0 : RepDs G W H ma mb) (r1 : RepDs G W H ds vs) (r2 : RepDs G W H es zs) (p : Nat × Nat) : (gsel ma ds es p = none ∧ gsel mb vs zs p = none) ∨ ∃ v u, gsel ma ds es p = some v ∧ gsel mb vs zs p = some u ∧ RepD G W H v u := by
  unfold gsel
  split
  · exact reps_at r0 _
  · exact reps_at r1 _
  · exact reps_at r2 _
theorem gpick_vals {spec : List (Nat × Nat)} {n0 n1 n2 : Nat} {ma : List V} {mb : List Value} {vs : List V} {us : List Value} {zs : List V} {ws : List Value} (r0 : Vals ma mb) (r1 : Vals vs us) (r2 : Vals zs ws) : Vals (gpick spec n0 n1 n2 ma vs zs) (gpick spec n0 n1 n2 mb us ws) := by
  have l0 := r0.length
  have l1 := r1.length
  have l2 := r2.length
  unfold gpick
  rw [l0, l1, l2]
  split
  · induction spec with
    | nil => exact .nil
    | cons p spec ih =>
      rcases gsel_vals r0 r1 r2 p with ⟨e1, e2⟩ | ⟨v, u, e1, e2, h⟩
      · rw [List.filterMap_cons_none e1, List.filterMap_cons_none e2]; exact ih
      · rw [List.filterMap_cons_some e1, List.filterMap_cons_some e2]; exact .cons h ih
  · exact .nil
theorem gpick_reps {spec : List (Nat × Nat)} {n0 n1 n2 : Nat} {G : GD} {W : WD} {H : Hp} {ma : List DL.D} {mb : List V} {ds es : List DL.D} {vs zs : List V} (r0 : RepDs G W H ma mb) (r1 : RepDs G W H ds vs) (r2 : RepDs G W H es zs) : RepDs G W H (gpick spec n0 n1 n2 ma ds es) (gpick spec n0 n1 n2 mb vs zs) := by
  have l0 := r0.length
  have l1 := r1.length
  have l2 := r2.length
  unfold gpick
  rw [l0, l1, l2]
  split
  · induction spec with
    | nil => exact .nil
    | cons p spec ih =>
      rcases gsel_reps r0 r1 r2 p with ⟨e1, e2⟩ | ⟨v, u, e1, e2, h⟩
      · rw [List.filterMap_cons_none e1, List.filterMap_cons_none e2]; exact ih
      · rw [List.filterMap_cons_some e1, List.filterMap_cons_some e2]; exact .cons h ih
  · exact .nil
theorem kbx_pick {K : PySem.W.Frag} {x qual : Str} {params : Arguments} {body : List Stmt} {scope : Scope} {kws : List (Str × V)} {f : Addr} {fd : FuncData} {ps ks : List Str} {n : Nat} {ms : List (Str × V)} {mD : List DL.D} (spec : List (Nat × Nat)) {n0 n2 : Nat} (F : FunD K x qual params body scope [] kws f fd)
    (hk : kws ≠ []) (hms : ∀ q ∈ ms, q ∈ kws) (hm : mD.map scV = (ms.map (·.2)).map some)
    (h : ∀ (D : Addr) (doc pm : Value) (an : Option Addr) (cdv ct : Value) (us mv ws : List Value), us.length = n → mv.length = ms.length → ws.length = ks.length →
      KwChain D ((ms.map (·.1)).zip mv) (bindArgs (PySem.W.fnOf x qual params body scope .none (.ref D) doc pm an cdv ct) ⟨us, ks.zip ws⟩) (ps.zip (gpick spec n0 n n2 mv us ws))) : KBx K fd ps n ks (gpick spec n0 n n2 mD) :=
  kbx_of (g := fun {α} => gpick spec n0 n n2 (α := α)) F hk hms hm h gpick_vals gpick_reps
section
variable {G : GD} {X : WX} {Xc : Cx} {N : List Str} {nm : List (Str × NameKind)} {pos : Pos} {σ σ1 : L2.St} {H H1 : Hp} {W W1 : WD} {s s1 : DS} {O O1 : Addr → Prop} {Q : VK}
theorem j_callD {k n : Nat} {x : Str} {f : Addr} {fd : FuncData} {ps ks : List Str} {g : List DL.D → List DL.D → List DL.D} {φ : List DL.D → M R} {e : Expr} {es : List Expr} {kws : List Keyword} {fs gs : M (List DL.D)} {p : Pos} (F : Fm Xc G X N nm) (C : HasN Xc.prog Xc.w Xc.K Xc.mg Xc.base G k x f fd ps φ) (hr : RoomG k Xc.A) (hg : nm.lookup x = some .globalImplicit)
    (hb : KBx Xc.K fd ps n ks g) (ha : PA Xc (e :: es) (TA' G X fs)) (hk : PK Xc kws (TA' G X gs)) (hall : (backToKw pos (keywordEach kws Xc.env)).all (·.1.isSome) = true := by rfl) (hks : (backToKw pos (keywordEach kws Xc.env)).filterMap (·.1) = ks := by rfl)
    (hd : (x == ("__debug__" : Str)) = false := by decide) (he : starEach (e :: es) Xc.env = (false, eval e Xc.env) :: starEach es Xc.env := by rfl) (hpl : ((backTo pos (starEach (e :: es) Xc.env)).any (·.1) || (backToKw pos (keywordEach kws Xc.env)).any (·.1.isNone)) = false := by rfl) :
    PE Xc (.Call (.Name x p) (e :: es) kws pos) (TR G X (sCallK ps.length n ks.length g φ fs gs)) := by
  obtain ⟨gv, gV, hb⟩ := hb
  refine ⟨fun pins t σ H Q I h => wpAny_Call_Name_kw (ld_glob I (by show Xc.env.scope.names.lookup x = _; rw [F.eS]; exact hg) C.mg ?_ hd)⟩
  refine PySem.W.callWith_KW (h₀ := Xc.base) I.ok.mod.kin C.kp hall (thn (ha.run pos pins t σ H _ I (TA'.run h)) fun us t1 z1 => ?_) hpl he
  obtain ⟨vs, H1, I1, r, W1, s1, ds, rp, rd, hp⟩ := z1
  refine thn (hk.run pos pins t1 σ H1 _ I1 (TA'.at rp hp)) fun ws t2 z2 => ?_
  obtain ⟨zs, H2, I2, rz, W2, s2, es2, st, rp2, rd2, hp2⟩ := z2
  by_cases c : ds.length = n ∧ es2.length = ks.length
  · have q := spD_of rp2 (hb.rep (rd.stay (st.stay rp.apart)) rd2) (by simpa only [if_pos c] using hp2)
    rw [hks]
    have b := hb.to t2 us ws I2.kIn (r.length.symm.trans (rd.length.symm.trans c.1)) (rz.length.symm.trans (rd2.length.symm.trans c.2))
    refine ⟨I2.kIn, wpAny_call (codeAny_mono (run_g C.fn hr (passAt F.tk σ) I2 b (hb.rel r rz) q) fun res s' z => ?_)⟩
    match res, z with
    | .error _, z => exact z
    | .ok (.ret _), z => exact z
    | .ok .next, z => exact z
    | .ok .brk, z => exact z
    | .ok .cont, z => exact z
  · simp only [if_neg c] at hp2; exact hp2.elim
theorem j_callD0 {k : Nat} {x : Str} {f : Addr} {fd : FuncData} {ps ks : List Str} {g : List DL.D → List DL.D → List DL.D} {φ : List DL.D → M R} {kws : List Keyword} {gs : M (List DL.D)} {p : Pos} (F : Fm Xc G X N nm) (C : HasN Xc.prog Xc.w Xc.K Xc.mg Xc.base G k x f fd ps φ) (hr : RoomG k Xc.A) (hg : nm.lookup x = some .globalImplicit)
    (hb : KBx Xc.K fd ps 0 ks g) (hk : PK Xc kws (TA' G X gs)) (hall : (backToKw pos (keywordEach kws Xc.env)).all (·.1.isSome) = true := by rfl) (hks : (backToKw pos (keywordEach kws Xc.env)).filterMap (·.1) = ks := by rfl)
    (hd : (x == ("__debug__" : Str)) = false := by decide) (hpl : ((backTo pos (starEach [] Xc.env)).any (·.1) || (backToKw pos (keywordEach kws Xc.env)).any (·.1.isNone)) = false := by rfl) :
    PE Xc (.Call (.Name x p) [] kws pos) (TR G X (sCallK0 ps.length ks.length (fun es => g [] es) φ gs)) := by
  obtain ⟨gv, gV, hb⟩ := hb
  refine ⟨fun pins t σ H Q I h => wpAny_Call_Name_kw (ld_glob I (by show Xc.env.scope.names.lookup x = _; rw [F.eS]; exact hg) C.mg ?_ hd)⟩
  refine PySem.W.callWith_KW0 (h₀ := Xc.base) I.ok.mod.kin C.kp hall (thn (hk.run pos pins t σ H _ I (TA'.run h)) fun ws t2 z2 => ?_) hpl
  obtain ⟨zs, H2, I2, rz, W2, s2, es2, rp2, rd2, hp2⟩ := z2
  by_cases c : es2.length = ks.length
  · have q := spD_of rp2 (hb.rep (ds := []) (vs := []) rfl rd2) (by simpa only [if_pos c] using hp2)
    rw [hks]
    have b := hb.to t2 [] ws I2.kIn rfl (rz.length.symm.trans (rd2.length.symm.trans c))
    refine ⟨I2.kIn, wpAny_call (codeAny_mono (run_g C.fn hr (passAt F.tk σ) I2 b (hb.rel .nil rz) q) fun res s' z => ?_)⟩
    match res, z with
    | .error _, z => exact z
    | .ok (.ret _), z => exact z
    | .ok .next, z => exact z
    | .ok .brk, z => exact z
    | .ok .cont, z => exact z
  · simp only [if_neg c] at hp2; exact hp2.elim
end
/-- such a def, by the derivation of its body -/
theorem hasN_of {P : Program} {w : World} {K : PySem.W.Frag} {mg : Str → Option Value} {base : Heap} {x qual : Str} {params : Arguments} {body : List Stmt} {scope : Scope} {dvs : List V} {kws : List (Str × V)} {f : Addr} {fd : FuncData} {N ps : List Str} {k n : Nat} {m : M Ctl}
    (FD : FunD K x qual params body scope dvs kws f fd) (S : FnScope N ps scope) (hmg : mg x = some (.ref f)) (hn : N.length = n) (hl : ps.length ≤ N.length)
    (hd : ∀ (Xc : Cx) (X : WX), Xc.prog = P → Xc.w = w → Xc.K = K → Xc.mg = mg → Xc.base = base → FmS Xc ⟨K, mg⟩ X N scope.names → RoomG k Xc.A → PSs Xc body (TSt ⟨K, mg⟩ X m)) :
    HasN P w K mg base ⟨K, mg⟩ (k + 1) x f fd ps (DL.fnOf n m) := by
  subst hn
  refine ⟨fnG_of FD S (fun vs H Q E h => h.1) fun cdv A outer s H vs Q E hr hsp => ?_, hmg, FD.kp⟩
  obtain ⟨hv, W, s0, σ0, ds, rp, rd, hp⟩ := hsp
  have hun : (A.deeper (envOfC qual scope s.heap.objs.size f cdv)).units + 200 < cLine := by
    have q := hr.toRoom.un
    omega
  exact ⟨_, hd (cxOf (L2.CX P w) P w K mg base N qual scope f cdv A outer s H E) (fun c d _ H' => E c d H') rfl rfl rfl rfl rfl ⟨⟨rfl, rfl, rfl, rfl, S.kind, S.nd, rfl, hr.gu, hun, takes_of rfl rfl rfl rfl⟩, fun _ => rfl, passes_of rfl⟩ hr, fnOf_run rp rd (by rw [hv]; exact hl) hp⟩
end DL

/-! The law's end. -/
namespace DL
open PySem PySem.Spec PyProof.Rows L2
theorem room_caller {k : Nat} (h : Room k callerA) : RoomG k callerA := ⟨h, rfl⟩
/-- the law's call, by its def's promise; H tells what is tracked of the script -/
theorem call_law {P : Program} {w : World} {K : PySem.W.Frag} {mg mb : Str → Option Value} {k : Nat} {fa a : Addr} {fd : FuncData} {x : Str} {sp : Sp} {t : Shared} {vs : List Value}
    (hK : K.In t.heap) (hns : t.heap.Ns mainGlobals mg) (hb : t.heap.Ns builtinsNs mb) (hbb : ∀ x : Str, x ≠ "__name__" → mb x = bootBuiltins x) (hlim : t.heap.NoLimit) (hg : t.gens = #[])
    (ha : t.heap.get? a = some { cls := .type "list", data := .seq vs.toArray }) (hr : RoomG k callerA) (F : ∀ base : Heap, K.In base → base.Ns mainGlobals mg → FnG P w K mg base k fa fd [x] sp) (hbind : ∀ (s : Shared) (u : Value), BindsTo s fd ⟨[u], []⟩ [(x, u)])
    {H : Hp} (hO : Only H) (hok : HOk P w H t.heap) (own : ∀ b, H b ≠ none → b = a) (apart : H a ≠ none → K.lookup a = none) (hsp : sp [.ref a] H (fun v _ => v = .bl true) fun _ _ _ => False) :
    codeAny (model P w) callerA (.call (.ref fa) ⟨[.ref a], []⟩) (fun r s' => r = .ok (.ret (.bool true)) ∧ OldK t.heap s'.heap ∧ s'.os = t.os ∧ AllBare s'.gens) t := by
  have free : ∀ {b : Addr} {o : Obj}, t.heap.get? b = some o → (∀ n, o.data ≠ .seq vs.toArray n) → H b = none := fun {b o} e d => by
    cases q : H b with
    | none => rfl
    | some u =>
      have z : b = a := own b (by rw [q]; exact fun y => nomatch y)
      rw [z, ha] at e
      cases e
      exact absurd rfl (d _)
  have ns : ∀ {b : Addr} {m : Str → Option Value}, t.heap.Ns b m → (hidT t.heap H).Ns b m := fun {b m} ⟨o, es, ep, e, d, r⟩ => ⟨o, es, ep, hidT_get e (free e fun n z => by rw [d] at z; cases z), d, r⟩
  have kin : K.In (hidT t.heap H) := fun b o e => hidT_get (hK b o e) (by
    cases q : H b with
    | none => rfl
    | some u =>
      have z : b = a := own b (by rw [q]; exact fun y => nomatch y)
      rw [z] at e q
      rw [apart (by rw [q]; exact fun y => nomatch y)] at e
      cases e)
  obtain ⟨mc, l1, l2⟩ := hlim
  have e0 : Env0 P w K mg (hidT t.heap H) callerA [] t H := ⟨rfl, ⟨kin, ns hns, ⟨mb, ns hb, hbb⟩, ⟨mc, ns l1, l2⟩⟩, fun b o e => of_hidT e, Nat.le_of_eq (hidT_size _ _), trivial, fun b z => absurd z List.not_mem_nil, hok, .of_eq hg⟩
  refine codeAny_mono ((F _ kin (ns hns)).run (us := [.ref a]) (vs := [.ref a]) hr e0 (hbind t (.ref a)) (.cons rfl .nil) hsp) fun r s' z => ?_
  cases r with
  | error e =>
    obtain ⟨_, _, _, _, _, _, _, _, _, _, _, _, z⟩ := z
    exact z.elim
  | ok fl =>
    cases fl with
    | next => exact z.elim
    | brk => exact z.elim
    | cont => exact z.elim
    | ret u =>
      obtain ⟨v, H', os, bare, un, hok', rv, q⟩ := z
      have q' : v = .bl true := q
      subst q'
      obtain rfl : u = Value.bool true := rv
      refine ⟨rfl, OldK.of_keep fun b o e => ?_, os, bare⟩
      cases q : H b with
      | none => exact un.keep b o e q List.not_mem_nil List.not_mem_nil
      | some u =>
        rcases hO b with y | ⟨ob, xs, y⟩
        · rw [q] at y; cases y
        · obtain ⟨e1, _⟩ := hok b _ y
          obtain ⟨e2, _⟩ := hok' b _ (un.frzs b ob _ y)
          rw [e] at e1; cases e1
          exact e2
/-- the promise of the law, from what the evaluator gives -/
theorem law_sp {K : PySem.W.Frag} {mg : Str → Option Value} {φ : List D → M R} {H : Hp} {a : Addr} {ns : List Int} (hO : ∀ p, H p ≠ none → ∀ xs, H p ≠ some (.tup xs)) (h : (Rd H a (.lst (ns.map V.int)) ∧ H a ≠ none) ∨ KList K a (ns.map V.int))
    (hφ : ∃ s', φ [.scr ns] ⟨[], []⟩ = .ok (.val (.bl true)) s') : spD ⟨K, mg⟩ 1 φ [.ref a] H (fun v _ => v = .bl true) fun _ _ _ => False := by
  obtain ⟨s', e⟩ := hφ
  refine ⟨rfl, ⟨fun p => H p ≠ none, []⟩, ⟨[], []⟩, [], [.scr ns], ⟨rfl, fun i d z => by simp at z, fun i d z => by simp at z, fun i j d e p z => by simp at z, rfl, fun n d b z => by simp at z, List.nodup_nil, fun p f => ⟨f, hO p f⟩⟩, ?_, ?_⟩
  · exact .cons ⟨a, rfl, h.elim (fun z => .inl ⟨z.2, z.1⟩) .inr⟩ .nil
  · rw [e]
    exact fun W' H' v _ _ r _ => r
/-- THE END: a law whose def keeps the evaluator's promise -/
theorem walk_g {l : PySem.W.OpenLaw} {n k : Nat} {q : Program} {loose : List Str} {XP : (Str → Option Value) → Heap → Prop} {YP : World → Heap → Prop} {d : DefRec} {x : Str} {φ : List D → M R}
    (hn : l.most = some n) (hn2 : n ≤ sizeLine) (hdf : d.params.defaults = []) (hr : Room k callerA)
    (F : ∀ (w : World) (mg : Str → Option Value) (fa : Addr) (h : Heap), YP w h → h.Ns mainGlobals mg → mg d.name = some (.ref fa) →
      ∃ (K : PySem.W.Frag) (fd : FuncData), K.In h ∧ (∀ (s : Shared) (u : Value), BindsTo s fd ⟨[u], []⟩ [(x, u)]) ∧ ∀ base : Heap, K.In base → base.Ns mainGlobals mg → FnG l.prog w K mg base k fa fd [x] (spD ⟨K, mg⟩ 1 φ))
    (hφ : ∀ ns : List Int, ns.length ≤ n → ∃ s', φ [.scr ns] ⟨[], []⟩ = .ok (.val (.bl true)) s') :
    PySem.W.WalkO q loose XP YP l.row.toRowW d [] (fun f vs => PySem.call f vs) := by
  refine Att.attach_call hn hdf fun w s₀ t mg mb fa o pm cd doc a vs ns G Y ho hd hcd hmg hobj hints hlen hg => ?_
  obtain ⟨K, fd, hK, hb, hF⟩ := F w mg fa _ Y G.T.g hmg
  have go := fun {H : Hp} => call_law (H := H) hK G.T.g G.T.b G.T.builtins G.T.nolimit hg hobj (room_caller hr) hF hb
  have rv := vals_ints hints
  have hz : ns.length ≤ sizeLine := Nat.le_trans hlen hn2
  cases hk : K.lookup a with
  | some ob =>
    have e := hK a ob hk
    rw [hobj] at e
    cases e
    refine go (H := fun _ => none) (fun _ => .inl rfl) (fun b u z => by cases z) (fun b z => absurd rfl z) (fun z => absurd rfl z) (law_sp (fun p z => absurd rfl z) (.inr ⟨_, vs.toArray, _, hk, rfl, rfl, rfl, by rw [List.size_toArray, hints.length]; exact hz, by simpa using rv⟩) (hφ ns hlen))
  | none =>
    have at_ : (fun b => if b = a then some (HO.frz { cls := .type "list", data := .seq vs.toArray } (.lst (ns.map V.int))) else none : Hp) a = some (.frz { cls := .type "list", data := .seq vs.toArray } (.lst (ns.map V.int))) := if_pos rfl
    have off : ∀ b, b ≠ a → (fun b => if b = a then some (HO.frz { cls := .type "list", data := .seq vs.toArray } (.lst (ns.map V.int))) else none : Hp) b = none := fun b hb => if_neg hb
    refine go (H := fun b => if b = a then some (.frz { cls := .type "list", data := .seq vs.toArray } (.lst (ns.map V.int))) else none) (fun b => ?_) (fun b u z => ?_) (fun b z => ?_) (fun _ => hk) (law_sp (fun p _ xs z => ?_) (.inl ⟨.inr ⟨_, at_⟩, fun y => nomatch (at_.symm.trans y)⟩) (hφ ns hlen))
    · by_cases c : b = a
      · subst c; exact .inr ⟨_, _, at_⟩
      · exact .inl (off b c)
    · by_cases c : b = a
      · subst c
        have z' := at_.symm.trans z
        cases z'
        exact ⟨hobj, by rw [List.length_map]; exact hz, vs, _, rv, hobj⟩
      · have z' := (off b c).symm.trans z
        cases z'
    · by_cases c : b = a
      · exact c
      · exact absurd (off b c) z
    · by_cases c : p = a
      · subst c
        have z' := at_.symm.trans z
        cases z'
      · have z' := (off p c).symm.trans z
        cases z'
end DL

/-! Runs of the evaluator, in plain Lean. -/
namespace DL
open PySem L2
/-- it ends well, with Q -/
def Ok {α : Type} (o : Out α) (Q : α → DS → Prop) : Prop := match o with
  | .ok a s => Q a s
  | _ => False
theorem Ok.imp {α : Type} {o : Out α} {Q Q' : α → DS → Prop} (h : Ok o Q) (g : ∀ a s, Q a s → Q' a s) : Ok o Q' := by
  cases o with
  | ok a s => exact g a s h
  | _ => exact h
theorem ok_ok {α : Type} {a : α} {s : DS} {Q : α → DS → Prop} : Ok (.ok a s) Q = Q a s := rfl
theorem Ok.get {α : Type} {o : Out α} {Q : α → DS → Prop} (h : Ok o Q) : ∃ a s, o = .ok a s ∧ Q a s := by
  cases o with
  | ok a s => exact ⟨a, s, rfl, h⟩
  | _ => exact h.elim
section
variable {α β : Type} {e : List Slot} {t : List D} {s : DS} {i j : Nat} {fa fb fc : M R} {f g : M Ctl} {tb tc : M Bool} {fs : M (List D)} {Q : α → DS → Prop} {QC : Ctl → DS → Prop} {QR : R → DS → Prop} {QB : Bool → DS → Prop} {QL : List D → DS → Prop} {QU : Unit → DS → Prop} {r r1 r2 : R} {d a b : D} {n m : Int}
theorem w_bind {x : M β} {y : β → M α} : Ok ((x >>= y) s) Q = Ok (x s) fun a s1 => Ok (y a s1) Q := by rw [bind_run]; cases x s <;> rfl
theorem w_pure {a : α} : Ok (M.pure a s) Q = Q a s := rfl
theorem w_seq : Ok (sSeq f g s) QC = Ok (f s) fun c s1 => match c with | .nx => Ok (g s1) QC | .bk => QC .bk s1 | .ct => QC .ct s1 | .rt r => QC (.rt r) s1 := by
  unfold sSeq
  cases f s with
  | ok c s1 => cases c <;> rfl
  | _ => rfl
theorem w_skip : Ok (sSkip s) QC = QC .nx s := rfl
theorem w_set : Ok (sSet i fa s) QC = Ok (fa s) fun r s1 => Ok (r.put i s1) fun _ s2 => QC .nx s2 := by
  unfold sSet
  cases fa s with
  | ok r s1 => cases h : r.put i s1 <;> simp [Ok, h]
  | _ => rfl
theorem w_putV : Ok ((R.val d).put i ⟨e, t⟩) QU = QU () ⟨e.set i (.val d), t⟩ := rfl
theorem w_putO : Ok ((R.own d).put i ⟨e, t⟩) QU = QU () ⟨e.set i (.own d), t⟩ := rfl
theorem w_if {x y : M α} : Ok (sIf tb x y s) Q = Ok (tb s) fun b s1 => if b = true then Ok (x s1) Q else Ok (y s1) Q := by
  unfold sIf
  cases tb s with
  | ok b s1 => cases b <;> rfl
  | _ => rfl
theorem w_sB : Ok (sB fa s) QB = Ok (fa s) fun r s1 => match r with | .val (.bl b) => QB b s1 | _ => False := by
  unfold sB
  cases fa s with
  | ok r s1 => cases r with
    | val d => cases d <;> rfl
    | _ => rfl
  | _ => rfl
theorem w_and : Ok (sAnd tb tc s) QB = Ok (tb s) fun b s1 => if b = true then Ok (tc s1) QB else QB false s1 := by
  unfold sAnd
  cases tb s with
  | ok b s1 => cases b <;> rfl
  | _ => rfl
theorem w_or : Ok (sOr tb tc s) QB = Ok (tb s) fun b s1 => if b = true then QB true s1 else Ok (tc s1) QB := by
  unfold sOr
  cases tb s with
  | ok b s1 => cases b <;> rfl
  | _ => rfl
theorem w_not : Ok (sNot tb s) QB = Ok (tb s) fun b s1 => QB (!b) s1 := by unfold sNot; cases tb s <;> rfl
theorem w_tru : Ok (sTru fa s) QB = Ok (fa s) fun r s1 => Ok (r.look s1) fun d s2 => match truD d with | some b => QB b s2 | none => False := by
  unfold sTru
  cases fa s with
  | ok r s1 =>
    simp only [ok_ok]
    cases r.look s1 with
    | ok d s2 => simp only [ok_ok]; cases truD d <;> rfl
    | _ => rfl
  | _ => rfl
theorem w_andV : Ok (sAndV fa fb s) QR = Ok (fa s) fun r s1 => match r with | .val (.bl true) => Ok (fb s1) QR | .val (.bl false) => QR (.val (.bl false)) s1 | _ => False := by
  unfold sAndV
  cases fa s with
  | ok r s1 => cases r with
    | val d => cases d with
      | bl b => cases b <;> rfl
      | _ => rfl
    | _ => rfl
  | _ => rfl
theorem w_orV : Ok (sOrV fa fb s) QR = Ok (fa s) fun r s1 => match r with | .val (.bl true) => QR (.val (.bl true)) s1 | .val (.bl false) => Ok (fb s1) QR | _ => False := by
  unfold sOrV
  cases fa s with
  | ok r s1 => cases r with
    | val d => cases d with
      | bl b => cases b <;> rfl
      | _ => rfl
    | _ => rfl
  | _ => rfl
theorem w_notV : Ok (sNotV fa s) QR = Ok (fa s) fun r s1 => match r with | .val (.bl b) => QR (.val (.bl (!b))) s1 | _ => False := by
  unfold sNotV
  cases fa s with
  | ok r s1 => cases r with
    | val d => cases d <;> rfl
    | _ => rfl
  | _ => rfl
theorem w_s1 {h : R → M R} : Ok (DL.s1 h fa s) QR = Ok (fa s) fun r s1 => Ok (h r s1) QR := w_bind
theorem w_s2 {h : R → R → M R} : Ok (DL.s2 h fa fb s) QR = Ok (fa s) fun x s1 => Ok (fb s1) fun y s2 => Ok (h x y s2) QR := by
  unfold DL.s2
  rw [w_bind]
  congr 1
  funext x s1
  exact w_bind
theorem w_rd1 {h : D → M R} : Ok (rd1 h r s) QR = Ok (r.look s) fun d s1 => Ok (h d s1) QR := by unfold rd1; cases r.look s <;> rfl
theorem w_rd2 {h : D → D → M R} : Ok (rd2 h r1 r2 s) QR = Ok (r1.look s) fun d s1 => Ok (r2.look s1) fun d2 s2 => Ok (h d d2 s2) QR := by
  unfold rd2
  cases r1.look s with
  | ok d s1 => simp only [ok_ok]; cases r2.look s1 <;> rfl
  | _ => rfl
theorem w_chain {h h' : R → R → M R} : Ok (sChain h h' fa fb fc s) QR = Ok (fa s) fun x s1 => Ok (fb s1) fun y s2 => match y with
    | .val d => Ok (h x (.val d) s2) fun q s3 => match q with
      | .val (.bl true) => Ok (fc s3) fun z s4 => Ok (h' (.val d) z s4) QR
      | .val (.bl false) => QR (.val (.bl false)) s3
      | _ => False
    | _ => False := by
  unfold sChain
  rw [w_bind]
  congr 1
  funext x s1
  rw [w_bind]
  congr 1
  funext y s2
  cases y with
  | val d =>
    simp only []
    cases h x (.val d) s2 with
    | ok q s3 => cases q with
      | val q => cases q with
        | bl b => cases b with
          | true => exact w_bind
          | false => rfl
        | _ => rfl
      | _ => rfl
    | _ => rfl
  | _ => rfl
theorem w_var : Ok (sVar i ⟨e, t⟩) QR = match e[i]? with | some (.val d) => QR (.val d) ⟨e, t⟩ | some (.own _) => QR (.slot i) ⟨e, t⟩ | _ => False := by
  unfold sVar
  cases h : e[i]? with
  | none => simp [h, Ok]
  | some x => cases x <;> simp [h, Ok]
theorem w_C : Ok (sC d s) QR = QR (.val d) s := rfl
theorem w_ret : Ok (sRet fa s) QC = Ok (fa s) fun r s1 => Ok (r.move s1) fun r' s2 => QC (.rt r') s2 := by
  unfold sRet
  cases fa s with
  | ok r s1 => simp only [ok_ok]; cases r.move s1 <;> rfl
  | _ => rfl
theorem w_moveV : Ok ((R.val d).move s) QR = QR (.val d) s := rfl
theorem w_moveO : Ok ((R.own d).move s) QR = QR (.own d) s := rfl
theorem w_moveS : Ok ((R.slot i).move ⟨e, t⟩) QR = match e[i]? with | some (.val d) => QR (.val d) ⟨e, t⟩ | some (.own d) => QR (.own d) ⟨e.set i .un, t⟩ | _ => False := by
  unfold R.move
  simp only []
  cases h : e[i]? with
  | none => simp [Ok]
  | some x => cases x <;> simp [Ok, DS.put]
theorem w_drop : Ok (sDrop fa s) QC = Ok (fa s) fun _ s1 => QC .nx s1 := by unfold sDrop; cases fa s <;> rfl
theorem w_asg {tg : Tg} : Ok (sAsg tg fa s) QC = Ok (fa s) fun r s1 => Ok (tg r s1) fun _ s2 => QC .nx s2 := by
  unfold sAsg
  cases fa s with
  | ok r s1 => simp only [ok_ok]; cases tg r s1 <;> rfl
  | _ => rfl
theorem w_gN : Ok (gN i r s) QU = Ok (r.put i s) QU := rfl
theorem w_gSub {fo fi : M R} : Ok (gSub fo fi r s) QU = Ok (r.toD s) fun v s1 => Ok (fo s1) fun ro s2 => Ok (fi s2) fun ri s3 => Ok (ri.look s3) fun i s4 => Ok (ro.upd (setU i v) s4) QU := by
  unfold gSub
  cases r.toD s with
  | ok v s1 =>
    simp only [ok_ok]
    cases fo s1 with
    | ok ro s2 =>
      simp only [ok_ok]
      cases fi s2 with
      | ok ri s3 => simp only [ok_ok]; cases ri.look s3 <;> rfl
      | _ => rfl
    | _ => rfl
  | _ => rfl
theorem w_toDV {QD : D → DS → Prop} : Ok ((R.val d).toD s) QD = QD d s := rfl
theorem w_toDO {QD : D → DS → Prop} : Ok ((R.own d).toD s) QD = QD d s := rfl
theorem w_toDS {QD : D → DS → Prop} : Ok ((R.slot i).toD ⟨e, t⟩) QD = match e[i]? with | some (.val d) => QD d ⟨e, t⟩ | some (.own d) => QD d ⟨e.set i (.val d), t⟩ | _ => False := by
  unfold R.toD
  simp only []
  cases h : e[i]? with
  | none => simp [Ok]
  | some x => cases x <;> simp [Ok]
/-- what a reading operation finds -/
def lookAt (t : List D) : D → Option D
  | .ref n => t[n]?
  | d => some d
theorem look_int : lookAt t (.int n) = some (.int n) := rfl
theorem look_bl {b : Bool} : lookAt t (.bl b) = some (.bl b) := rfl
theorem look_non : lookAt t .non = some .non := rfl
theorem look_str {x : Str} : lookAt t (.str x) = some (.str x) := rfl
theorem look_tup {ds : List D} : lookAt t (.tup ds) = some (.tup ds) := rfl
theorem look_lst {ds : List D} : lookAt t (.lst ds) = some (.lst ds) := rfl
theorem look_dic {ks : List Key} {ds : List D} : lookAt t (.dic ks ds) = some (.dic ks ds) := rfl
theorem look_scr {ns : List Int} : lookAt t (.scr ns) = some (.scr ns) := rfl
theorem look_ty {x : String} : lookAt t (.ty x) = some (.ty x) := rfl
theorem look_ref {k : Nat} : lookAt t (.ref k) = t[k]? := rfl
theorem w_lookV {QD : D → DS → Prop} : Ok ((R.val d).look ⟨e, t⟩) QD = match lookAt t d with | some x => QD x ⟨e, t⟩ | none => False := by
  cases d with
  | ref n =>
    show Ok (match t[n]? with | some d => Out.ok d ⟨e, t⟩ | none => .bad) QD = match t[n]? with | some x => QD x ⟨e, t⟩ | none => False
    cases t[n]? <;> rfl
  | _ => rfl
theorem w_lookO {QD : D → DS → Prop} : Ok ((R.own d).look s) QD = QD d s := rfl
theorem w_lookS {QD : D → DS → Prop} : Ok ((R.slot i).look ⟨e, t⟩) QD = match e[i]? with | some (.val d) => (match lookAt t d with | some x => QD x ⟨e, t⟩ | none => False) | some (.own d) => QD d ⟨e, t⟩ | _ => False := by
  cases h : e[i]? with
  | none => simp [R.look, h, Ok]
  | some x =>
    cases x with
    | un => simp [R.look, h, Ok]
    | own d => simp [R.look, h, Ok]
    | val d =>
      cases d with
      | ref n =>
        simp only [R.look, h, lookAt]
        cases t[n]? <;> rfl
      | _ => simp [R.look, h, Ok, lookAt]
theorem w_updS {γ : Type} {u : D → Option (D × γ)} {QG : γ → DS → Prop} : Ok ((R.slot i).upd u ⟨e, t⟩) QG = match e[i]? with | some (.own d) => (match u d with | some (d', a) => QG a ⟨e.set i (.own d'), t⟩ | none => False) | _ => False := by
  unfold R.upd
  simp only []
  cases h : e[i]? with
  | none => rfl
  | some x => cases x with
    | own d => simp only []; cases u d <;> rfl
    | _ => rfl
theorem w_updR {γ : Type} {k : Nat} {u : D → Option (D × γ)} {QG : γ → DS → Prop} : Ok ((R.val (.ref k)).upd u ⟨e, t⟩) QG = match t[k]? with | some d => (match u d with | some (d', a) => QG a ⟨e, t.set k d'⟩ | none => False) | none => False := by
  unfold R.upd
  simp only []
  cases h : t[k]? with
  | none => rfl
  | some d => simp only []; cases u d <;> rfl
/-! ### argument lists, displays, calls -/
theorem w_nil : Ok (sNil s) QL = QL [] s := rfl
theorem w_cons : Ok (sCons fa fs s) QL = Ok (fa s) fun r s1 => Ok (r.toD s1) fun d s2 => Ok (fs s2) fun ds s3 => QL (d :: ds) s3 := by
  unfold sCons
  cases fa s with
  | ok r s1 =>
    simp only [ok_ok]
    cases r.toD s1 with
    | ok d s2 => simp only [ok_ok]; cases fs s2 <;> rfl
    | _ => rfl
  | _ => rfl
theorem w_tup : Ok (sTup fs s) QR = Ok (fs s) fun ds s1 => ds.length ≤ lim ∧ QR (.val (.tup ds)) s1 := by
  unfold sTup
  rw [w_bind]
  congr 1
  funext ds s1
  by_cases c : ds.length ≤ lim
  · rw [if_pos c]; exact propext ⟨fun h => ⟨c, h⟩, fun h => h.2⟩
  · rw [if_neg c]; exact propext ⟨fun h => h.elim, fun h => (c h.1).elim⟩
theorem w_lst : Ok (sLst fs s) QR = Ok (fs s) fun ds s1 => ds.length ≤ lim ∧ QR (.own (.lst ds)) s1 := by
  unfold sLst
  rw [w_bind]
  congr 1
  funext ds s1
  by_cases c : ds.length ≤ lim
  · rw [if_pos c]; exact propext ⟨fun h => ⟨c, h⟩, fun h => h.2⟩
  · rw [if_neg c]; exact propext ⟨fun h => h.elim, fun h => (c h.1).elim⟩
theorem w_call {k : Nat} {φ : List D → M R} : Ok (sCall k φ fs s) QR = Ok (fs s) fun ds s1 => ds.length = k ∧ Ok (φ ds s1) QR := by
  unfold sCall
  rw [w_bind]
  congr 1
  funext ds s1
  by_cases c : ds.length = k
  · rw [if_pos c]; exact propext ⟨fun h => ⟨c, h⟩, fun h => h.2⟩
  · rw [if_neg c]; exact propext ⟨fun h => h.elim, fun h => (c h.1).elim⟩
/-- a def's body at its arguments -/
theorem w_fn {k : Nat} {ds : List D} : Ok (fnOf k f ds ⟨e, t⟩) QR = Ok (f ⟨ds.map Slot.val ++ List.replicate (k - ds.length) .un, t⟩) fun c s1 => match c with
    | .rt (.val d) => QR (.val d) ⟨e, s1.sto⟩
    | .rt (.own d) => QR (.own d) ⟨e, s1.sto⟩
    | .nx => QR (.val .non) ⟨e, s1.sto⟩
    | _ => False := by
  unfold fnOf
  cases f ⟨ds.map Slot.val ++ List.replicate (k - ds.length) .un, t⟩ with
  | ok c s1 => cases c with
    | rt r => cases r <;> rfl
    | _ => rfl
  | _ => rfl
/-! ### operations -/
theorem w_addI : Ok (addD (.int n) (.int m) s) QR = QR (.val (.int (n + m))) s := rfl
theorem w_subI : Ok (intD subG (.int n) (.int m) s) QR = QR (.val (.int (n - m))) s := rfl
theorem w_mulI : Ok (mulM (.int n) (.int m) s) QR = (n.natAbs.log2 + m.natAbs.log2 < 1000000 ∧ QR (.val (.int (n * m))) s) := by
  unfold mulM
  by_cases c : n.natAbs.log2 + m.natAbs.log2 < 1000000
  · simp only [if_pos c]; exact propext ⟨fun h => ⟨c, h⟩, fun h => h.2⟩
  · simp only [if_neg c]; exact propext ⟨fun h => h.elim, fun h => (c h.1).elim⟩
theorem w_divI : Ok (intD divG (.int n) (.int m) s) QR = ((0 < m ∧ m.natAbs.log2 < 9000) ∧ QR (.val (.int (n / m))) s) := by
  unfold intD divG
  by_cases c : 0 < m ∧ m.natAbs.log2 < 9000
  · simp only [if_pos c]; exact propext ⟨fun h => ⟨c, h⟩, fun h => h.2⟩
  · simp only [if_neg c]; exact propext ⟨fun h => h.elim, fun h => (c h.1).elim⟩
theorem w_modI : Ok (intD modG (.int n) (.int m) s) QR = (0 < m ∧ QR (.val (.int (n % m))) s) := by
  unfold intD modG
  by_cases c : 0 < m
  · simp only [if_pos c]; exact propext ⟨fun h => ⟨c, h⟩, fun h => h.2⟩
  · simp only [if_neg c]; exact propext ⟨fun h => h.elim, fun h => (c h.1).elim⟩
theorem w_ltI : Ok (ltM (.int n) (.int m) s) QR = QR (.val (.bl (decide (n < m)))) s := rfl
theorem w_leI : Ok (leM (.int n) (.int m) s) QR = QR (.val (.bl (decide (n ≤ m)))) s := rfl
theorem w_gtI : Ok (gtM (.int n) (.int m) s) QR = QR (.val (.bl (decide (m < n)))) s := rfl
theorem w_geI : Ok (geM (.int n) (.int m) s) QR = QR (.val (.bl (decide (m ≤ n)))) s := rfl
theorem w_eqI : Ok (eqM (.int n) (.int m) s) QR = QR (.val (.bl (decide (n = m)))) s := rfl
theorem w_neI : Ok (neM (.int n) (.int m) s) QR = QR (.val (.bl (!decide (n = m)))) s := rfl
theorem w_bad {Q : α → DS → Prop} : Ok ((M.bad : M α) s) Q = False := rfl
/-! ### targets, loops, comprehensions -/
theorem w_gT {k : Nat} {u : Tgs} : Ok (gT k u r s) QU = Ok (r.look s) fun d s1 => match d with | .tup ds => ds.length = k ∧ Ok (u ds s1) QU | _ => False := by
  unfold gT
  cases r.look s with
  | ok d s1 =>
    cases d with
    | tup ds =>
      simp only [ok_ok]
      by_cases c : ds.length = k
      · rw [if_pos c]; exact propext ⟨fun h => ⟨c, h⟩, fun h => h.2⟩
      · rw [if_neg c]; exact propext ⟨fun h => h.elim, fun h => (c h.1).elim⟩
    | _ => rfl
  | _ => rfl
theorem w_gsN : Ok (gsN [] s) QU = QU () s := rfl
theorem w_gsC {tg : Tg} {u : Tgs} {ds : List D} : Ok (gsC tg u (d :: ds) s) QU = Ok (tg (.val d) s) fun _ s1 => Ok (u ds s1) QU := by
  show Ok (match tg (.val d) s with | .ok _ s1 => u ds s1 | .exn x s1 => .exn x s1 | .bad => .bad) QU = _
  cases tg (.val d) s <;> rfl
theorem w_for {tg : Tg} {it : M (List D)} : Ok (sFor tg it f s) QC = Ok (it s) fun ds s1 => Ok (sForL tg f ds s1) QC := by unfold sFor; cases it s <;> rfl
/-- a loop: I by the turn -/
theorem Ok.forL {tg : Tg} : ∀ {ds : List D} {s : DS} {k : Nat} (I : Nat → DS → Prop), I k s → (∀ (i : Nat) (x : D) (s1 : DS), ds[i]? = some x → I (k + i) s1 → Ok (tg (.val x) s1) fun _ s2 => Ok (f s2) fun c s3 => match c with | .nx => I (k + i + 1) s3 | .ct => I (k + i + 1) s3 | .bk => QC .nx s3 | .rt q => QC (.rt q) s3) →
    (∀ s1, I (k + ds.length) s1 → QC .nx s1) → Ok (sForL tg f ds s) QC
  | [], s, k, I, h0, hs, hd => hd s h0
  | x :: ds, s, k, I, h0, hs, hd => by
    have h := hs 0 x s rfl h0
    obtain ⟨u, s2, e1, h⟩ := h.get
    obtain ⟨c, s3, e2, h⟩ := h.get
    have nx : I (k + 1) s3 → Ok (sForL tg f ds s3) QC := fun z => Ok.forL (k := k + 1) I z (fun i y s1 hi q => by
      have := hs (i + 1) y s1 (by rw [List.getElem?_cons_succ]; exact hi) (by rw [show k + (i + 1) = k + 1 + i by omega]; exact q)
      rw [show k + (i + 1) = k + 1 + i by omega] at this
      exact this) fun s1 q => hd s1 (by rw [List.length_cons, show k + (ds.length + 1) = k + 1 + ds.length by omega]; exact q)
    unfold sForL
    simp only [e1, e2]
    cases c with
    | nx => exact nx h
    | ct => exact nx h
    | bk => exact h
    | rt q => exact h
/-- while: m bounds the turns that are left -/
theorem Ok.while : ∀ {k m : Nat} {s : DS} (I : Nat → DS → Prop), m < k → I m s → (∀ (m : Nat) (s1 : DS), I m s1 → Ok (tb s1) fun b s2 => if b = true then Ok (f s2) fun c s3 => match c with | .nx => ∃ m', m' < m ∧ I m' s3 | .ct => ∃ m', m' < m ∧ I m' s3 | .bk => QC .nx s3 | .rt q => QC (.rt q) s3 else QC .nx s2) →
    Ok (sWhile k tb f s) QC
  | 0, m, s, I, hk, _, _ => absurd hk (Nat.not_lt_zero _)
  | k + 1, m, s, I, hk, h0, hs => by
    have h := hs m s h0
    obtain ⟨b, s2, e1, h⟩ := h.get
    unfold sWhile
    simp only [e1]
    cases b with
    | false => rw [if_neg Bool.false_ne_true] at h; exact h
    | true =>
      rw [if_pos rfl] at h
      obtain ⟨c, s3, e2, h⟩ := h.get
      simp only [e2]
      cases c with
      | nx => obtain ⟨m', h1, h2⟩ := h; exact Ok.while I (by omega) h2 hs
      | ct => obtain ⟨m', h1, h2⟩ := h; exact Ok.while I (by omega) h2 hs
      | bk => exact h
      | rt q => exact h
theorem w_lc {vs : List Nat} {it : M (List D)} {tg : Tg} : Ok (sLc vs it tg tb fa s) QR = Ok (it s) fun ds s1 => Ok (sLcL vs tg tb fa ds [] (s1.wipe vs)) fun rs s2 => QR (.own (.lst rs)) ⟨restE s1.env s2.env vs, s2.sto⟩ := by
  unfold sLc
  cases it s with
  | ok ds s1 => simp only [ok_ok]; cases sLcL vs tg tb fa ds [] (s1.wipe vs) <;> rfl
  | _ => rfl
/-- a comprehension: I by the turn, what is gathered, the state -/
theorem Ok.lcL {vs : List Nat} {tg : Tg} : ∀ {ds : List D} {acc : List D} {s : DS} {k : Nat} (I : Nat → List D → DS → Prop), I k acc s → (∀ (i : Nat) (x : D) (ac : List D) (s1 : DS), ds[i]? = some x → I (k + i) ac s1 → Ok (tg (.val x) s1) fun _ s2 => Ok (tb s2) fun b s3 => if b = true then Ok (fa s3) fun r s4 => Ok (r.toD s4) fun y s5 => ac.length < lim ∧ I (k + i + 1) (ac ++ [y]) (s5.wipe vs) else I (k + i + 1) ac (s3.wipe vs)) →
    (∀ ac s1, I (k + ds.length) ac s1 → QL ac s1) → Ok (sLcL vs tg tb fa ds acc s) QL
  | [], acc, s, k, I, h0, hs, hd => hd acc s h0
  | x :: ds, acc, s, k, I, h0, hs, hd => by
    have h := hs 0 x acc s rfl h0
    obtain ⟨u, s2, e1, h⟩ := h.get
    obtain ⟨b, s3, e2, h⟩ := h.get
    have nx : ∀ {ac s4}, I (k + 1) ac s4 → Ok (sLcL vs tg tb fa ds ac s4) QL := fun {ac s4} z => Ok.lcL (k := k + 1) I z (fun i y a1 s1 hi q => by
      have := hs (i + 1) y a1 s1 (by rw [List.getElem?_cons_succ]; exact hi) (by rw [show k + (i + 1) = k + 1 + i by omega]; exact q)
      rw [show k + (i + 1) = k + 1 + i by omega] at this
      exact this) fun a1 s1 q => hd a1 s1 (by rw [List.length_cons, show k + (ds.length + 1) = k + 1 + ds.length by omega]; exact q)
    unfold sLcL
    simp only [e1, e2]
    cases b with
    | false => rw [if_neg Bool.false_ne_true] at h; exact nx h
    | true =>
      rw [if_pos rfl] at h
      obtain ⟨r, s4, e3, h⟩ := h.get
      obtain ⟨y, s5, e4, c, h⟩ := h.get
      simp only [e3, e4, if_pos c]
      exact nx h
/-! ### what is walked -/
theorem w_rng1 : Ok (sRng1 fs s) QL = Ok (fs s) fun ds s1 => match ints1 ds with | some n => (-rlim ≤ n ∧ n ≤ rlim) ∧ QL (rangeD 0 n.toNat) s1 | none => False := by
  unfold sRng1
  cases fs s with
  | ok ds s1 =>
    simp only [ok_ok]
    cases ints1 ds with
    | none => rfl
    | some n =>
      simp only []
      by_cases c : -rlim ≤ n ∧ n ≤ rlim
      · rw [if_pos c]; exact propext ⟨fun h => ⟨c, h⟩, fun h => h.2⟩
      · rw [if_neg c]; exact propext ⟨fun h => h.elim, fun h => (c h.1).elim⟩
  | _ => rfl
theorem w_rng2 : Ok (sRng2 fs s) QL = Ok (fs s) fun ds s1 => match ints2 ds with | some n => ((-rlim ≤ n.1 ∧ n.1 ≤ rlim) ∧ -rlim ≤ n.2 ∧ n.2 ≤ rlim) ∧ QL (rangeD n.1 (n.2 - n.1).toNat) s1 | none => False := by
  unfold sRng2
  cases fs s with
  | ok ds s1 =>
    simp only [ok_ok]
    cases ints2 ds with
    | none => rfl
    | some n =>
      simp only []
      by_cases c : (-rlim ≤ n.1 ∧ n.1 ≤ rlim) ∧ -rlim ≤ n.2 ∧ n.2 ≤ rlim
      · rw [if_pos c]; exact propext ⟨fun h => ⟨c, h⟩, fun h => h.2⟩
      · rw [if_neg c]; exact propext ⟨fun h => h.elim, fun h => (c h.1).elim⟩
  | _ => rfl
theorem w_it : Ok (sIt fa s) QL = Ok (fa s) fun r s1 => Ok (r.toD s1) fun d s2 => match d with | .tup ds => QL ds s2 | .lst ds => QL ds s2 | .scr ns => QL (ns.map D.int) s2 | _ => False := by
  unfold sIt
  cases fa s with
  | ok r s1 =>
    simp only [ok_ok]
    cases r.toD s1 with
    | ok d s2 => cases d <;> rfl
    | _ => rfl
  | _ => rfl
theorem w_itK {Q2 : Bool × List D → DS → Prop} : Ok (sItK fa s) Q2 = Ok (fa s) fun r s1 => Ok (r.toD s1) fun d s2 => match d with | .tup ds => Q2 (false, ds) s2 | .lst ds => Q2 (true, ds) s2 | _ => False := by
  unfold sItK
  cases fa s with
  | ok r s1 =>
    simp only [ok_ok]
    cases r.toD s1 with
    | ok d s2 => cases d <;> rfl
    | _ => rfl
  | _ => rfl
theorem w_enum : Ok (sEnum fa s) QL = Ok (sItK fa s) fun ds s1 => QL (enumD 0 ds.2) s1 := by unfold sEnum; cases sItK fa s <;> rfl
theorem w_zip : Ok (sZip fa fb s) QL = Ok (sItK fa s) fun a s1 => Ok (sItK fb s1) fun b s2 => a.1 = b.1 ∧ QL (zipD a.2 b.2) s2 := by
  unfold sZip
  cases sItK fa s with
  | ok a s1 =>
    simp only [ok_ok]
    cases sItK fb s1 with
    | ok b s2 =>
      simp only [ok_ok]
      by_cases c : a.1 = b.1
      · rw [if_pos c]; exact propext ⟨fun h => ⟨c, h⟩, fun h => h.2⟩
      · rw [if_neg c]; exact propext ⟨fun h => h.elim, fun h => (c h.1).elim⟩
    | _ => rfl
  | _ => rfl
/-! ### parallel stores, methods, cells -/
theorem w_keepV : Ok ((R.val d).keep s) QR = QR (.val d) s := rfl
theorem w_keepO : Ok ((R.own d).keep s) QR = QR (.own d) s := rfl
theorem w_kNil {Q2 : List R → DS → Prop} : Ok (kNil s) Q2 = Q2 [] s := rfl
theorem w_kCons {fs : M (List R)} {Q2 : List R → DS → Prop} : Ok (kCons fa fs s) Q2 = Ok (fa s) fun r s1 => Ok (r.keep s1) fun r1 s2 => Ok (fs s2) fun rs s3 => Q2 (r1 :: rs) s3 := by
  unfold kCons
  cases fa s with
  | ok r s1 =>
    simp only [ok_ok]
    cases r.keep s1 with
    | ok r1 s2 => simp only [ok_ok]; cases fs s2 <;> rfl
    | _ => rfl
  | _ => rfl
theorem w_par {is : List Nat} {fs : M (List R)} : Ok (sPar is fs s) QC = Ok (fs s) fun rs s1 => rs.length = is.length ∧ Ok (DL.putAll rs is s1) fun _ s2 => QC .nx s2 := by
  unfold sPar
  cases fs s with
  | ok rs s1 =>
    simp only [ok_ok]
    by_cases c : rs.length = is.length
    · rw [if_pos c]
      cases DL.putAll rs is s1 with
      | ok u s2 => exact propext ⟨fun h => ⟨c, h⟩, fun h => h.2⟩
      | _ => exact propext ⟨fun h => h.elim, fun h => h.2.elim⟩
    · rw [if_neg c]; exact propext ⟨fun h => h.elim, fun h => (c h.1).elim⟩
  | _ => rfl
theorem w_putAll0 : Ok (DL.putAll [] [] s) QU = QU () s := rfl
theorem w_putAll1 {rs : List R} {is : List Nat} : Ok (DL.putAll (r :: rs) (i :: is) s) QU = Ok (r.put i s) fun _ s1 => Ok (DL.putAll rs is s1) QU := by
  show Ok (match r.put i s with | .ok _ s1 => DL.putAll rs is s1 | .exn x s1 => .exn x s1 | .bad => .bad) QU = _
  cases r.put i s <;> rfl
theorem w_M {k : D → Bool} {h : R → List D → M R} : Ok (sM k h fa fs s) QR = Ok (fa s) fun ro s1 => Ok (ro.look s1) fun c s2 => k c = true ∧ Ok (fs s2) fun ds s3 => Ok (h ro ds s3) QR := by
  unfold sM
  cases fa s with
  | ok ro s1 =>
    simp only [ok_ok]
    cases ro.look s1 with
    | ok c s2 =>
      simp only [ok_ok]
      by_cases ck : k c = true
      · rw [if_pos ck]
        cases fs s2 with
        | ok ds s3 => exact propext ⟨fun h => ⟨ck, h⟩, fun h => h.2⟩
        | _ => exact propext ⟨fun h => h.elim, fun h => h.2.elim⟩
      · rw [if_neg ck]; exact propext ⟨fun h => h.elim, fun h => (ck h.1).elim⟩
    | _ => rfl
  | _ => rfl
theorem w_app : Ok (appF r [d] s) QR = Ok (r.upd (appU d) s) fun d2 s1 => QR (.val d2) s1 := by
  show Ok (updR r (appU d) s) QR = _
  unfold updR
  cases r.upd (appU d) s <;> rfl
theorem w_cell : Ok (sCell fa ⟨e, t⟩) QR = Ok (fa ⟨e, t⟩) fun r s1 => match r with | .own d => QR (.val (.ref s1.sto.length)) ⟨s1.env, s1.sto ++ [d]⟩ | _ => False := by
  unfold sCell
  cases fa ⟨e, t⟩ with
  | ok r s1 => cases r <;> rfl
  | _ => rfl
theorem w_augS {fo fi fe : M R} {op : R → R → M R} : Ok (sAugS fo fi op fe s) QC = Ok (fo s) fun ro s1 => Ok (fi s1) fun ri s2 => Ok (ri.look s2) fun i s3 => Ok (ro.look s3) fun c s4 => match getD2 c i with
    | some x => Ok (fe s4) fun re s5 => Ok (op (.val x) re s5) fun rz s6 => Ok (rz.toD s6) fun z s7 => Ok (ro.upd (setU i z) s7) fun _ s8 => QC .nx s8
    | none => False := by
  unfold sAugS
  cases fo s with
  | ok ro s1 =>
    simp only [ok_ok]
    cases fi s1 with
    | ok ri s2 =>
      simp only [ok_ok]
      cases ri.look s2 with
      | ok i s3 =>
        simp only [ok_ok]
        cases ro.look s3 with
        | ok c s4 =>
          simp only [ok_ok]
          cases getD2 c i with
          | none => rfl
          | some x =>
            simp only []
            cases fe s4 with
            | ok re s5 =>
              simp only [ok_ok]
              cases op (.val x) re s5 with
              | ok rz s6 =>
                simp only [ok_ok]
                cases rz.toD s6 with
                | ok z s7 => simp only [ok_ok]; cases ro.upd (setU i z) s7 <;> rfl
                | _ => rfl
              | _ => rfl
            | _ => rfl
        | _ => rfl
      | _ => rfl
    | _ => rfl
  | _ => rfl
theorem w_no {QO : Option Int → DS → Prop} : Ok (sNo s) QO = QO none s := rfl
theorem w_part {QO : Option Int → DS → Prop} : Ok (sPart fa s) QO = Ok (fa s) fun r s1 => Ok (r.look s1) fun d s2 => match d with | .int i => QO (some i) s2 | _ => False := by
  unfold sPart
  cases fa s with
  | ok r s1 =>
    simp only [ok_ok]
    cases r.look s1 with
    | ok d s2 => cases d <;> rfl
    | _ => rfl
  | _ => rfl
theorem w_sl {lo hi : M (Option Int)} : Ok (sSl fa lo hi s) QR = Ok (fa s) fun r s1 => Ok (lo s1) fun l s2 => Ok (hi s2) fun u s3 => Ok (r.look s3) fun a s4 => Ok (slD a l u s4) QR := by
  unfold sSl
  rw [w_bind]; congr 1; funext r s1
  rw [w_bind]; congr 1; funext l s2
  rw [w_bind]; congr 1; funext u s3
  exact w_bind
theorem w_slT {ds : List D} {l u : Option Int} : Ok (slD (.tup ds) l u s) QR = QR (.val (.tup (cutD ds l u))) s := rfl
theorem w_slL {ds : List D} {l u : Option Int} : Ok (slD (.lst ds) l u s) QR = QR (.own (.lst (cutD ds l u))) s := rfl
/-- a run that ends so and not otherwise -/
theorem Ok.eq {o : Out α} {a : α} {s : DS} (h : Ok o fun b s' => b = a ∧ s' = s) : o = .ok a s := by
  obtain ⟨b, s', e, h1, h2⟩ := h.get
  rw [e, h1, h2]
end
end DL

/-! zip of two sequences of any kinds. -/
namespace DL
open PySem L2 PyProof.Rows
def SqK (K : PySem.W.Frag) (H : Hp) (k : Bool) (a : Addr) (xs : List V) : Prop := match k with
  | true => SqL K H a xs
  | false => SqT K H a xs
def ItnK (h : Heap) (k : Bool) (it a : Addr) (i : Nat) : Prop := match k with
  | true => h.IsListIter it a i
  | false => h.IsTupleIter it a i
def SeqK (h : Heap) (k : Bool) (a : Addr) (xs : Array Value) : Prop := match k with
  | true => h.IsList a xs
  | false => h.IsTuple a xs
def objK (k : Bool) (a : Addr) : Obj := match k with
  | true => { cls := .type "list_iterator", data := .fields #[.ref a, .int 0 0] }
  | false => { cls := .type "tuple_iterator", data := .fields #[.ref a, .int 0 0] }
theorem beginsK (k : Bool) (a : Addr) (its : Array Value) : Begins (.ref a) (objK k a) fun h => SeqK h k a its := by
  cases k
  · exact begins_tuple a its
  · exact begins_list a its
theorem drawsK {prog : Program} {w : World} {A : Around} (hh : A.handled = none) (k : Bool) (it a : Addr) (hne : a ≠ it) (its : Array Value) :
    Draws prog w A it [it, a] its.size (fun i v => its[i]? = some v) (fun i h => ItnK h k it a i ∧ SeqK h k a its) := by
  cases k
  · exact Draws.tuple hh it a hne its
  · exact Draws.list hh it a hne its
theorem ItnK.at {h h' : Heap} {k : Bool} {it a : Addr} {i : Nat} (x : ItnK h k it a i) (hk : ∀ o, h.get? it = some o → h'.get? it = some o) : ItnK h' k it a i := by
  cases k
  · exact Heap.IsTupleIter.at x hk
  · exact Heap.IsListIter.at x hk
theorem ItnK.obj {h : Heap} {k : Bool} {it a : Addr} {i : Nat} (x : ItnK h k it a i) : ∃ o, h.get? it = some o ∧ ∀ v, o.data ≠ .cell v := by
  cases k
  · obtain ⟨o, e, _, d⟩ := (x : h.IsTupleIter it a i)
    exact ⟨o, e, fun v q => by rw [d] at q; cases q⟩
  · obtain ⟨o, e, _, d⟩ := (x : h.IsListIter it a i)
    exact ⟨o, e, fun v q => by rw [d] at q; cases q⟩
theorem ItnK.new {h : Heap} {k : Bool} {it a : Addr} (e : h.get? it = some (objK k a)) : ItnK h k it a 0 := by
  cases k
  · exact ⟨_, e, rfl, rfl⟩
  · exact ⟨_, e, rfl, rfl⟩
section
variable {X : Cx} {pins : List (Addr × Obj)} {σ : L2.St} {H : Hp} {s : Shared} {a : Addr} {xs ys : List V} {k : Bool}
theorem inv_seqK (I : Inv X pins σ H s) (h : SqK X.K H k a xs) : ∃ its : List Value, Vals xs its ∧ SeqK s.heap k a its.toArray ∧ a < s.heap.objs.size := by
  cases k
  · obtain ⟨its, r, p, _⟩ := I.tuple h
    obtain ⟨o, ho, _⟩ := id p
    exact ⟨its, r, p, Heap.lt_size ho⟩
  · obtain ⟨its, r, p, _⟩ := I.list h
    exact ⟨its, r, p.isList, p.lt⟩
theorem inv_seqK_inj (I : Inv X pins σ H s) (h : SqK X.K H k a xs) (h' : SqK X.K H k a ys) : xs = ys := by
  cases k
  · exact I.tuple_inj h h'
  · exact I.list_inj h h'
end
theorem sepK {z TI TO i1 i2 a b : Addr} (D : ZipApart z TI TO i1 i2 a b) : ZipSep2 z TI TO i1 i2 [i1, a] [i2, b] where
  TIz := D.TIz
  TOz := D.TOz
  TITO := D.TITO
  TIi1 := D.TIi1
  mem1 := List.mem_cons_self ..
  zf1 := by simp only [List.mem_cons, List.not_mem_nil, or_false, not_or]; exact ⟨D.i1z.symm, D.l1z.symm⟩
  Tf1 := by simp only [List.mem_cons, List.not_mem_nil, or_false, not_or]; exact ⟨D.TOi1, D.l1TO.symm⟩
  TIi2 := D.TIi2
  mem2 := List.mem_cons_self ..
  zf2 := by simp only [List.mem_cons, List.not_mem_nil, or_false, not_or]; exact ⟨D.i2z.symm, D.l2z.symm⟩
  Tf2 := by simp only [List.mem_cons, List.not_mem_nil, or_false, not_or]; exact ⟨D.TOi2, D.l2TO.symm⟩
  sep1_2 := by simp only [List.mem_cons, List.not_mem_nil, or_false, not_or]; exact ⟨D.i12, D.l2i1.symm⟩
  sep2_1 := by simp only [List.mem_cons, List.not_mem_nil, or_false, not_or]; exact ⟨D.i12.symm, D.l1i2.symm⟩
/-- the sequences at a and b as they stand at each turn, the items in new pairs -/
def ItzK (K : PySem.W.Frag) (k1 k2 : Bool) (a b : Addr) : It :=
  ⟨fun i H => ∃ (xs ys : List V) (x y : V), SqK K H k1 a xs ∧ SqK K H k2 b ys ∧ xs[i]? = some x ∧ ys[i]? = some y,
    fun i H v H' => ∃ T x y, v = .ref T ∧ H T = none ∧ H' = upd H T (.tup [x, y]) ∧ (∀ xs, SqK K H k1 a xs → xs[i]? = some x) ∧ ∀ ys, SqK K H k2 b ys → ys[i]? = some y,
    fun i H => ∃ xs ys : List V, SqK K H k1 a xs ∧ SqK K H k2 b ys ∧ i ≤ xs.length ∧ i ≤ ys.length ∧ (i = xs.length ∨ i = ys.length)⟩
theorem turn_zipK {P : Program} {w : World} {K : PySem.W.Frag} {elts : List Expr} {kk : Nat} {tpos : Pos} {k1 k2 : Bool} {a b z TI TO i1 i2 : Addr} (D : ZipApart z TI TO i1 i2 a b) :
    Turn P w K (.Tuple elts kk tpos) (ItzK K k1 k2 a b) [z, TI, TO, i1, i2] z (fun i h => IsZip h z TI TO .none ∧ h.get? TI = some { cls := .type "tuple", data := .seq #[.ref i1, .ref i2] } ∧ (∃ x y : Value, h.get? TO = some { cls := .type "tuple", data := .seq #[x, y] }) ∧ ItnK h k1 i1 a i ∧ ItnK h k2 i2 b i) where
  mem := by simp
  obj := fun i h st c hc => by
    obtain ⟨hz, hTI, ⟨x, y, hTO⟩, h1, h2⟩ := st
    have e' : c = z ∨ c = TI ∨ c = TO ∨ c = i1 ∨ c = i2 := by simpa using hc
    rcases e' with q | q | q | q | q
    · rw [q]; exact ⟨_, hz, fun v q => nomatch q⟩
    · rw [q]; exact ⟨_, hTI, fun v q => nomatch q⟩
    · rw [q]; exact ⟨_, hTO, fun v q => nomatch q⟩
    · rw [q]; exact h1.obj
    · rw [q]; exact h2.obj
  keep := fun i h h' st k => by
    obtain ⟨hz, hTI, ⟨x, y, hTO⟩, h1, h2⟩ := st
    exact ⟨k z (by simp) _ hz, k TI (by simp) _ hTI, ⟨x, y, k TO (by simp) _ hTO⟩, h1.at fun o q => k i1 (by simp) o q, h2.at fun o q => k i2 (by simp) o q⟩
  item := by
    intro X hP hw hK hc i pins s σ H E I hf st hg
    subst hP hw hK
    obtain ⟨hz, hTI, ⟨x0, y0, hTO⟩, h1, h2⟩ := st
    obtain ⟨xs, ys, x, y, hqx, hqy, hx, hy⟩ := hg
    obtain ⟨its, rv, p, _⟩ := inv_seqK I hqx
    obtain ⟨its2, rv2, p2, _⟩ := inv_seqK I hqy
    obtain ⟨u, hu, ru⟩ := rv.get hx
    obtain ⟨u2, hu2, ru2⟩ := rv2.get hy
    have hzl : z < s.heap.objs.size := Heap.lt_size hz
    have hh := show X.A.in1.handled = none from I.ok.hd hc
    have l1 : i < its.toArray.size := by rw [List.size_toArray]; exact (List.getElem?_eq_some_iff.mp hu).1
    have l2 : i < its2.toArray.size := by rw [List.size_toArray]; exact (List.getElem?_eq_some_iff.mp hu2).1
    refine wpAny_pyNext_zipD2_item (sepK D) (drawsK hh k1 i1 a D.l1i1 its.toArray) (drawsK hh k2 i2 b D.l2i2 its2.toArray) hz hTI hTO ⟨h1, p⟩ ⟨h2, p2⟩ l1 l2 fun x1 x2 h' tk hP1 hP2 z' TO' s1' s2' hT hsz hk => ?_
    have e1 : x1 = u := by
      have q : its.toArray[i]? = some x1 := hP1
      rw [List.getElem?_toArray, hu] at q
      exact (Option.some.inj q).symm
    have e2 : x2 = u2 := by
      have q : its2.toArray[i]? = some x2 := hP2
      rw [List.getElem?_toArray, hu2] at q
      exact (Option.some.inj q).symm
    subst e1 e2
    refine ⟨_, rfl, wpAny_letOwnedTupleGo_zip (s := { s with heap := h', toks := tk }) z' fun h'' z'' sb => ?_⟩
    have hT2 : h''.get? s.heap.objs.size = some { cls := .type "tuple", data := .seq #[x1, x2] } := (sb.2 _ (Nat.ne_of_gt hzl)).trans hT
    have new : ObjOk X.prog X.w (upd H s.heap.objs.size (.tup [x, y])) h'' s.heap.objs.size (.tup [x, y]) :=
      ⟨by show 2 ≤ sizeLine; decide, [x1, x2], .cons ru (.cons ru2 .nil), ⟨_, hT2, rfl, _, rfl⟩⟩
    have I1 : Inv X pins σ (upd H s.heap.objs.size (.tup [x, y])) { s with heap := h'', toks := tk } :=
      I.turnedNew (t' := tk) (ch := [z, TI, TO, i1, i2]) (fun c o hb q => (sb.2 c (fun q' => hb (by simp [q']))).trans (hk c o (fun q' => hb (by simp [q'])) (fun q' => hb (by simp [q'])) (fun q' => hb (by simp [q'])) (fun q' => hb (by simp [q'])) q)) hf (Nat.le_refl _) new
    refine ⟨.ref s.heap.objs.size, _, I1, rfl, ⟨_, x, y, rfl, I.hok.fresh (Nat.le_refl _), rfl, fun l hl => by rw [inv_seqK_inj I hl hqx]; exact hx, fun l hl => by rw [inv_seqK_inj I hl hqy]; exact hy⟩, ⟨z'', ?_, ⟨x1, x2, ?_⟩, ?_, ?_⟩, fun c hcm => ?_⟩
    · exact (sb.2 _ D.TIz).trans (hk _ _ D.TIz D.TITO D.TIi1 D.TIi2 hTI)
    · exact (sb.2 _ D.TOz).trans TO'
    · exact s1'.1.at fun o q => (sb.2 _ D.i1z).trans q
    · exact s2'.1.at fun o q => (sb.2 _ D.i2z).trans q
    · have hlt : c < s.heap.objs.size := by
        have e' : c = z ∨ c = TI ∨ c = TO ∨ c = i1 ∨ c = i2 := by simpa using hcm
        rcases e' with q | q | q | q | q
        · rw [q]; exact hzl
        · rw [q]; exact Heap.lt_size hTI
        · rw [q]; exact Heap.lt_size hTO
        · rw [q]; obtain ⟨_, e1, _⟩ := h1.obj; exact Heap.lt_size e1
        · rw [q]; obtain ⟨_, e2, _⟩ := h2.obj; exact Heap.lt_size e2
      rw [upd_ne (Nat.ne_of_lt hlt)]
      exact (hf c hcm).1
  done := by
    intro X hP hw hK hc i pins s σ H E I hf st hg
    subst hP hw hK
    obtain ⟨hz, hTI, ⟨x0, y0, hTO⟩, h1, h2⟩ := st
    obtain ⟨xs, ys, hqx, hqy, hle1, hle2, hend⟩ := hg
    obtain ⟨its, rv, p, _⟩ := inv_seqK I hqx
    obtain ⟨its2, rv2, p2, _⟩ := inv_seqK I hqy
    have l1 := rv.length
    have l2 := rv2.length
    have hh := show X.A.in1.handled = none from I.ok.hd hc
    exact wpAny_pyNext_zipD2_end (sepK D) (drawsK hh k1 i1 a D.l1i1 its.toArray) (drawsK hh k2 i2 b D.l2i2 its2.toArray) hz hTI hTO ⟨h1, p⟩ ⟨h2, p2⟩ (by rw [List.size_toArray]; omega) (by rw [List.size_toArray]; omega) (by rw [List.size_toArray, List.size_toArray]; omega) fun h' tk hk => ⟨rfl, I.turnedL (t' := tk) (ch := [z, TI, TO, i1, i2]) (fun c o hb q =>
      hk c o (fun q' => hb (by simp [q'])) (fun q' => hb (by simp [q'])) (fun q' => hb (by simp [q'])) (fun q' => hb (by simp [q'])) q) hf⟩
  self := fun A i s Q E st h => wpAny_pyIter_zip st.1 h
theorem walk_zipK {K : PySem.W.Frag} {k1 k2 : Bool} {a b : Addr} {xs ys : List V} {n : Nat} (hn : n = min xs.length ys.length) : Walk (ItzK K k1 k2 a b) n (fun H => SqK K H k1 a xs ∧ SqK K H k2 b ys) (YPair (fun i => xs[i]?) (fun i => ys[i]?)) := by
  subst hn
  refine ⟨fun i _ hi q => ⟨xs, ys, xs[i]'(by omega), ys[i]'(by omega), q.1, q.2, List.getElem?_eq_getElem _, List.getElem?_eq_getElem _⟩, fun _ q => ⟨xs, ys, q.1, q.2, by omega, by omega, by omega⟩, ?_⟩
  rintro i H v H' _ q ⟨T, x, z, h1, h2, h3, h4, h5⟩
  exact ⟨T, x, z, h1, h2, h3, h4 xs q.1, h5 ys q.2⟩
def iZipK (K : PySem.W.Frag) (ta : TA) : TI := fun σ H R => ta σ H fun vs H1 => ∃ k1 k2 a b xs ys, vs = [.ref a, .ref b] ∧ SqK K H1 k1 a xs ∧ SqK K H1 k2 b ys ∧ R (ItzK K k1 k2 a b) H1
theorem pi_zipK {X : Cx} {e e2 : Expr} {ta : TA} {p pos tpos : Pos} {elts : List Expr} {kk : Nat} (hg : Gl X "zip") (hm : X.mg "zip" = none) (ha : PA X [e, e2] ta)
    (hs : starEach [e, e2] X.env = (false, eval e X.env) :: starEach [e2] X.env := by rfl) (hpl : (backTo pos (starEach [e2] X.env)).any (·.1) = false := by rfl) :
    PI X (.Tuple elts kk tpos) (.Call (.Name "zip" p) [e, e2] [] pos) (iZipK X.K ta) := by
  refine ⟨fun pins s σ H R I h => ?_⟩
  refine Call_ (ld_blt I hg hm PyProof.Rows.boot_zip (PyProof.Rows.callWith_type1 (thn (ha.run pos pins s σ H _ I h) fun us s1 ⟨vs, H1, I1, r1, q1⟩ => ?_) hs hpl))
  obtain ⟨k1, k2, a, b, xs, ys, ex, hqx, hqy, q⟩ := q1
  subst ex
  cases r1 with
  | cons r rr =>
    cases rr with
    | cons r' rr =>
      cases rr
      cases r
      cases r'
      have fresh5 : ∀ c, c ∈ [s1.heap.objs.size + 4, s1.heap.objs.size + 2, s1.heap.objs.size + 3, s1.heap.objs.size, s1.heap.objs.size + 1] → FpOk X pins H1 c := fun c hcm => by
        have e' : c = s1.heap.objs.size + 4 ∨ c = s1.heap.objs.size + 2 ∨ c = s1.heap.objs.size + 3 ∨ c = s1.heap.objs.size ∨ c = s1.heap.objs.size + 1 := by simpa using hcm
        have hle : s1.heap.objs.size ≤ c := by
          rcases e' with z | z | z | z | z
          · rw [z]; exact Nat.le_add_right _ _
          · rw [z]; exact Nat.le_add_right _ _
          · rw [z]; exact Nat.le_add_right _ _
          · rw [z]; exact Nat.le_refl _
          · rw [z]; exact Nat.le_add_right _ _
        exact I1.fpOk hle (I1.hok.fresh hle)
      obtain ⟨its, rv, p1, a1⟩ := inv_seqK I1 hqx
      obtain ⟨its2, rv2, p2, a2⟩ := inv_seqK I1 hqy
      refine zip_begins2 (beginsK k1 a its.toArray) (beginsK k2 b its2.toArray) p1 p2 fun h' hz hTI hTO h1 h2 hsz hk => wpAny_pyIter_zip hz ?_
      have I2 : Inv X pins σ H1 { s1 with heap := h' } := I1.kept (t' := s1.toks) hk
      exact ⟨s1.heap.objs.size + 4, [s1.heap.objs.size + 4, s1.heap.objs.size + 2, s1.heap.objs.size + 3, s1.heap.objs.size, s1.heap.objs.size + 1], _, _, H1, rfl, I2, turn_zipK (PySem.W.ktu_apart s1.heap.objs.size a b a1 a2), ⟨hz, hTI, ⟨_, _, hTO⟩, ItnK.new h1, ItnK.new h2⟩, fresh5, q⟩
section
variable {G : GD} {X : WX} {Xc : Cx} {N : List Str} {nm : List (Str × NameKind)} {pos : Pos} {σ σ1 : L2.St} {H H1 : Hp} {W W1 : WD} {s s1 : DS} {O O1 : Addr → Prop} {Q : VK}
def sZipX (fa fb : M R) : M (List DL.D) := fun s => match sItK fa s with
  | .ok a s1 => (match sItK fb s1 with
    | .ok b s2 => .ok (zipD a.2 b.2) s2
    | .exn x s2 => .exn x s2
    | .bad => .bad)
  | .exn x s1 => .exn x s1
  | .bad => .bad
theorem WalkAt.sqK {K : PySem.W.Frag} {k : Bool} {ds : List DL.D} {v : V} (h : WalkAt G W H k ds v) : ∃ p vs, v = .ref p ∧ RepDs G W H ds vs ∧ ∀ W' H', Stay W H W' H' → SqK K H' k p vs := by
  cases k with
  | true => obtain ⟨p, vs, e, f, h, r⟩ := h; exact ⟨p, vs, e, r, fun W' H' z => .inl (z.rd f h)⟩
  | false => obtain ⟨p, vs, e, h, r⟩ := h; exact ⟨p, vs, e, r, fun W' H' z => SqT.of (z.kp p _ h (.inr ⟨vs, rfl⟩))⟩
theorem ji_zipX {e e2 : Expr} {fa fb : M R} {p tpos : Pos} {elts : List Expr} {kk : Nat} (F : Fm Xc G X N nm) (hg : nm.lookup ("zip" : Str) = some .globalImplicit) (hm : G.mg ("zip" : Str) = none) (ha : PE Xc e (TR G X fa)) (hb : PE Xc e2 (TR G X fb))
    (hs : starEach [e, e2] Xc.env = (false, eval e Xc.env) :: starEach [e2] Xc.env := by rfl) (hs2 : starEach [e2] Xc.env = [(false, eval e2 Xc.env)] := by rfl) (hpl : (backTo pos (starEach [e2] Xc.env)).any (·.1) = false := by rfl) :
    PI Xc (.Tuple elts kk tpos) (.Call (.Name "zip" p) [e, e2] [] pos) (TIt G X (sZipX fa fb)) := by
  refine (pi_zipK (by show Xc.env.scope.names.lookup _ = _; rw [F.eS]; exact hg) (by rw [F.eM]; exact hm) (pa_cons ha (pa_cons hb pa_nil hs2) hs) hs hpl).imp fun σ H Rq ⟨W, s, rp, hp⟩ => ⟨W, s, rp, ?_⟩
  unfold sZipX at hp
  have h2 : (match sItK fa s with
    | .ok a s1 => (match sItK fb s1 with
      | .ok b s2 => ∀ W1 H1 J, Step (OwnAt s.env σ) W H (OwnAt s2.env σ) W1 H1 → Rep G W1 s2 σ H1 → IterOf G W1 H1 J (zipD a.2 b.2) → Rq J H1
      | .exn x s2 => PostX G X (OwnAt s.env σ) W H x s2
      | .bad => False)
    | .exn x s1 => PostX G X (OwnAt s.env σ) W H x s1
    | .bad => False) := by
    cases e1 : sItK fa s with
    | bad => rw [e1] at hp; exact hp
    | exn x s1 => rw [e1] at hp; exact hp
    | ok a s1 =>
      simp only [e1] at hp ⊢
      cases e2 : sItK fb s1 with
      | bad => rw [e2] at hp; exact hp
      | exn x s2 => rw [e2] at hp; exact hp
      | ok b s2 => simp only [e2] at hp ⊢; exact hp
  refine (It.fixK (Qi := fun a s1 => (match sItK fb s1 with
      | .ok b s2 => ∀ W1 H1 J, Step (OwnAt s.env σ) W H (OwnAt s2.env σ) W1 H1 → Rep G W1 s2 σ H1 → IterOf G W1 H1 J (zipD a.2 b.2) → Rq J H1
      | .exn x s2 => PostX G X (OwnAt s.env σ) W H x s2
      | .bad => False)) h2).mono ?_
  rintro v H1 ⟨W1, s1, k, ds, q, st, rp1, wa⟩
  refine ⟨W1, s1, rp1, ?_⟩
  have q2 : (match sItK fb s1 with
      | .ok b s2 => ∀ W2 H2 J, Step (OwnAt s1.env σ) W1 H1 (OwnAt s2.env σ) W2 H2 → Rep G W2 s2 σ H2 → IterOf G W2 H2 J (zipD ds b.2) → Rq J H2
      | .exn x s2 => PostX G X (OwnAt s1.env σ) W1 H1 x s2
      | .bad => False) := by
    cases e2 : sItK fb s1 with
    | bad => rw [e2] at q; exact q
    | exn x s2 => simp only [e2] at q; exact fun W' σ' H' c d a b z => q W' σ' H' c d (st.trans a) b z
    | ok b s2 => simp only [e2] at q; exact fun W2 H2 J a b c => q W2 H2 J (st.trans a) b c
  refine (It.fixK (Qi := fun b s2 => ∀ W2 H2 J, Step (OwnAt s1.env σ) W1 H1 (OwnAt s2.env σ) W2 H2 → Rep G W2 s2 σ H2 → IterOf G W2 H2 J (zipD ds b.2) → Rq J H2) q2).mono ?_
  rintro v2 H2 ⟨W2, s2, k2, bs, q3, st2, rp2, wb⟩
  have wa := wa.stay (st2.stay rp1.apart)
  obtain ⟨p, vs, rfl, r, f⟩ := wa.sqK (K := Xc.K)
  obtain ⟨p2, ws, rfl, r2, f2⟩ := wb.sqK (K := Xc.K)
  exact ⟨k, k2, p, p2, vs, ws, rfl, f W2 H2 (Stay.refl ..), f2 W2 H2 (Stay.refl ..), q3 W2 H2 _ st2 rp2 (IterOf.pairs (as := fun i => ds[i]?) (bs := fun i => bs[i]?) (walk_zipK rfl) (by rw [zipD_length, r.length, r2.length]) (fun W' H' z => ⟨f W' H' z, f2 W' H' z⟩) (fun i x _ e => r.getI e) (fun i x _ e => r2.getI e) fun i a b ea eb => zipD_get ea eb)⟩
end
section
variable {s : DS} {fa fb : M R} {QL : List DL.D → DS → Prop}
theorem w_zipX : Ok (sZipX fa fb s) QL = Ok (sItK fa s) fun a s1 => Ok (sItK fb s1) fun b s2 => QL (zipD a.2 b.2) s2 := by
  unfold sZipX
  cases sItK fa s with
  | ok a s1 =>
    simp only [ok_ok]
    cases sItK fb s1 <;> rfl
  | _ => rfl
end
end DL

/-! Defs with a star parameter. -/
namespace DL
open PySem L2 PyProof.Rows
/-- the promise of a def with a star: np values ahead, the others in a tuple -/
def spS (G : GD) (np : Nat) (φ : List D → M R) : Sp := fun vs H Q E => (np ≤ vs.length ∧ vs.length ≤ 1000) ∧ ∃ (W : WD) (s : DS) (σ : L2.St) (ds : List D), Rep G W s σ H ∧ RepDs G W H ds vs ∧ PostE G (fun c d σ' H' => σ' = σ → E c d H') (OwnAt s.env σ) W H σ (φ (ds.take np ++ [.tup (ds.drop np)]) s) Q
structure FnA (P : Program) (w : World) (K : PySem.W.Frag) (mg : Str → Option Value) (base : Heap) (k : Nat) (f : Addr) (sp : Sp) : Prop where
  run : ∀ {A : Around} {outer : List Env} {s : Shared} {H : Hp} {us : List Value} {vs : List V} {Q : VK} {E : XK}, RoomG k A → Env0 P w K mg base A outer s H →
    Vals vs us → sp vs H Q E → codeAny (model P w) A (.call (.ref f) ⟨us, []⟩) (CR (L2.CX P w) outer P w H s Q E) s
structure HasS (P : Program) (w : World) (K : PySem.W.Frag) (mg : Str → Option Value) (base : Heap) (G : GD) (k : Nat) (x : Str) (f : Addr) (np : Nat) (φ : List D → M R) : Prop where
  fn : FnA P w K mg base k f (spS G np φ)
  mg : mg x = some (.ref f)
  kp : PySem.W.keepIn K (.ref f) = true
def sCallS (np : Nat) (φ : List D → M R) (fs : M (List D)) : M R := fs >>= fun ds => if np ≤ ds.length ∧ ds.length ≤ 1000 then φ (ds.take np ++ [.tup (ds.drop np)]) else M.bad
theorem reps_app {G : GD} {W : WD} {H : Hp} : ∀ {as : List D} {vs : List V} {bs : List D} {ws : List V}, RepDs G W H as vs → RepDs G W H bs ws → RepDs G W H (as ++ bs) (vs ++ ws)
  | [], _, bs, ws, r, q => by
    obtain rfl := (r : _ = [])
    exact q
  | a :: as, _, bs, ws, r, q => by
    obtain ⟨v, V2, rfl, h1, h2⟩ := r
    exact .cons h1 (reps_app h2 q)
theorem hasS_of {P : Program} {w : World} {K : PySem.W.Frag} {mg : Str → Option Value} {base : Heap} {x qual : Str} {params : Arguments} {body : List Stmt} {scope : Scope} {f : Addr} {fd : FuncData} {N ps : List Str} {pv : Str} {k n : Nat} {m : M Ctl}
    (FD : FunD K x qual params body scope [] [] f fd) (S : FnScope N (ps ++ [pv]) scope) (hmg : mg x = some (.ref f)) (hn : N.length = n) (hl : (ps ++ [pv]).length ≤ N.length)
    (hb : ∀ (kV doc pm : Value) (an : Option Addr) (cdv ct : Value) (us rest : List Value), us.length = ps.length → bindArgs (PySem.W.fnOf x qual params body scope .none kV doc pm an cdv ct) ⟨us ++ rest, []⟩ = (newTuple rest >>= fun t => pure (ps.zip us ++ [(pv, t)])))
    (hd : ∀ (Xc : Cx) (X : WX), Xc.prog = P → Xc.w = w → Xc.K = K → Xc.mg = mg → Xc.base = base → FmS Xc ⟨K, mg⟩ X N scope.names → RoomG k Xc.A → PSs Xc body (TSt ⟨K, mg⟩ X m)) :
    HasS P w K mg base ⟨K, mg⟩ (k + 1) x f ps.length (DL.fnOf n m) := by
  subst hn
  refine ⟨⟨fun {A outer s H us vs Q E} hr e0 r hsp => ?_⟩, hmg, FD.kp⟩
  obtain ⟨oc, od, dV, kV, doc, pm, an, cdv, ct, osl, rfl, lk, hcd, hD, _⟩ := FD.ex
  have hdv : dV = .none := by
    rcases hD with ⟨_, e⟩ | ⟨e, _⟩
    · exact e
    · exact absurd rfl e
  subst hdv
  obtain ⟨⟨hl0, hl1⟩, W, s0, σ0, ds, rp, rd, hp⟩ := hsp
  have lds : ds.length = vs.length := rd.length
  have ev : vs.take ps.length ++ vs.drop ps.length = vs := List.take_append_drop ..
  have lw : (vs.take ps.length).length = ps.length := by rw [List.length_take]; omega
  have lr : (vs.drop ps.length).length ≤ sizeLine := Nat.le_trans (by rw [List.length_drop]; omega) (by decide : 1000 ≤ sizeLine)
  have rt := RepDs.take ps.length rd
  have rr := RepDs.drop ps.length rd
  generalize vs.take ps.length = ws at ev lw rt
  generalize vs.drop ps.length = rest at ev lr rr
  subst ev
  obtain ⟨u1, u2, eu, r1, r2⟩ := StX.vals_split r
  subst eu
  have hn : H s.heap.objs.size = Option.none := e0.hok.fresh (Nat.le_refl _)
  have hu1 : u1.length = ps.length := by rw [← r1.length]; exact lw
  have hu2 : u2.length ≤ sizeLine := by rw [← r2.length]; exact lr
  refine StX.run_bnd lk hcd S hr.toRoom e0 (G := fun xs H2 => ∃ p, H p = Option.none ∧ xs = ws ++ [V.ref p] ∧ H2 = upd H p (.tup rest)) (fun A' Ex Q' h => ?_) fun s2 H2 xs ⟨p, hpn, ex, eH⟩ _ => ?_
  · rw [hb _ _ _ _ _ _ u1 u2 hu1]
    refine wpAny_bind (wpAny_newTuple (wpAny_pure ?_) hu2)
    have new : ObjOk P w (upd H s.heap.objs.size (.tup rest)) (s.heap.push ({ cls := .type "tuple", data := .seq u2.toArray } : Obj)) s.heap.objs.size (.tup rest) := ⟨lr, u2, r2, ⟨_, Heap.get?_push_size _ rfl, rfl, _, rfl⟩⟩
    have un := StX.un_laid (fs := frs outer) (s := s) (o := ({ cls := .type "tuple", data := .seq u2.toArray } : Obj)) (u := .tup rest) hn
    have z := h _ _ (ws ++ [V.ref s.heap.objs.size]) (u1 ++ [Value.ref s.heap.objs.size]) (StX.env0_laid e0 new) un rfl (fun e s' => StX.cxUp outer s H _ _ E e s' un (fun b o q => Heap.get?_push_of_some _ q) rfl) (r1.append (.cons rfl .nil))
      (by rw [List.length_append, List.length_append, lw] <;> rfl) ⟨_, hn, rfl, rfl⟩
    rw [List.zip_append hu1.symm] at z
    exact z
  · subst ex eH
    have gr : Grow H (upd H p (.tup rest)) := Grow.new hpn
    have rd' : RepDs ⟨K, mg⟩ W (upd H p (.tup rest)) (ds.take ps.length ++ [.tup (ds.drop ps.length)]) (ws ++ [V.ref p]) := reps_app (rt.stay gr.stay) (.cons ⟨p, rest, rfl, upd_same, rr.stay gr.stay⟩ .nil)
    have hun : (A.deeper (envOfC qual scope s2.heap.objs.size f cdv)).units + 200 < cLine := by
      have q := hr.toRoom.un
      show A.units + _ + 200 < _
      omega
    exact ⟨_, hd (cxOf (L2.CX P w) P w K mg base N qual scope f cdv A outer s2 _ E) (fun c d _ H' => E c d H') rfl rfl rfl rfl rfl ⟨⟨rfl, rfl, rfl, rfl, S.kind, S.nd, rfl, hr.gu, hun, takes_of rfl rfl rfl rfl⟩, fun _ => rfl, passes_of rfl⟩ (hr.deeper _), fnOf_run (rp.grow gr) rd' (by rw [List.length_append, lw, List.length_singleton]; rw [List.length_append, List.length_singleton] at hl; exact hl) (hp.after (O0' := fun _ => False) (Grow.step gr fun p z => .inl z))⟩
section
variable {G : GD} {X : WX} {Xc : Cx} {N : List Str} {nm : List (Str × NameKind)} {pos : Pos} {σ σ1 : L2.St} {H H1 : Hp} {W W1 : WD} {s s1 : DS} {O O1 : Addr → Prop} {Q : VK}
theorem j_callS {k np : Nat} {x : Str} {f : Addr} {φ : List D → M R} {e : Expr} {es : List Expr} {fs : M (List D)} {p : Pos} (F : Fm Xc G X N nm) (C : HasS Xc.prog Xc.w Xc.K Xc.mg Xc.base G k x f np φ) (hr : RoomG k Xc.A) (hg : nm.lookup x = some .globalImplicit)
    (ha : PA Xc (e :: es) (TA' G X fs)) (hd : (x == ("__debug__" : Str)) = false := by decide) (he : starEach (e :: es) Xc.env = (false, eval e Xc.env) :: starEach es Xc.env := by rfl) (hpl : (backTo pos (starEach es Xc.env)).any (·.1) = false := by rfl) : PE Xc (.Call (.Name x p) (e :: es) [] pos) (TR G X (sCallS np φ fs)) := by
  refine ⟨fun pins t σ H Q I h => wpAny_Call_Name_kw (ld_glob I (by show Xc.env.scope.names.lookup x = _; rw [F.eS]; exact hg) C.mg ?_ hd)⟩
  refine PySem.W.callWith_K (h₀ := Xc.base) I.ok.mod.kin C.kp (thn (ha.run pos pins t σ H _ I (TA'.run h)) ?_) he hpl
  rintro us t1 ⟨vs, H1, I1, r, W1, s1, ds, rp, rd, hp⟩
  by_cases c : np ≤ ds.length ∧ ds.length ≤ 1000
  · rw [if_pos c] at hp
    have q : spS G np φ vs H1 Q (WE X σ) := ⟨by rw [← rd.length]; exact c, W1, s1, σ, ds, rp, rd, hp.impX fun c d σ' H' z e => by subst e; exact z⟩
    refine ⟨I1.kIn, wpAny_call (codeAny_mono (C.fn.run hr I1.env0 r q) fun res s' hq => ?_)⟩
    cases res with
    | error e => exact passAt F.tk σ pins H1 t1 e s' I1 hq
    | ok fl =>
      cases fl with
      | ret u => exact I1.after hq
      | next => exact hq
      | brk => exact hq
      | cont => exact hq
  · rw [if_neg c] at hp; exact hp.elim
end
/-! ### three names at once, of constants -/
section
variable {G : GD} {X : WX} {Xc : Cx} {N : List Str} {nm : List (Str × NameKind)}
theorem sw3k {x y z : Str} {px py pz pt pt2 : Pos} {a b c : Expr} {kt k2} (F : Fm Xc G X N nm) (hx : nm.lookup x = some .local) (hy : nm.lookup y = some .local) (hz : nm.lookup z = some .local) (hl : (py.line == px.line) = true) (hl2 : (pz.line == px.line) = true) (hne : ([x, y, z] : List Str).eraseDups.length = 3)
    (h1 : ([a, b, c] : List Expr).any isStar = false) (h2 : ([a, b, c] : List Expr).all (foldedForSure 8) = true) :
    swappedStores [.Tuple [.Name x px, .Name y py, .Name z pz] kt pt] (.Tuple [a, b, c] k2 pt2) Xc.env = pure none := by
  have kx : Xc.env.kindOf x = some .local := by show Xc.env.scope.names.lookup x = _; rw [F.eS]; exact hx
  have ky : Xc.env.kindOf y = some .local := by show Xc.env.scope.names.lookup y = _; rw [F.eS]; exact hy
  have kz : Xc.env.kindOf z = some .local := by show Xc.env.scope.names.lookup z = _; rw [F.eS]; exact hz
  have kb : Xc.env.blockKind = .function := by unfold Env.blockKind; rw [F.eF]; rfl
  have hp : (px.line == px.line) = true := beq_self_eq_true _
  unfold swappedStores
  simp only [kb, h2, kx, ky, kz, Expr.pos, hl, hl2, hp, List.filterMap_cons, List.filterMap_nil, List.head?_cons, Option.map_some, Option.getD_some, Bool.and_true, beq_self_eq_true, if_true, hne, List.length_cons, List.length_nil]
  refine (if_neg (by decide)).trans ((if_neg fun q => ?_).trans ?_)
  · exact Bool.false_ne_true (h1.symm.trans q)
  · first
    | rfl
    | exact (if_neg (by decide)).trans rfl
    | exact ite_self _
end
/-! ### t += u -/
theorem noI_tuple : typeLookup (.type "tuple") (dunderI "add") = pure none := by kernel_rfl
theorem icat_meets {prog : Program} {w : World} {A : Around} {E : Value → Shared → Prop} {s : Shared} {T id : String} {B : Builtin} {a b : Value} {S : PySem.Spec} {Q : Value → Shared → Prop} (ha : s.TypeIs a T) (hb : s.TypeIs b T) (hno : typeLookup (.type T) (dunderI "add") = pure none)
    (hfill : fillsNumberSlot (.type T) "add" = pure false) (hseq : seqSlot? (.type T) "__add__" = pure (some (.builtin id))) (slot : PySem.Slot T "__add__" id)
    (entry : entryFor table id = some B) (args : argsOk id ⟨[a, b], []⟩) (g : Meets (B ⟨[a, b], []⟩) S) (h : S A (wants Q E) s) : wpAny (model prog w) A (inplaceOp .Add a b) Q E s :=
  wpAny_inplaceOp_concat ha hb hno hfill hseq (call_meets slot ha entry args g h)
theorem op_icatA {Xc : Cx} : OpR Xc (inplaceOp .Add) (rCatA Xc.K) := by
  intro pins s σ H x y v u Q I rx ry h
  obtain ⟨a, b, xs, ys, rfl, rfl, ha, hb, hz, q0, q1, q2⟩ := h
  cases rx
  cases ry
  obtain ⟨vs, r1, p1, _⟩ := I.tuple ha
  obtain ⟨ws, r2, p2, _⟩ := I.tuple hb
  have l1 := r1.length
  have l2 := r2.length
  have P2 := p2
  obtain ⟨⟨cls, dd, data, sl⟩, ho, hc, n, hd⟩ := id p1
  obtain ⟨⟨cls2, dd2, data2, sl2⟩, ho2, hc2, n2, hd2⟩ := id p2
  simp only at hc hd hc2 hd2
  subst hc hd hc2 hd2
  by_cases hx : xs = []
  · have hv : vs = [] := by rw [hx] at l1; exact List.length_eq_zero_iff.mp l1.symm
    subst hv
    exact icat_meets ⟨_, ho, rfl⟩ ⟨_, ho2, rfl⟩ noI_tuple noFill_tuple_add seq_tuple_add PySem.F.slot_tuple_add PySem.F.entry_tuple_add (PySem.F.args_tuple_add_2 _ _)
      (tuple_addW0 a b ([] : List Value).toArray ws.toArray n n2 dd dd2 sl sl2 (by simp)) ⟨ho, ho2, ⟨.ref b, H, I, rfl, q0 hx⟩⟩
  · have hv : vs ≠ [] := fun z => hx (List.length_eq_zero_iff.mp (by rw [l1, z]; rfl))
    by_cases hy : ys = []
    · have hw : ws = [] := by rw [hy] at l2; exact List.length_eq_zero_iff.mp l2.symm
      exact icat_meets ⟨_, ho, rfl⟩ ⟨_, ho2, rfl⟩ noI_tuple noFill_tuple_add seq_tuple_add PySem.F.slot_tuple_add PySem.F.entry_tuple_add (PySem.F.args_tuple_add_2 _ _)
        (tuple_addW1 a b vs.toArray ws.toArray n n2 dd dd2 sl sl2 (by simpa using hv) (by simp [hw])) ⟨ho, ho2, ⟨.ref a, H, I, rfl, q1 hx hy⟩⟩
    · have hw : ws ≠ [] := fun z => hy (List.length_eq_zero_iff.mp (by rw [l2, z]; rfl))
      refine icat_meets ⟨_, ho, rfl⟩ ⟨_, ho2, rfl⟩ noI_tuple noFill_tuple_add seq_tuple_add PySem.F.slot_tuple_add PySem.F.entry_tuple_add (PySem.F.args_tuple_add_2 _ _)
        (tuple_addW2 a b vs.toArray ws.toArray n n2 dd dd2 sl sl2 (by simpa using hv) (by simpa using hw) (by rw [List.size_toArray, List.size_toArray, ← l1, ← l2]; exact hz)) ⟨ho, ho2, ?_⟩
      rw [show vs.toArray ++ ws.toArray = (vs ++ ws).toArray by simp]
      refine ⟨.ref s.heap.objs.size, _, I.laid (t' := s.toks) (o := .tup (xs ++ ys)) (fun b ob q => Heap.get?_push_of_some _ q) (Nat.le_refl _) ?_, rfl, q2 hx hy _ (I.hok.fresh (Nat.le_refl _))⟩
      exact ⟨by rw [List.length_append]; exact hz, _, r1.append r2, IsTup.new _ _⟩
def addT : D → D → M R
  | .int i, .int j => M.pure (.val (.int (i + j)))
  | .tup x, .tup y => if x.length + y.length ≤ lim then M.pure (.val (.tup (x ++ y))) else M.bad
  | _, _ => M.bad
def rAddT (K : PySem.W.Frag) : R2 := fun x y H Q => rI0 (fun i j => .int (i + j)) x y H Q ∨ rCatA K x y H Q
theorem ol_addT {G : GD} {X : WX} : OpL G X (rAddT G.K) addT := by
  intro W s σ H x y a b O Q rp la lb hO hp
  cases a with
  | int i =>
    cases b with
    | int j =>
      have e1 := la.int; have e2 := lb.int; subst e1 e2
      exact .inl ⟨i, j, rfl, rfl, PostE.val hp rp hO rfl⟩
    | _ => exact hp.elim
  | tup i =>
    cases b with
    | tup j =>
      obtain ⟨p, xs, e1, h1, r1⟩ := la.tup
      obtain ⟨q, ys, e2, h2, r2⟩ := lb.tup
      subst e1 e2
      unfold addT at hp
      by_cases c : i.length + j.length ≤ lim
      · simp only [if_pos c] at hp
        have l1 := r1.length
        have l2 := r2.length
        refine .inr ⟨p, q, xs, ys, rfl, rfl, SqT.of h1, SqT.of h2, by have := lim_le c; omega, fun e => ?_, fun _ e => ?_, fun _ _ => ?_⟩
        · have e' : i = [] := by rw [e] at l1; exact List.length_eq_zero_iff.mp l1
          subst e'
          exact PostE.val hp rp hO ⟨q, ys, rfl, h2, r2⟩
        · have e' : j = [] := by rw [e] at l2; exact List.length_eq_zero_iff.mp l2
          subst e'
          rw [List.append_nil] at hp
          exact PostE.val hp rp hO ⟨p, xs, rfl, h1, r1⟩
        · exact PostE.tup hp rp hO (r1.append r2)
      · simp only [if_neg c] at hp; exact hp.elim
    | _ => exact hp.elim
  | _ => exact hp.elim
/-! ### xs + ys of any lists, one of which may be the script -/
def rCatL (K : PySem.W.Frag) : R2 := fun x y H Q => ∃ l b xs zs, x = .ref l ∧ y = .ref b ∧ SqL K H l xs ∧ SqL K H b zs ∧ xs.length + zs.length ≤ sizeLine ∧ ∀ p, H p = none → Q (.ref p) (upd H p (.lst (xs ++ zs)))
theorem op_catL {Xc : Cx} : OpR Xc (binaryOp .Add) (rCatL Xc.K) := by
  intro pins s σ H x y v u Q I rx ry ⟨l, b, xs, zs, ex, ey, hl, hb, hz, q⟩
  subst ex ey
  cases rx
  cases ry
  obtain ⟨i1, r1, p1, _⟩ := I.list hl
  obtain ⟨i2, r2, p2, _⟩ := I.list hb
  have l1 := r1.length
  have l2 := r2.length
  obtain ⟨⟨cls, dd, data, sl⟩, ho, hc, n, hd⟩ := id p1.isList
  obtain ⟨⟨cls2, dd2, data2, sl2⟩, ho2, hc2, n2, hd2⟩ := id p2.isList
  simp only at hc hd hc2 hd2
  subst hc hd hc2 hd2
  refine concat_meets ⟨_, ho, rfl⟩ ⟨_, ho2, rfl⟩ noFill_list_add seq_list_add PySem.F.slot_list_add PySem.F.entry_list_add (PySem.F.args_list_add_2 _ _)
    (list_addW l b i1.toArray i2.toArray n n2 dd dd2 sl sl2 (by rw [List.size_toArray, List.size_toArray]; omega)) ⟨ho, ho2, ?_⟩
  rw [show i1.toArray ++ i2.toArray = (i1 ++ i2).toArray by simp]
  exact ⟨.ref _, _, I.lnew (t' := s.toks) (r1.append r2) (by rw [List.length_append]; omega), rfl, q _ I.fresh⟩
def addX : D → D → M R
  | .scr ns, .lst y => if ns.length + y.length ≤ lim then M.pure (.own (.lst (ns.map D.int ++ y))) else M.bad
  | .lst x, .lst y => if x.length + y.length ≤ lim then M.pure (.own (.lst (x ++ y))) else M.bad
  | _, _ => M.bad
theorem ints_rep {G : GD} {W : WD} {H : Hp} : ∀ {ns : List Int}, RepDs G W H (ns.map D.int) (ns.map V.int)
  | [] => rfl
  | n :: ns => .cons rfl ints_rep
theorem ol_addX {G : GD} {X : WX} : OpL G X (rCatL G.K) addX := by
  intro W s σ H x y a b O Q rp la lb hO hp
  cases a with
  | scr ns =>
    cases b with
    | lst j =>
      obtain ⟨p, e1, h1⟩ := la.scr rfl
      obtain ⟨q, ys, e2, h2, r2⟩ := lb.lst
      subst e1 e2
      unfold addX at hp
      by_cases c : ns.length + j.length ≤ lim
      · simp only [if_pos c] at hp
        have l2 := r2.length
        exact ⟨p, q, _, ys, rfl, rfl, h1, .inl h2, by rw [List.length_map]; have := lim_le c; omega, PostE.lst hp rp hO (ints_rep.append r2)⟩
      · simp only [if_neg c] at hp; exact hp.elim
    | _ => exact hp.elim
  | lst i =>
    cases b with
    | lst j =>
      obtain ⟨p, xs, e1, h1, r1⟩ := la.lst
      obtain ⟨q, ys, e2, h2, r2⟩ := lb.lst
      subst e1 e2
      unfold addX at hp
      by_cases c : i.length + j.length ≤ lim
      · simp only [if_pos c] at hp
        have l1 := r1.length
        have l2 := r2.length
        exact ⟨p, q, xs, ys, rfl, rfl, .inl h1, .inl h2, by have := lim_le c; omega, PostE.lst hp rp hO (r1.append r2)⟩
      · simp only [if_neg c] at hp; exact hp.elim
    | _ => exact hp.elim
  | _ => exact hp.elim
theorem kb_addX {G : GD} {X : WX} {Xc : Cx} {N : List Str} {nm : List (Str × NameKind)} (F : Fm Xc G X N nm) : OpR Xc (binaryOp .Add) (rCatL G.K) := by
  rw [← F.eK]
  exact op_catL
theorem ki_addT {G : GD} {X : WX} {Xc : Cx} {N : List Str} {nm : List (Str × NameKind)} (F : Fm Xc G X N nm) : OpR Xc (inplaceOp .Add) (rAddT G.K) := by
  rw [← F.eK]
  exact iop_add.or op_icatA
section
variable {s : DS} {QR : R → DS → Prop} {φ : List D → M R} {fs : M (List D)} {np : Nat}
theorem w_callS : Ok (sCallS np φ fs s) QR = Ok (fs s) fun ds s1 => (np ≤ ds.length ∧ ds.length ≤ 1000) ∧ Ok (φ (ds.take np ++ [.tup (ds.drop np)]) s1) QR := by
  show Ok ((fs >>= fun ds => if np ≤ ds.length ∧ ds.length ≤ 1000 then φ (ds.take np ++ [.tup (ds.drop np)]) else M.bad) s) QR = _
  rw [w_bind]
  congr 1
  funext ds s1
  by_cases c : np ≤ ds.length ∧ ds.length ≤ 1000
  · rw [if_pos c]; exact propext ⟨fun h => ⟨c, h⟩, fun h => h.2⟩
  · rw [if_neg c]; exact propext ⟨fun h => h.elim, fun h => (c h.1).elim⟩
end
end DL

namespace L06
open PySem PySem.Spec PyProof.Rows L2 DL
def top (i : Nat) : Stmt := PySem.Challenge.pw_carrynet_k06_whole_nets_side_by_side.main.body.getD i (.Pass ⟨0, 0, 0, 0⟩)
abbrev s_is_integer : Stmt := top 11
def w_is_integer : He.DefD := ⟨("is_integer", none), "is_integer", "is_integer", defArgs s_is_integer, defBody s_is_integer, defScope s_is_integer, [], []⟩
abbrev s_is_between : Stmt := top 12
def w_is_between : He.DefD := ⟨("is_between", none), "is_between", "is_between", defArgs s_is_between, defBody s_is_between, defScope s_is_between, [], []⟩
abbrev s_is_wire : Stmt := top 13
def w_is_wire : He.DefD := ⟨("is_wire", none), "is_wire", "is_wire", defArgs s_is_wire, defBody s_is_wire, defScope s_is_wire, [], []⟩
abbrev s_moduli_problem : Stmt := top 14
def w_moduli_problem : He.DefD := ⟨("moduli_problem", none), "moduli_problem", "moduli_problem", defArgs s_moduli_problem, defBody s_moduli_problem, defScope s_moduli_problem, [], []⟩
abbrev s_wires_problem : Stmt := top 15
def w_wires_problem : He.DefD := ⟨("wires_problem", none), "wires_problem", "wires_problem", defArgs s_wires_problem, defBody s_wires_problem, defScope s_wires_problem, [], []⟩
abbrev s_inputs_problem : Stmt := top 16
def w_inputs_problem : He.DefD := ⟨("inputs_problem", none), "inputs_problem", "inputs_problem", defArgs s_inputs_problem, defBody s_inputs_problem, defScope s_inputs_problem, [], []⟩
abbrev s_net_problem : Stmt := top 17
def w_net_problem : He.DefD := ⟨("net_problem", none), "net_problem", "net_problem", defArgs s_net_problem, defBody s_net_problem, defScope s_net_problem, [], []⟩
abbrev s_validate_net : Stmt := top 18
def w_validate_net : He.DefD := ⟨("validate_net", none), "validate_net", "validate_net", defArgs s_validate_net, defBody s_validate_net, defScope s_validate_net, [], []⟩
abbrev s_opened : Stmt := top 19
def w_opened : He.DefD := ⟨("opened", none), "opened", "opened", defArgs s_opened, defBody s_opened, defScope s_opened, [], []⟩
abbrev s_joined : Stmt := top 20
def w_joined : He.DefD := ⟨("joined", none), "joined", "joined", defArgs s_joined, defBody s_joined, defScope s_joined, [], []⟩
abbrev s_state_count : Stmt := top 21
def w_state_count : He.DefD := ⟨("state_count", none), "state_count", "state_count", defArgs s_state_count, defBody s_state_count, defScope s_state_count, [], []⟩
abbrev s_validate_phases : Stmt := top 22
def w_validate_phases : He.DefD := ⟨("validate_phases", none), "validate_phases", "validate_phases", defArgs s_validate_phases, defBody s_validate_phases, defScope s_validate_phases, [], []⟩
abbrev s_validate_ticks : Stmt := top 24
def w_validate_ticks : He.DefD := ⟨("validate_ticks", none), "validate_ticks", "validate_ticks", defArgs s_validate_ticks, defBody s_validate_ticks, defScope s_validate_ticks, [], []⟩
abbrev s_flow : Stmt := top 25
def w_flow : He.DefD := ⟨("flow", none), "flow", "flow", defArgs s_flow, defBody s_flow, defScope s_flow, [], []⟩
abbrev s_checked_flow : Stmt := top 26
def w_checked_flow : He.DefD := ⟨("checked_flow", none), "checked_flow", "checked_flow", defArgs s_checked_flow, defBody s_checked_flow, defScope s_checked_flow, [], []⟩
abbrev s_arrivals : Stmt := top 27
def w_arrivals : He.DefD := ⟨("arrivals", none), "arrivals", "arrivals", defArgs s_arrivals, defBody s_arrivals, defScope s_arrivals, [], []⟩
abbrev s_carries : Stmt := top 28
def w_carries : He.DefD := ⟨("carries", none), "carries", "carries", defArgs s_carries, defBody s_carries, defScope s_carries, [], []⟩
abbrev s_after : Stmt := top 29
def w_after : He.DefD := ⟨("after", none), "after", "after", defArgs s_after, defBody s_after, defScope s_after, [], []⟩
abbrev s__law_source : Stmt := top 31
def w__law_source : He.DefD := ⟨("_law_source", none), "_law_source", "_law_source", defArgs s__law_source, defBody s__law_source, defScope s__law_source, [], []⟩
abbrev s__law_draw : Stmt := top 32
def w__law_draw : He.DefD := ⟨("_law_draw", none), "_law_draw", "_law_draw", defArgs s__law_draw, defBody s__law_draw, defScope s__law_draw, [], []⟩
abbrev s__law_pick : Stmt := top 33
def w__law_pick : He.DefD := ⟨("_law_pick", none), "_law_pick", "_law_pick", defArgs s__law_pick, defBody s__law_pick, defScope s__law_pick, [], []⟩
abbrev s__law_net : Stmt := top 34
def w__law_net : He.DefD := ⟨("_law_net", none), "_law_net", "_law_net", defArgs s__law_net, defBody s__law_net, defScope s__law_net, [], []⟩
abbrev s__law_wide : Stmt := top 35
def w__law_wide : He.DefD := ⟨("_law_wide", none), "_law_wide", "_law_wide", defArgs s__law_wide, defBody s__law_wide, defScope s__law_wide, [], []⟩
abbrev s__law_vector : Stmt := top 36
def w__law_vector : He.DefD := ⟨("_law_vector", none), "_law_vector", "_law_vector", defArgs s__law_vector, defBody s__law_vector, defScope s__law_vector, [], []⟩
abbrev s__law_told : Stmt := top 37
def w__law_told : He.DefD := ⟨("_law_told", none), "_law_told", "_law_told", defArgs s__law_told, defBody s__law_told, defScope s__law_told, [], []⟩
abbrev s_law : Stmt := top 38
def w_law : He.DefD := ⟨("law", none), "law", "law", defArgs s_law, defBody s_law, defScope s_law, [], []⟩
def fn : List He.DefD := [w_is_integer, w_is_between, w_is_wire, w_moduli_problem, w_wires_problem, w_inputs_problem, w_net_problem, w_validate_net, w_opened, w_joined, w_state_count, w_validate_phases, w_validate_ticks, w_flow, w_checked_flow, w_arrivals, w_carries, w_after, w__law_source, w__law_draw, w__law_pick, w__law_net, w__law_wide, w__law_vector, w__law_told, w_law]
def fa : List He.Fa := [.glo "is_integer", .glo "is_between", .glo "is_wire", .glo "moduli_problem", .glo "wires_problem", .glo "inputs_problem", .glo "net_problem", .glo "validate_net", .glo "opened", .glo "joined", .glo "state_count", .glo "validate_phases", .glo "validate_ticks", .glo "flow", .glo "checked_flow", .glo "arrivals", .glo "carries", .glo "after", .glo "_law_source", .glo "_law_draw", .glo "_law_pick", .glo "_law_net", .glo "_law_wide", .glo "_law_vector", .glo "_law_told", .glo "law", .int "MOST_COUNTERS" 10, .int "MOST_MODULUS" 1000, .int "MOST_WEIGHT" 100, .int "MOST_TICKS" 10000000000000000000000000000000000000000, .free "ValueError", .free "bool", .free "divmod", .free "enumerate", .free "int", .free "isinstance", .free "len", .free "list", .free "min", .free "range", .free "repr", .free "sum", .free "tuple", .free "zip"]
abbrev Rw : PySem.W.OpenRow := PySem.W.OpenLaw.row PySem.Challenge.rw_carrynet_k06_whole_nets_side_by_side
abbrev hk : PySem.W.Hook := He.hookD 5 fa fn
def ob (s : PySem.W.SharedT) : He.AlD := He.obsDG 5 fa fn (HandSHeadRun.getT s)
theorem ob_eq (s : PySem.W.SharedT) : ob s = hk.obs s.abs := He.obsDG_eq (HandSHeadRun.getT_eq s)
def loose0 : List PySem.Str := ["CarryError", "InvalidNet", "InvalidPhases", "InvalidTicks", "TooLarge", "MOST_COUNTERS", "MOST_MODULUS", "MOST_WEIGHT", "MOST_TICKS", "is_integer", "is_between", "is_wire", "moduli_problem", "wires_problem", "inputs_problem", "net_problem", "validate_net", "opened", "joined", "state_count", "validate_phases", "validate_ticks", "flow", "checked_flow", "arrivals", "carries", "after", "_law_source", "_law_draw", "_law_pick"]
def loose1 : List PySem.Str := ["_law_net", "_law_wide", "_law_vector", "_law_told"]
def loose : List PySem.Str := loose0 ++ loose1
theorem run (w : World) : HandSHeadRun.RunEq Rw (PySem.W.view Rw.prog [38]) hk ob 4000 loose w := by
  intro os
  kernel_rfl

def m_is_integer : M Ctl := sRet (sAndV (DL.s2 (rd2 isiM) (sVar 0) (sC (.ty "int"))) (sNotV (DL.s2 (rd2 isiM) (sVar 0) (sC (.ty "bool")))))
def r_is_integer (ds : List D) : M R := DL.fnOf 1 m_is_integer ds
abbrev N_is_integer : List PySem.Str := ["value"]
abbrev P_is_integer : List PySem.Str := ["value"]
theorem sc_is_integer : FnScope N_is_integer P_is_integer (defScope s_is_integer) := ⟨rfl, rfl, rfl, by decide +kernel, rfl, by decide +kernel, by decide +kernel⟩
theorem d_is_integer {Xc : Cx} {G : GD} {X : WX} (F : FmS Xc G X N_is_integer (defScope s_is_integer).names) (hr : RoomG 0 Xc.A) (g_int : G.mg ("int" : PySem.Str) = none) (g_isinstance : G.mg ("isinstance" : PySem.Str) = none) (g_bool : G.mg ("bool" : PySem.Str) = none) : PSs Xc (defBody s_is_integer) (TSt G X m_is_integer) :=
  j_last (j_ret (j_andV (j_isinstance F.toFm rfl g_isinstance (j_var F.toFm (i := 0) rfl (.inl rfl)) (j_ty F.toFm rfl g_int boot_int)) (pe_one (j_notV (j_isinstance F.toFm rfl g_isinstance (j_var F.toFm (i := 0) rfl (.inl rfl)) (j_ty F.toFm rfl g_bool boot_bool))))))
theorem h_is_integer {P : Program} {w : World} {K : PySem.W.Frag} {mg : PySem.Str → Option Value} {base : Heap} {f : Addr} {fd : FuncData} (FD : FunD K "is_integer" "is_integer" (defArgs s_is_integer) (defBody s_is_integer) (defScope s_is_integer) [] [] f fd) (hmg : mg "is_integer" = some (.ref f)) (g_int : mg ("int" : PySem.Str) = none) (g_isinstance : mg ("isinstance" : PySem.Str) = none) (g_bool : mg ("bool" : PySem.Str) = none) : Has P w K mg base ⟨K, mg⟩ 1 "is_integer" f fd P_is_integer r_is_integer :=
  has_of FD sc_is_integer hmg rfl (by decide) (fun _ _ _ _ _ _ us hl => match us, hl with | [_], _ => rfl) fun Xc X e1 e2 e3 e4 e5 F hr => by
    subst e1 e2 e3 e4 e5
    exact d_is_integer F hr g_int g_isinstance g_bool
def m_flow : M Ctl := sSeq (sPar [3, 4, 5] (kCons (DL.s1 (rd1 listM) (sVar 2)) (kCons (sLst (sNil)) (kCons (sLst (sNil)) (kNil)))))
  (sSeq (sFor (gT 2 (gsC (gN 6) (gsC (gN 7) (gsN)))) (sEnum (DL.s2 (rd2 ixD) (sVar 0) (sC (.int 0)))) (sSeq (sAsg (gT 2 (gsC (gN 8) (gsC (gN 9) (gsN)))) (DL.s2 (rd2 dmM) (DL.s2 (rd2 addD) (DL.s2 (rd2 ixD) (sVar 1) (sVar 6)) (DL.s2 (rd2 ixD) (sVar 3) (sVar 6))) (sVar 7)))
  (sSeq (sDrop (sM isL appF (sVar 4) (sCons (sVar 8) sNil)))
  (sSeq (sDrop (sM isL appF (sVar 5) (sCons (sVar 9) sNil)))
  (sFor (gT 3 (gsC (gN 10) (gsC (gN 11) (gsC (gN 12) (gsN))))) (sIt (DL.s2 (rd2 ixD) (sVar 0) (sC (.int 1)))) (sIf (sB (DL.s2 (rd2 eqM) (sVar 10) (sVar 6))) (sAugS (sVar 3) (sVar 11) (rd2 (intD addG)) (DL.s2 (rd2 mulM) (sVar 12) (sVar 8))) (sSkip)))))))
  (sRet (sTup (sCons (DL.s1 (rd1 tupM) (sVar 3)) (sCons (DL.s1 (rd1 tupM) (sVar 4)) (sCons (DL.s1 (rd1 tupM) (sVar 5)) (sNil)))))))
def r_flow (ds : List D) : M R := DL.fnOf 13 m_flow ds
abbrev N_flow : List PySem.Str := ["net", "phases", "vector", "coming", "crossed", "later", "counter", "modulus", "number", "phase", "source", "target", "weight"]
abbrev P_flow : List PySem.Str := ["net", "phases", "vector"]
theorem sc_flow : FnScope N_flow P_flow (defScope s_flow) := ⟨rfl, rfl, rfl, by decide +kernel, rfl, by decide +kernel, by decide +kernel⟩
theorem d_flow {Xc : Cx} {G : GD} {X : WX} (F : FmS Xc G X N_flow (defScope s_flow).names) (hr : RoomG 0 Xc.A) (g_list : G.mg ("list" : PySem.Str) = none) (g_enumerate : G.mg ("enumerate" : PySem.Str) = none) (g_divmod : G.mg ("divmod" : PySem.Str) = none) (g_tuple : G.mg ("tuple" : PySem.Str) = none) : PSs Xc (defBody s_flow) (TSt G X m_flow) :=
  j_seq (j_par3 F.toFm (i := 3) (j := 4) (k := 5) rfl rfl rfl (by decide) (by decide) (by decide) rfl rfl rfl rfl rfl (by decide) rfl rfl rfl (j_kc (j_list F.toFm rfl g_list (j_var F.toFm (i := 2) rfl (.inl rfl))) (j_kc (j_lst (j_nil)) (j_kc (j_lst (j_nil)) (j_kn)))))
  (j_seq (j_for F (ji_enum F.toFm rfl g_enumerate (j_ix F.toFm (j_var F.toFm (i := 0) rfl (.inl rfl)) (j_int))) (jg_tup F.toFm (jgs_cons (jg_name F.toFm (i := 6) rfl rfl) (jgs_cons (jg_name F.toFm (i := 7) rfl rfl) (jgs_nil)))) (j_seq (j_asg (j_divmod F.toFm rfl g_divmod (je_op (kb_add F.toFm) ol_add.op (j_ix F.toFm (j_var F.toFm (i := 1) rfl (.inl rfl)) (j_var F.toFm (i := 6) rfl (.inl rfl))) (j_ix F.toFm (j_var F.toFm (i := 3) rfl (.inl rfl)) (j_var F.toFm (i := 6) rfl (.inl rfl)))) (j_var F.toFm (i := 7) rfl (.inl rfl))) (jg_tup F.toFm (jgs_cons (jg_name F.toFm (i := 8) rfl rfl) (jgs_cons (jg_name F.toFm (i := 9) rfl rfl) (jgs_nil)))))
  (j_seq (j_expr (j_append F.toFm (j_var F.toFm (i := 4) rfl (.inl rfl)) (j_var F.toFm (i := 8) rfl (.inl rfl))))
  (j_seq (j_expr (j_append F.toFm (j_var F.toFm (i := 5) rfl (.inl rfl)) (j_var F.toFm (i := 9) rfl (.inl rfl))))
  (j_last (j_for F (ji_val F.toFm.eK (j_ix F.toFm (j_var F.toFm (i := 0) rfl (.inl rfl)) (j_int))) (jg_tup F.toFm (jgs_cons (jg_name F.toFm (i := 10) rfl rfl) (jgs_cons (jg_name F.toFm (i := 11) rfl rfl) (jgs_cons (jg_name F.toFm (i := 12) rfl rfl) (jgs_nil))))) (j_last (j_if (j_cmpT (kc_eq F.toFm) ol_eq.op (j_var F.toFm (i := 10) rfl (.inl rfl)) (j_var F.toFm (i := 6) rfl (.inl rfl)) (nomark _)) (j_last (j_augS F.toFm (j_var F.toFm (i := 3) rfl (.inl rfl)) (j_var F.toFm (i := 11) rfl (.inl rfl)) (ki_add F.toFm) ol_iadd.op (je_op (kb_mul F.toFm) ol_mul.op (j_var F.toFm (i := 12) rfl (.inl rfl)) (j_var F.toFm (i := 8) rfl (.inl rfl))))) (j_skips)))))))))
  (j_last (j_ret (j_tup (j_cons (j_tuple F.toFm rfl g_tuple (j_var F.toFm (i := 3) rfl (.inl rfl))) (j_cons (j_tuple F.toFm rfl g_tuple (j_var F.toFm (i := 4) rfl (.inl rfl))) (j_cons (j_tuple F.toFm rfl g_tuple (j_var F.toFm (i := 5) rfl (.inl rfl))) (j_nil))))))))
theorem h_flow {P : Program} {w : World} {K : PySem.W.Frag} {mg : PySem.Str → Option Value} {base : Heap} {f : Addr} {fd : FuncData} (FD : FunD K "flow" "flow" (defArgs s_flow) (defBody s_flow) (defScope s_flow) [] [] f fd) (hmg : mg "flow" = some (.ref f)) (g_list : mg ("list" : PySem.Str) = none) (g_enumerate : mg ("enumerate" : PySem.Str) = none) (g_divmod : mg ("divmod" : PySem.Str) = none) (g_tuple : mg ("tuple" : PySem.Str) = none) : Has P w K mg base ⟨K, mg⟩ 1 "flow" f fd P_flow r_flow :=
  has_of FD sc_flow hmg rfl (by decide) (fun _ _ _ _ _ _ us hl => match us, hl with | [_, _, _], _ => rfl) fun Xc X e1 e2 e3 e4 e5 F hr => by
    subst e1 e2 e3 e4 e5
    exact d_flow F hr g_list g_enumerate g_divmod g_tuple
def m__law_source : M Ctl := sRet (sDisp [(sC (.str "cells"), DL.s2 (rd2 addX) (sVar 0) (sLst (sCons (DL.s1 (rd1 lenM) (sVar 0)) (sNil)))), (sC (.str "next"), sC (.int 0)), (sC (.str "rest"), sC (.int 0)), (sC (.str "count"), sC (.int 0))])
def r__law_source (ds : List D) : M R := DL.fnOf 1 m__law_source ds
abbrev N__law_source : List PySem.Str := ["script"]
abbrev P__law_source : List PySem.Str := ["script"]
theorem sc__law_source : FnScope N__law_source P__law_source (defScope s__law_source) := ⟨rfl, rfl, rfl, by decide +kernel, rfl, by decide +kernel, by decide +kernel⟩
theorem d__law_source {Xc : Cx} {G : GD} {X : WX} (F : FmS Xc G X N__law_source (defScope s__law_source).names) (hr : RoomG 0 Xc.A) (g_len : G.mg ("len" : PySem.Str) = none) : PSs Xc (defBody s__law_source) (TSt G X m__law_source) :=
  j_last (j_ret (j_disp (fs := [(sC (.str "cells"), DL.s2 (rd2 addX) (sVar 0) (sLst (sCons (DL.s1 (rd1 lenM) (sVar 0)) (sNil)))), (sC (.str "next"), sC (.int 0)), (sC (.str "rest"), sC (.int 0)), (sC (.str "count"), sC (.int 0))]) (j_pcons (j_str) (je_op (kb_addX F.toFm) ol_addX.op (j_var F.toFm (i := 0) rfl (.inl rfl)) (j_lst (j_cons (j_len F.toFm rfl g_len (j_var F.toFm (i := 0) rfl (.inl rfl))) (j_nil)))) (j_pcons (j_str) (j_int) (j_pcons (j_str) (j_int) (j_pcons (j_str) (j_int) (j_pnil))))) rfl rfl (fun z => nomatch z) (by decide)))
theorem h__law_source {P : Program} {w : World} {K : PySem.W.Frag} {mg : PySem.Str → Option Value} {base : Heap} {f : Addr} {fd : FuncData} (FD : FunD K "_law_source" "_law_source" (defArgs s__law_source) (defBody s__law_source) (defScope s__law_source) [] [] f fd) (hmg : mg "_law_source" = some (.ref f)) (g_len : mg ("len" : PySem.Str) = none) : Has P w K mg base ⟨K, mg⟩ 1 "_law_source" f fd P__law_source r__law_source :=
  has_of FD sc__law_source hmg rfl (by decide) (fun _ _ _ _ _ _ us hl => match us, hl with | [_], _ => rfl) fun Xc X e1 e2 e3 e4 e5 F hr => by
    subst e1 e2 e3 e4 e5
    exact d__law_source F hr g_len
def m__law_draw : M Ctl := sSeq (sIf (sB (DL.s2 (rd2 eqM) (DL.s2 (rd2 ixD) (sVar 0) (sC (.str "rest"))) (sC (.int 0)))) (sSeq (sSet 2 (DL.s2 (rd2 ixD) (DL.s2 (rd2 ixD) (sVar 0) (sC (.str "cells"))) (DL.s2 (rd2 (intD modG)) (DL.s2 (rd2 ixD) (sVar 0) (sC (.str "next"))) (DL.s1 (rd1 lenM) (DL.s2 (rd2 ixD) (sVar 0) (sC (.str "cells")))))))
  (sSeq (sAsg (gSub (sVar 0) (sC (.str "next"))) (DL.s2 (rd2 addD) (DL.s2 (rd2 ixD) (sVar 0) (sC (.str "next"))) (sC (.int 1))))
  (sIf (sAnd (sB (DL.s2 (rd2 geM) (sVar 2) (DL.s2 (rd2 (intD powG)) (sC (.int 10)) (sC (.int 18))))) (sB (DL.s2 (rd2 leM) (DL.s2 (rd2 ixD) (sVar 0) (sC (.str "next"))) (DL.s1 (rd1 lenM) (DL.s2 (rd2 ixD) (sVar 0) (sC (.str "cells"))))))) (sAsg (gSub (sVar 0) (sC (.str "rest"))) (sVar 2)) (sSeq (sSet 3 (DL.s2 (rd2 addD) (DL.s2 (rd2 ixD) (sVar 0) (sC (.str "count"))) (sC (.int 1))))
  (sSeq (sAsg (gSub (sVar 0) (sC (.str "count"))) (sVar 3))
  (sSeq (sSet 4 (DL.s2 (rd2 (intD modG)) (DL.s2 (rd2 mulM) (DL.s2 (rd2 addD) (DL.s2 (rd2 (intD modG)) (sVar 2) (sC (.int 2147483629))) (DL.s2 (rd2 mulM) (sC (.int 7919)) (sVar 3))) (DL.s2 (rd2 addD) (DL.s2 (rd2 mulM) (sVar 3) (sVar 3)) (sC (.int 48271)))) (sC (.int 2147483647))))
  (sSeq (sAsg (gSub (sVar 0) (sC (.str "rest"))) (DL.s2 (rd2 mulM) (DL.s2 (rd2 (intD modG)) (DL.s2 (rd2 mulM) (sVar 4) (sC (.int 16777619))) (sC (.int 2147483563))) (sC (.int 2147483647))))
  (sAsg (gSub (sVar 0) (sC (.str "rest"))) (DL.s2 (rd2 addD) (DL.s2 (rd2 addD) (DL.s2 (rd2 ixD) (sVar 0) (sC (.str "rest"))) (DL.s2 (rd2 (intD modG)) (DL.s2 (rd2 mulM) (sVar 4) (sVar 4)) (sC (.int 2147483587)))) (sC (.int 1))))))))))) (sSkip))
  (sSeq (sSet 5 (DL.s2 (rd2 (intD modG)) (DL.s2 (rd2 ixD) (sVar 0) (sC (.str "rest"))) (sVar 1)))
  (sSeq (sAsg (gSub (sVar 0) (sC (.str "rest"))) (DL.s2 (rd2 (intD divG)) (DL.s2 (rd2 ixD) (sVar 0) (sC (.str "rest"))) (sVar 1)))
  (sRet (sVar 5))))
def r__law_draw (ds : List D) : M R := DL.fnOf 6 m__law_draw ds
abbrev N__law_draw : List PySem.Str := ["source", "limit", "cell", "count", "mixed", "drawn"]
abbrev P__law_draw : List PySem.Str := ["source", "limit"]
theorem sc__law_draw : FnScope N__law_draw P__law_draw (defScope s__law_draw) := ⟨rfl, rfl, rfl, by decide +kernel, rfl, by decide +kernel, by decide +kernel⟩
theorem d__law_draw {Xc : Cx} {G : GD} {X : WX} (F : FmS Xc G X N__law_draw (defScope s__law_draw).names) (hr : RoomG 0 Xc.A) (g_len : G.mg ("len" : PySem.Str) = none) : PSs Xc (defBody s__law_draw) (TSt G X m__law_draw) :=
  j_seq (j_if (j_cmpT (kc_eq F.toFm) ol_eq.op (j_ix F.toFm (j_var F.toFm (i := 0) rfl (.inl rfl)) (j_str)) (j_int) (nomark _)) (j_seq (j_set F (i := 2) rfl (.inl rfl) (j_ix F.toFm (j_ix F.toFm (j_var F.toFm (i := 0) rfl (.inl rfl)) (j_str)) (je_op (kb_mod F.toFm) ol_mod.op (j_ix F.toFm (j_var F.toFm (i := 0) rfl (.inl rfl)) (j_str)) (j_len F.toFm rfl g_len (j_ix F.toFm (j_var F.toFm (i := 0) rfl (.inl rfl)) (j_str))))))
  (j_seq (j_asg (je_op (kb_add F.toFm) ol_add.op (j_ix F.toFm (j_var F.toFm (i := 0) rfl (.inl rfl)) (j_str)) (j_int)) (jg_sub F.toFm (j_var F.toFm (i := 0) rfl (.inl rfl)) (j_str)))
  (j_last (j_if (PW.pt (j_and (j_cmpT (kc_ge F.toFm) ol_ge.op (j_var F.toFm (i := 2) rfl (.inl rfl)) (je_op (kb_pow F.toFm) ol_pow.op (j_int) (j_int)) (nomark _)) (pw_and1 (j_cmpT (kc_le F.toFm) ol_le.op (j_ix F.toFm (j_var F.toFm (i := 0) rfl (.inl rfl)) (j_str)) (j_len F.toFm rfl g_len (j_ix F.toFm (j_var F.toFm (i := 0) rfl (.inl rfl)) (j_str))) (nomark _))))) (j_last (j_asg (j_var F.toFm (i := 2) rfl (.inl rfl)) (jg_sub F.toFm (j_var F.toFm (i := 0) rfl (.inl rfl)) (j_str)))) (j_seq (j_set F (i := 3) rfl (.inl rfl) (je_op (kb_add F.toFm) ol_add.op (j_ix F.toFm (j_var F.toFm (i := 0) rfl (.inl rfl)) (j_str)) (j_int)))
  (j_seq (j_asg (j_var F.toFm (i := 3) rfl (.inl rfl)) (jg_sub F.toFm (j_var F.toFm (i := 0) rfl (.inl rfl)) (j_str)))
  (j_seq (j_set F (i := 4) rfl (.inl rfl) (je_op (kb_mod F.toFm) ol_mod.op (je_op (kb_mul F.toFm) ol_mul.op (je_op (kb_add F.toFm) ol_add.op (je_op (kb_mod F.toFm) ol_mod.op (j_var F.toFm (i := 2) rfl (.inl rfl)) (j_int)) (je_op (kb_mul F.toFm) ol_mul.op (j_int) (j_var F.toFm (i := 3) rfl (.inl rfl)))) (je_op (kb_add F.toFm) ol_add.op (je_op (kb_mul F.toFm) ol_mul.op (j_var F.toFm (i := 3) rfl (.inl rfl)) (j_var F.toFm (i := 3) rfl (.inl rfl))) (j_int))) (j_int)))
  (j_seq (j_asg (je_op (kb_mul F.toFm) ol_mul.op (je_op (kb_mod F.toFm) ol_mod.op (je_op (kb_mul F.toFm) ol_mul.op (j_var F.toFm (i := 4) rfl (.inl rfl)) (j_int)) (j_int)) (j_int)) (jg_sub F.toFm (j_var F.toFm (i := 0) rfl (.inl rfl)) (j_str)))
  (j_last (j_asg (je_op (kb_add F.toFm) ol_add.op (je_op (kb_add F.toFm) ol_add.op (j_ix F.toFm (j_var F.toFm (i := 0) rfl (.inl rfl)) (j_str)) (je_op (kb_mod F.toFm) ol_mod.op (je_op (kb_mul F.toFm) ol_mul.op (j_var F.toFm (i := 4) rfl (.inl rfl)) (j_var F.toFm (i := 4) rfl (.inl rfl))) (j_int))) (j_int)) (jg_sub F.toFm (j_var F.toFm (i := 0) rfl (.inl rfl)) (j_str)))))))))))) (j_skips))
  (j_seq (j_set F (i := 5) rfl (.inl rfl) (je_op (kb_mod F.toFm) ol_mod.op (j_ix F.toFm (j_var F.toFm (i := 0) rfl (.inl rfl)) (j_str)) (j_var F.toFm (i := 1) rfl (.inl rfl))))
  (j_seq (j_asg (je_op (kb_div F.toFm) ol_div.op (j_ix F.toFm (j_var F.toFm (i := 0) rfl (.inl rfl)) (j_str)) (j_var F.toFm (i := 1) rfl (.inl rfl))) (jg_sub F.toFm (j_var F.toFm (i := 0) rfl (.inl rfl)) (j_str)))
  (j_last (j_ret (j_var F.toFm (i := 5) rfl (.inl rfl))))))
theorem h__law_draw {P : Program} {w : World} {K : PySem.W.Frag} {mg : PySem.Str → Option Value} {base : Heap} {f : Addr} {fd : FuncData} (FD : FunD K "_law_draw" "_law_draw" (defArgs s__law_draw) (defBody s__law_draw) (defScope s__law_draw) [] [] f fd) (hmg : mg "_law_draw" = some (.ref f)) (g_len : mg ("len" : PySem.Str) = none) : Has P w K mg base ⟨K, mg⟩ 1 "_law_draw" f fd P__law_draw r__law_draw :=
  has_of FD sc__law_draw hmg rfl (by decide) (fun _ _ _ _ _ _ us hl => match us, hl with | [_, _], _ => rfl) fun Xc X e1 e2 e3 e4 e5 F hr => by
    subst e1 e2 e3 e4 e5
    exact d__law_draw F hr g_len
def m_is_between : M Ctl := sRet (sAndV (sCall 1 r_is_integer (sCons (sVar 0) (sNil))) (sChain (rd2 leM) (rd2 leM) (sVar 1) (sVar 0) (sVar 2)))
def r_is_between (ds : List D) : M R := DL.fnOf 3 m_is_between ds
abbrev N_is_between : List PySem.Str := ["value", "least", "most"]
abbrev P_is_between : List PySem.Str := ["value", "least", "most"]
theorem sc_is_between : FnScope N_is_between P_is_between (defScope s_is_between) := ⟨rfl, rfl, rfl, by decide +kernel, rfl, by decide +kernel, by decide +kernel⟩
theorem d_is_between {Xc : Cx} {G : GD} {X : WX} (F : FmS Xc G X N_is_between (defScope s_is_between).names) (hr : RoomG 1 Xc.A) {f_is_integer : Addr} {fd_is_integer : FuncData} (C_is_integer : Has Xc.prog Xc.w Xc.K Xc.mg Xc.base G 1 "is_integer" f_is_integer fd_is_integer P_is_integer r_is_integer) : PSs Xc (defBody s_is_between) (TSt G X m_is_between) :=
  j_last (j_ret (j_andV (j_call (ps := P_is_integer) (φ := r_is_integer) F.toFm C_is_integer (hr.mono (by decide)) rfl (j_cons (j_var F.toFm (i := 0) rfl (.inl rfl)) (j_nil))) (pe_one (j_chain (kc_le F.toFm) (kc_le F.toFm) ol_le.op ol_le.op (j_var F.toFm (i := 1) rfl (.inl rfl)) (j_var F.toFm (i := 0) rfl (.inl rfl)) (j_var F.toFm (i := 2) rfl (.inl rfl))))))
theorem h_is_between {P : Program} {w : World} {K : PySem.W.Frag} {mg : PySem.Str → Option Value} {base : Heap} {f : Addr} {fd : FuncData} (FD : FunD K "is_between" "is_between" (defArgs s_is_between) (defBody s_is_between) (defScope s_is_between) [] [] f fd) (hmg : mg "is_between" = some (.ref f)) {f_is_integer : Addr} {fd_is_integer : FuncData} (C_is_integer : Has P w K mg base ⟨K, mg⟩ 1 "is_integer" f_is_integer fd_is_integer P_is_integer r_is_integer) : Has P w K mg base ⟨K, mg⟩ 2 "is_between" f fd P_is_between r_is_between :=
  has_of FD sc_is_between hmg rfl (by decide) (fun _ _ _ _ _ _ us hl => match us, hl with | [_, _, _], _ => rfl) fun Xc X e1 e2 e3 e4 e5 F hr => by
    subst e1 e2 e3 e4 e5
    exact d_is_between F hr C_is_integer
def m__law_pick : M Ctl := sRet (DL.s2 (rd2 ixD) (sVar 1) (sCall 2 r__law_draw (sCons (sVar 0) (sCons (DL.s1 (rd1 lenM) (sVar 1)) (sNil)))))
def r__law_pick (ds : List D) : M R := DL.fnOf 2 m__law_pick ds
abbrev N__law_pick : List PySem.Str := ["source", "items"]
abbrev P__law_pick : List PySem.Str := ["source", "items"]
theorem sc__law_pick : FnScope N__law_pick P__law_pick (defScope s__law_pick) := ⟨rfl, rfl, rfl, by decide +kernel, rfl, by decide +kernel, by decide +kernel⟩
theorem d__law_pick {Xc : Cx} {G : GD} {X : WX} (F : FmS Xc G X N__law_pick (defScope s__law_pick).names) (hr : RoomG 1 Xc.A) {f__law_draw : Addr} {fd__law_draw : FuncData} (C__law_draw : Has Xc.prog Xc.w Xc.K Xc.mg Xc.base G 1 "_law_draw" f__law_draw fd__law_draw P__law_draw r__law_draw) (g_len : G.mg ("len" : PySem.Str) = none) : PSs Xc (defBody s__law_pick) (TSt G X m__law_pick) :=
  j_last (j_ret (j_ix F.toFm (j_var F.toFm (i := 1) rfl (.inl rfl)) (j_call (ps := P__law_draw) (φ := r__law_draw) F.toFm C__law_draw (hr.mono (by decide)) rfl (j_cons (j_var F.toFm (i := 0) rfl (.inl rfl)) (j_cons (j_len F.toFm rfl g_len (j_var F.toFm (i := 1) rfl (.inl rfl))) (j_nil))))))
theorem h__law_pick {P : Program} {w : World} {K : PySem.W.Frag} {mg : PySem.Str → Option Value} {base : Heap} {f : Addr} {fd : FuncData} (FD : FunD K "_law_pick" "_law_pick" (defArgs s__law_pick) (defBody s__law_pick) (defScope s__law_pick) [] [] f fd) (hmg : mg "_law_pick" = some (.ref f)) {f__law_draw : Addr} {fd__law_draw : FuncData} (C__law_draw : Has P w K mg base ⟨K, mg⟩ 1 "_law_draw" f__law_draw fd__law_draw P__law_draw r__law_draw) (g_len : mg ("len" : PySem.Str) = none) : Has P w K mg base ⟨K, mg⟩ 2 "_law_pick" f fd P__law_pick r__law_pick :=
  has_of FD sc__law_pick hmg rfl (by decide) (fun _ _ _ _ _ _ us hl => match us, hl with | [_, _], _ => rfl) fun Xc X e1 e2 e3 e4 e5 F hr => by
    subst e1 e2 e3 e4 e5
    exact d__law_pick F hr C__law_draw g_len
def m__law_wide : M Ctl := sSeq (sSet 1 (sC (.int 0)))
  (sSeq (sFor (gN 2) (sRng1 (sCons (DL.s2 (rd2 addD) (sC (.int 1)) (sCall 2 r__law_draw (sCons (sVar 0) (sCons (sC (.int 4)) (sNil))))) (sNil))) (sSet 1 (DL.s2 (rd2 addD) (DL.s2 (rd2 mulM) (sVar 1) (sC (.int 100000))) (sCall 2 r__law_draw (sCons (sVar 0) (sCons (sC (.int 100000)) (sNil)))))))
  (sRet (sIf (sB (DL.s2 (rd2 eqM) (sCall 2 r__law_draw (sCons (sVar 0) (sCons (sC (.int 2)) (sNil)))) (sC (.int 0)))) (sVar 1) (DL.s2 (rd2 (intD subG)) (sC (.int 0)) (sVar 1)))))
def r__law_wide (ds : List D) : M R := DL.fnOf 3 m__law_wide ds
abbrev N__law_wide : List PySem.Str := ["source", "found", "k"]
abbrev P__law_wide : List PySem.Str := ["source"]
theorem sc__law_wide : FnScope N__law_wide P__law_wide (defScope s__law_wide) := ⟨rfl, rfl, rfl, by decide +kernel, rfl, by decide +kernel, by decide +kernel⟩
theorem d__law_wide {Xc : Cx} {G : GD} {X : WX} (F : FmS Xc G X N__law_wide (defScope s__law_wide).names) (hr : RoomG 1 Xc.A) {f__law_draw : Addr} {fd__law_draw : FuncData} (C__law_draw : Has Xc.prog Xc.w Xc.K Xc.mg Xc.base G 1 "_law_draw" f__law_draw fd__law_draw P__law_draw r__law_draw) (g_range : G.mg ("range" : PySem.Str) = none) : PSs Xc (defBody s__law_wide) (TSt G X m__law_wide) :=
  j_seq (j_set F (i := 1) rfl (.inl rfl) (j_int))
  (j_seq (j_for F (ji_range1 F.toFm rfl g_range (j_cons (je_op (kb_add F.toFm) ol_add.op (j_int) (j_call (ps := P__law_draw) (φ := r__law_draw) F.toFm C__law_draw (hr.mono (by decide)) rfl (j_cons (j_var F.toFm (i := 0) rfl (.inl rfl)) (j_cons (j_int) (j_nil))))) (j_nil))) (jg_name F.toFm (i := 2) rfl rfl) (j_last (j_set F (i := 1) rfl (.inl rfl) (je_op (kb_add F.toFm) ol_add.op (je_op (kb_mul F.toFm) ol_mul.op (j_var F.toFm (i := 1) rfl (.inl rfl)) (j_int)) (j_call (ps := P__law_draw) (φ := r__law_draw) F.toFm C__law_draw (hr.mono (by decide)) rfl (j_cons (j_var F.toFm (i := 0) rfl (.inl rfl)) (j_cons (j_int) (j_nil))))))))
  (j_last (j_ret (j_ife (j_cmpT (kc_eq F.toFm) ol_eq.op (j_call (ps := P__law_draw) (φ := r__law_draw) F.toFm C__law_draw (hr.mono (by decide)) rfl (j_cons (j_var F.toFm (i := 0) rfl (.inl rfl)) (j_cons (j_int) (j_nil)))) (j_int) (nomark _)) (j_var F.toFm (i := 1) rfl (.inl rfl)) (je_op (kb_sub F.toFm) ol_sub.op (j_int) (j_var F.toFm (i := 1) rfl (.inl rfl)))))))
theorem h__law_wide {P : Program} {w : World} {K : PySem.W.Frag} {mg : PySem.Str → Option Value} {base : Heap} {f : Addr} {fd : FuncData} (FD : FunD K "_law_wide" "_law_wide" (defArgs s__law_wide) (defBody s__law_wide) (defScope s__law_wide) [] [] f fd) (hmg : mg "_law_wide" = some (.ref f)) {f__law_draw : Addr} {fd__law_draw : FuncData} (C__law_draw : Has P w K mg base ⟨K, mg⟩ 1 "_law_draw" f__law_draw fd__law_draw P__law_draw r__law_draw) (g_range : mg ("range" : PySem.Str) = none) : Has P w K mg base ⟨K, mg⟩ 2 "_law_wide" f fd P__law_wide r__law_wide :=
  has_of FD sc__law_wide hmg rfl (by decide) (fun _ _ _ _ _ _ us hl => match us, hl with | [_], _ => rfl) fun Xc X e1 e2 e3 e4 e5 F hr => by
    subst e1 e2 e3 e4 e5
    exact d__law_wide F hr C__law_draw g_range
def m_is_wire : M Ctl := sSeq (sIf (sOr (sNot (sTru (DL.s2 (rd2 isiM) (sVar 0) (sC (.ty "tuple"))))) (sB (DL.s2 (rd2 neM) (DL.s1 (rd1 lenM) (sVar 0)) (sC (.int 3))))) (sRet (sC (.bl false))) (sSkip))
  (sSeq (sAsg (gT 3 (gsC (gN 2) (gsC (gN 3) (gsC (gN 4) (gsN))))) (sVar 0))
  (sSeq (sIf (sOr (sNot (sTru (sCall 3 r_is_between (sCons (sVar 2) (sCons (sC (.int 0)) (sCons (DL.s2 (rd2 (intD subG)) (sVar 1) (sC (.int 1))) (sNil))))))) (sNot (sTru (sCall 3 r_is_between (sCons (sVar 3) (sCons (DL.s2 (rd2 addD) (sVar 2) (sC (.int 1))) (sCons (DL.s2 (rd2 (intD subG)) (sVar 1) (sC (.int 1))) (sNil)))))))) (sRet (sC (.bl false))) (sSkip))
  (sRet (sAndV (sCall 3 r_is_between (sCons (sVar 4) (sCons (DL.s1 (rd1 negM) (sC (.int 100))) (sCons (sC (.int 100)) (sNil))))) (DL.s2 (rd2 neM) (sVar 4) (sC (.int 0)))))))
def r_is_wire (ds : List D) : M R := DL.fnOf 5 m_is_wire ds
abbrev N_is_wire : List PySem.Str := ["value", "many", "source", "target", "weight"]
abbrev P_is_wire : List PySem.Str := ["value", "many"]
theorem sc_is_wire : FnScope N_is_wire P_is_wire (defScope s_is_wire) := ⟨rfl, rfl, rfl, by decide +kernel, rfl, by decide +kernel, by decide +kernel⟩
theorem d_is_wire {Xc : Cx} {G : GD} {X : WX} (F : FmS Xc G X N_is_wire (defScope s_is_wire).names) (hr : RoomG 2 Xc.A) {f_is_between : Addr} {fd_is_between : FuncData} (C_is_between : Has Xc.prog Xc.w Xc.K Xc.mg Xc.base G 2 "is_between" f_is_between fd_is_between P_is_between r_is_between) (g_tuple : G.mg ("tuple" : PySem.Str) = none) (g_isinstance : G.mg ("isinstance" : PySem.Str) = none) (g_len : G.mg ("len" : PySem.Str) = none) {t_MOST_WEIGHT : Tok} (k_MOST_WEIGHT : G.mg ("MOST_WEIGHT" : PySem.Str) = some (.int 100 t_MOST_WEIGHT)) : PSs Xc (defBody s_is_wire) (TSt G X m_is_wire) :=
  j_seq (j_if (PW.pt (j_or (j_not (j_tru (j_isinstance F.toFm rfl g_isinstance (j_var F.toFm (i := 0) rfl (.inl rfl)) (j_ty F.toFm rfl g_tuple boot_tuple)) F.toFm.eK)) (pw_or1 (j_cmpT (kc_ne F.toFm) ol_ne.op (j_len F.toFm rfl g_len (j_var F.toFm (i := 0) rfl (.inl rfl))) (j_int) (nomark _))))) (j_last (j_ret (j_bl))) (j_skips))
  (j_seq (j_asg (j_var F.toFm (i := 0) rfl (.inl rfl)) (jg_tup F.toFm (jgs_cons (jg_name F.toFm (i := 2) rfl rfl) (jgs_cons (jg_name F.toFm (i := 3) rfl rfl) (jgs_cons (jg_name F.toFm (i := 4) rfl rfl) (jgs_nil))))))
  (j_seq (j_if (PW.pt (j_or (j_not (j_tru (j_call (ps := P_is_between) (φ := r_is_between) F.toFm C_is_between (hr.mono (by decide)) rfl (j_cons (j_var F.toFm (i := 2) rfl (.inl rfl)) (j_cons (j_int) (j_cons (je_op (kb_sub F.toFm) ol_sub.op (j_var F.toFm (i := 1) rfl (.inl rfl)) (j_int)) (j_nil))))) F.toFm.eK)) (pw_or1 (j_not (j_tru (j_call (ps := P_is_between) (φ := r_is_between) F.toFm C_is_between (hr.mono (by decide)) rfl (j_cons (j_var F.toFm (i := 3) rfl (.inl rfl)) (j_cons (je_op (kb_add F.toFm) ol_add.op (j_var F.toFm (i := 2) rfl (.inl rfl)) (j_int)) (j_cons (je_op (kb_sub F.toFm) ol_sub.op (j_var F.toFm (i := 1) rfl (.inl rfl)) (j_int)) (j_nil))))) F.toFm.eK))))) (j_last (j_ret (j_bl))) (j_skips))
  (j_last (j_ret (j_andV (j_call (ps := P_is_between) (φ := r_is_between) F.toFm C_is_between (hr.mono (by decide)) rfl (j_cons (j_var F.toFm (i := 4) rfl (.inl rfl)) (j_cons (j_neg (j_glo F.toFm rfl k_MOST_WEIGHT rfl ⟨_, rfl⟩)) (j_cons (j_glo F.toFm rfl k_MOST_WEIGHT rfl ⟨_, rfl⟩) (j_nil))))) (pe_one (je_cmp (kc_ne F.toFm) ol_ne.op (j_var F.toFm (i := 4) rfl (.inl rfl)) (j_int) (nomark _))))))))
theorem h_is_wire {P : Program} {w : World} {K : PySem.W.Frag} {mg : PySem.Str → Option Value} {base : Heap} {f : Addr} {fd : FuncData} (FD : FunD K "is_wire" "is_wire" (defArgs s_is_wire) (defBody s_is_wire) (defScope s_is_wire) [] [] f fd) (hmg : mg "is_wire" = some (.ref f)) {f_is_between : Addr} {fd_is_between : FuncData} (C_is_between : Has P w K mg base ⟨K, mg⟩ 2 "is_between" f_is_between fd_is_between P_is_between r_is_between) (g_tuple : mg ("tuple" : PySem.Str) = none) (g_isinstance : mg ("isinstance" : PySem.Str) = none) (g_len : mg ("len" : PySem.Str) = none) {t_MOST_WEIGHT : Tok} (k_MOST_WEIGHT : mg ("MOST_WEIGHT" : PySem.Str) = some (.int 100 t_MOST_WEIGHT)) : Has P w K mg base ⟨K, mg⟩ 3 "is_wire" f fd P_is_wire r_is_wire :=
  has_of FD sc_is_wire hmg rfl (by decide) (fun _ _ _ _ _ _ us hl => match us, hl with | [_, _], _ => rfl) fun Xc X e1 e2 e3 e4 e5 F hr => by
    subst e1 e2 e3 e4 e5
    exact d_is_wire F hr C_is_between g_tuple g_isinstance g_len k_MOST_WEIGHT
def m_moduli_problem : M Ctl := sSeq (sIf (sOr (sNot (sTru (DL.s2 (rd2 isiM) (sVar 0) (sC (.ty "tuple"))))) (sNot (sB (sChain (rd2 leM) (rd2 leM) (sC (.int 1)) (DL.s1 (rd1 lenM) (sVar 0)) (sC (.int 10)))))) (sRet (sTup (sCons (sC (.str "moduli")) (sCons (sC .non) (sNil))))) (sSkip))
  (sSeq (sFor (gT 2 (gsC (gN 1) (gsC (gN 2) (gsN)))) (sEnum (sVar 0)) (sIf (sNot (sTru (sCall 3 r_is_between (sCons (sVar 2) (sCons (sC (.int 2)) (sCons (sC (.int 1000)) (sNil))))))) (sRet (sTup (sCons (sC (.str "moduli")) (sCons (sVar 1) (sNil))))) (sSkip)))
  (sRet (sC .non)))
def r_moduli_problem (ds : List D) : M R := DL.fnOf 3 m_moduli_problem ds
abbrev N_moduli_problem : List PySem.Str := ["moduli", "index", "modulus"]
abbrev P_moduli_problem : List PySem.Str := ["moduli"]
theorem sc_moduli_problem : FnScope N_moduli_problem P_moduli_problem (defScope s_moduli_problem) := ⟨rfl, rfl, rfl, by decide +kernel, rfl, by decide +kernel, by decide +kernel⟩
theorem d_moduli_problem {Xc : Cx} {G : GD} {X : WX} (F : FmS Xc G X N_moduli_problem (defScope s_moduli_problem).names) (hr : RoomG 2 Xc.A) {f_is_between : Addr} {fd_is_between : FuncData} (C_is_between : Has Xc.prog Xc.w Xc.K Xc.mg Xc.base G 2 "is_between" f_is_between fd_is_between P_is_between r_is_between) (g_tuple : G.mg ("tuple" : PySem.Str) = none) (g_isinstance : G.mg ("isinstance" : PySem.Str) = none) (g_len : G.mg ("len" : PySem.Str) = none) (g_enumerate : G.mg ("enumerate" : PySem.Str) = none) {t_MOST_COUNTERS : Tok} (k_MOST_COUNTERS : G.mg ("MOST_COUNTERS" : PySem.Str) = some (.int 10 t_MOST_COUNTERS)) {t_MOST_MODULUS : Tok} (k_MOST_MODULUS : G.mg ("MOST_MODULUS" : PySem.Str) = some (.int 1000 t_MOST_MODULUS)) : PSs Xc (defBody s_moduli_problem) (TSt G X m_moduli_problem) :=
  j_seq (j_if (PW.pt (j_or (j_not (j_tru (j_isinstance F.toFm rfl g_isinstance (j_var F.toFm (i := 0) rfl (.inl rfl)) (j_ty F.toFm rfl g_tuple boot_tuple)) F.toFm.eK)) (pw_or1 (j_not (j_chainT (kc_le F.toFm) (kc_le F.toFm) ol_le.op ol_le.op (j_int) (j_len F.toFm rfl g_len (j_var F.toFm (i := 0) rfl (.inl rfl))) (j_glo F.toFm rfl k_MOST_COUNTERS rfl ⟨_, rfl⟩)))))) (j_last (j_ret (j_tup (j_cons (j_str) (j_cons (j_non) (j_nil)))))) (j_skips))
  (j_seq (j_for F (ji_enum F.toFm rfl g_enumerate (j_var F.toFm (i := 0) rfl (.inl rfl))) (jg_tup F.toFm (jgs_cons (jg_name F.toFm (i := 1) rfl rfl) (jgs_cons (jg_name F.toFm (i := 2) rfl rfl) (jgs_nil)))) (j_last (j_if (j_not (j_tru (j_call (ps := P_is_between) (φ := r_is_between) F.toFm C_is_between (hr.mono (by decide)) rfl (j_cons (j_var F.toFm (i := 2) rfl (.inl rfl)) (j_cons (j_int) (j_cons (j_glo F.toFm rfl k_MOST_MODULUS rfl ⟨_, rfl⟩) (j_nil))))) F.toFm.eK)) (j_last (j_ret (j_tup (j_cons (j_str) (j_cons (j_var F.toFm (i := 1) rfl (.inl rfl)) (j_nil)))))) (j_skips))))
  (j_last (j_ret (j_non))))
theorem h_moduli_problem {P : Program} {w : World} {K : PySem.W.Frag} {mg : PySem.Str → Option Value} {base : Heap} {f : Addr} {fd : FuncData} (FD : FunD K "moduli_problem" "moduli_problem" (defArgs s_moduli_problem) (defBody s_moduli_problem) (defScope s_moduli_problem) [] [] f fd) (hmg : mg "moduli_problem" = some (.ref f)) {f_is_between : Addr} {fd_is_between : FuncData} (C_is_between : Has P w K mg base ⟨K, mg⟩ 2 "is_between" f_is_between fd_is_between P_is_between r_is_between) (g_tuple : mg ("tuple" : PySem.Str) = none) (g_isinstance : mg ("isinstance" : PySem.Str) = none) (g_len : mg ("len" : PySem.Str) = none) (g_enumerate : mg ("enumerate" : PySem.Str) = none) {t_MOST_COUNTERS : Tok} (k_MOST_COUNTERS : mg ("MOST_COUNTERS" : PySem.Str) = some (.int 10 t_MOST_COUNTERS)) {t_MOST_MODULUS : Tok} (k_MOST_MODULUS : mg ("MOST_MODULUS" : PySem.Str) = some (.int 1000 t_MOST_MODULUS)) : Has P w K mg base ⟨K, mg⟩ 3 "moduli_problem" f fd P_moduli_problem r_moduli_problem :=
  has_of FD sc_moduli_problem hmg rfl (by decide) (fun _ _ _ _ _ _ us hl => match us, hl with | [_], _ => rfl) fun Xc X e1 e2 e3 e4 e5 F hr => by
    subst e1 e2 e3 e4 e5
    exact d_moduli_problem F hr C_is_between g_tuple g_isinstance g_len g_enumerate k_MOST_COUNTERS k_MOST_MODULUS
def m_inputs_problem : M Ctl := sSeq (sIf (sNot (sTru (DL.s2 (rd2 isiM) (sVar 0) (sC (.ty "tuple"))))) (sRet (sTup (sCons (sC (.str "inputs")) (sCons (sC .non) (sNil))))) (sSkip))
  (sSeq (sSet 2 (sC (.int 0)))
  (sSeq (sFor (gT 2 (gsC (gN 3) (gsC (gN 4) (gsN)))) (sEnum (sVar 0)) (sSeq (sIf (sNot (sTru (sCall 3 r_is_between (sCons (sVar 4) (sCons (sVar 2) (sCons (DL.s2 (rd2 (intD subG)) (sVar 1) (sC (.int 1))) (sNil))))))) (sRet (sTup (sCons (sC (.str "inputs")) (sCons (sVar 3) (sNil))))) (sSkip))
  (sSet 2 (DL.s2 (rd2 addD) (sVar 4) (sC (.int 1))))))
  (sRet (sC .non))))
def r_inputs_problem (ds : List D) : M R := DL.fnOf 5 m_inputs_problem ds
abbrev N_inputs_problem : List PySem.Str := ["inputs", "many", "least", "index", "counter"]
abbrev P_inputs_problem : List PySem.Str := ["inputs", "many"]
theorem sc_inputs_problem : FnScope N_inputs_problem P_inputs_problem (defScope s_inputs_problem) := ⟨rfl, rfl, rfl, by decide +kernel, rfl, by decide +kernel, by decide +kernel⟩
theorem d_inputs_problem {Xc : Cx} {G : GD} {X : WX} (F : FmS Xc G X N_inputs_problem (defScope s_inputs_problem).names) (hr : RoomG 2 Xc.A) {f_is_between : Addr} {fd_is_between : FuncData} (C_is_between : Has Xc.prog Xc.w Xc.K Xc.mg Xc.base G 2 "is_between" f_is_between fd_is_between P_is_between r_is_between) (g_tuple : G.mg ("tuple" : PySem.Str) = none) (g_isinstance : G.mg ("isinstance" : PySem.Str) = none) (g_enumerate : G.mg ("enumerate" : PySem.Str) = none) : PSs Xc (defBody s_inputs_problem) (TSt G X m_inputs_problem) :=
  j_seq (j_if (j_not (j_tru (j_isinstance F.toFm rfl g_isinstance (j_var F.toFm (i := 0) rfl (.inl rfl)) (j_ty F.toFm rfl g_tuple boot_tuple)) F.toFm.eK)) (j_last (j_ret (j_tup (j_cons (j_str) (j_cons (j_non) (j_nil)))))) (j_skips))
  (j_seq (j_set F (i := 2) rfl (.inl rfl) (j_int))
  (j_seq (j_for F (ji_enum F.toFm rfl g_enumerate (j_var F.toFm (i := 0) rfl (.inl rfl))) (jg_tup F.toFm (jgs_cons (jg_name F.toFm (i := 3) rfl rfl) (jgs_cons (jg_name F.toFm (i := 4) rfl rfl) (jgs_nil)))) (j_seq (j_if (j_not (j_tru (j_call (ps := P_is_between) (φ := r_is_between) F.toFm C_is_between (hr.mono (by decide)) rfl (j_cons (j_var F.toFm (i := 4) rfl (.inl rfl)) (j_cons (j_var F.toFm (i := 2) rfl (.inl rfl)) (j_cons (je_op (kb_sub F.toFm) ol_sub.op (j_var F.toFm (i := 1) rfl (.inl rfl)) (j_int)) (j_nil))))) F.toFm.eK)) (j_last (j_ret (j_tup (j_cons (j_str) (j_cons (j_var F.toFm (i := 3) rfl (.inl rfl)) (j_nil)))))) (j_skips))
  (j_last (j_set F (i := 2) rfl (.inl rfl) (je_op (kb_add F.toFm) ol_add.op (j_var F.toFm (i := 4) rfl (.inl rfl)) (j_int))))))
  (j_last (j_ret (j_non)))))
theorem h_inputs_problem {P : Program} {w : World} {K : PySem.W.Frag} {mg : PySem.Str → Option Value} {base : Heap} {f : Addr} {fd : FuncData} (FD : FunD K "inputs_problem" "inputs_problem" (defArgs s_inputs_problem) (defBody s_inputs_problem) (defScope s_inputs_problem) [] [] f fd) (hmg : mg "inputs_problem" = some (.ref f)) {f_is_between : Addr} {fd_is_between : FuncData} (C_is_between : Has P w K mg base ⟨K, mg⟩ 2 "is_between" f_is_between fd_is_between P_is_between r_is_between) (g_tuple : mg ("tuple" : PySem.Str) = none) (g_isinstance : mg ("isinstance" : PySem.Str) = none) (g_enumerate : mg ("enumerate" : PySem.Str) = none) : Has P w K mg base ⟨K, mg⟩ 3 "inputs_problem" f fd P_inputs_problem r_inputs_problem :=
  has_of FD sc_inputs_problem hmg rfl (by decide) (fun _ _ _ _ _ _ us hl => match us, hl with | [_, _], _ => rfl) fun Xc X e1 e2 e3 e4 e5 F hr => by
    subst e1 e2 e3 e4 e5
    exact d_inputs_problem F hr C_is_between g_tuple g_isinstance g_enumerate
def m__law_net : M Ctl := sSeq (sSet 3 (DL.s2 (rd2 addD) (sC (.int 1)) (sCall 2 r__law_draw (sCons (sVar 0) (sCons (sVar 1) (sNil))))))
  (sSeq (sPar [4, 5] (kCons (sLst (sNil)) (kCons (sLst (sNil)) (kNil))))
  (sSeq (sFor (gN 6) (sRng1 (sCons (sVar 3) (sNil))) (sDrop (sM isL appF (sVar 4) (sCons (DL.s2 (rd2 addD) (sC (.int 2)) (sCall 2 r__law_draw (sCons (sVar 0) (sCons (sCall 2 r__law_pick (sCons (sVar 0) (sCons (sLst (sCons (sC (.int 1)) (sCons (DL.s2 (rd2 (intD minG)) (sC (.int 4)) (DL.s2 (rd2 (intD subG)) (sVar 2) (sC (.int 1)))) (sCons (DL.s2 (rd2 (intD subG)) (sVar 2) (sC (.int 1))) (sNil))))) (sNil)))) (sNil))))) sNil))))
  (sSeq (sFor (gN 7) (sRng1 (sCons (sVar 3) (sNil))) (sFor (gN 8) (sRng2 (sCons (DL.s2 (rd2 addD) (sVar 7) (sC (.int 1))) (sCons (sVar 3) (sNil)))) (sIf (sB (DL.s2 (rd2 eqM) (sCall 2 r__law_draw (sCons (sVar 0) (sCons (sC (.int 2)) (sNil)))) (sC (.int 0)))) (sSeq (sSet 9 (sLst (sCons (sC (.int 1)) (sCons (DL.s1 (rd1 negM) (sC (.int 1))) (sCons (DL.s2 (rd2 addD) (sC (.int 1)) (sCall 2 r__law_draw (sCons (sVar 0) (sCons (sC (.int 100)) (sNil))))) (sCons (DL.s2 (rd2 (intD subG)) (DL.s1 (rd1 negM) (sC (.int 1))) (sCall 2 r__law_draw (sCons (sVar 0) (sCons (sC (.int 100)) (sNil))))) (sNil)))))))
  (sDrop (sM isL appF (sVar 5) (sCons (sTup (sCons (sVar 7) (sCons (sVar 8) (sCons (sCall 2 r__law_pick (sCons (sVar 0) (sCons (sVar 9) (sNil)))) (sNil))))) sNil)))) (sSkip))))
  (sSeq (sSet 10 (sLc [6] (sRng1 (sCons (sVar 3) (sNil))) (gN 6) (sB (DL.s2 (rd2 gtM) (sCall 2 r__law_draw (sCons (sVar 0) (sCons (sC (.int 3)) (sNil)))) (sC (.int 0)))) (sVar 6)))
  (sRet (sTup (sCons (DL.s1 (rd1 tupM) (sVar 4)) (sCons (DL.s1 (rd1 tupM) (sVar 5)) (sCons (DL.s1 (rd1 tupM) (sVar 10)) (sNil))))))))))
def r__law_net (ds : List D) : M R := DL.fnOf 11 m__law_net ds
abbrev N__law_net : List PySem.Str := ["source", "most", "widest", "many", "moduli", "wires", "k", "u", "v", "some", "entries"]
abbrev P__law_net : List PySem.Str := ["source", "most", "widest"]
theorem sc__law_net : FnScope N__law_net P__law_net (defScope s__law_net) := ⟨rfl, rfl, rfl, by decide +kernel, rfl, by decide +kernel, by decide +kernel⟩
theorem d__law_net {Xc : Cx} {G : GD} {X : WX} (F : FmS Xc G X N__law_net (defScope s__law_net).names) (hr : RoomG 2 Xc.A) {f__law_draw : Addr} {fd__law_draw : FuncData} (C__law_draw : Has Xc.prog Xc.w Xc.K Xc.mg Xc.base G 1 "_law_draw" f__law_draw fd__law_draw P__law_draw r__law_draw) {f__law_pick : Addr} {fd__law_pick : FuncData} (C__law_pick : Has Xc.prog Xc.w Xc.K Xc.mg Xc.base G 2 "_law_pick" f__law_pick fd__law_pick P__law_pick r__law_pick) (g_range : G.mg ("range" : PySem.Str) = none) (g_min : G.mg ("min" : PySem.Str) = none) (g_tuple : G.mg ("tuple" : PySem.Str) = none) : PSs Xc (defBody s__law_net) (TSt G X m__law_net) :=
  j_seq (j_set F (i := 3) rfl (.inl rfl) (je_op (kb_add F.toFm) ol_add.op (j_int) (j_call (ps := P__law_draw) (φ := r__law_draw) F.toFm C__law_draw (hr.mono (by decide)) rfl (j_cons (j_var F.toFm (i := 0) rfl (.inr (.inl rfl))) (j_cons (j_var F.toFm (i := 1) rfl (.inl rfl)) (j_nil))))))
  (j_seq (j_par2 F.toFm (i := 4) (j := 5) rfl rfl (by decide) rfl rfl rfl (by decide) rfl rfl rfl (j_kc (j_lst (j_nil)) (j_kc (j_lst (j_nil)) (j_kn))))
  (j_seq (j_for F (ji_range1 F.toFm rfl g_range (j_cons (j_var F.toFm (i := 3) rfl (.inl rfl)) (j_nil))) (jg_name F.toFm (i := 6) rfl rfl) (j_last (j_expr (j_append F.toFm (j_var F.toFm (i := 4) rfl (.inl rfl)) (je_op (kb_add F.toFm) ol_add.op (j_int) (j_call (ps := P__law_draw) (φ := r__law_draw) F.toFm C__law_draw (hr.mono (by decide)) rfl (j_cons (j_var F.toFm (i := 0) rfl (.inr (.inl rfl))) (j_cons (j_call (ps := P__law_pick) (φ := r__law_pick) F.toFm C__law_pick (hr.mono (by decide)) rfl (j_cons (j_var F.toFm (i := 0) rfl (.inr (.inl rfl))) (j_cons (j_lst (j_cons (j_int) (j_cons (j_min F.toFm rfl g_min (j_int) (je_op (kb_sub F.toFm) ol_sub.op (j_var F.toFm (i := 2) rfl (.inl rfl)) (j_int))) (j_cons (je_op (kb_sub F.toFm) ol_sub.op (j_var F.toFm (i := 2) rfl (.inl rfl)) (j_int)) (j_nil))))) (j_nil)))) (j_nil)))))))))
  (j_seq (j_for F (ji_range1 F.toFm rfl g_range (j_cons (j_var F.toFm (i := 3) rfl (.inl rfl)) (j_nil))) (jg_name F.toFm (i := 7) rfl rfl) (j_last (j_for F (ji_range2 F.toFm rfl g_range (j_cons (je_op (kb_add F.toFm) ol_add.op (j_var F.toFm (i := 7) rfl (.inl rfl)) (j_int)) (j_cons (j_var F.toFm (i := 3) rfl (.inl rfl)) (j_nil)))) (jg_name F.toFm (i := 8) rfl rfl) (j_last (j_if (j_cmpT (kc_eq F.toFm) ol_eq.op (j_call (ps := P__law_draw) (φ := r__law_draw) F.toFm C__law_draw (hr.mono (by decide)) rfl (j_cons (j_var F.toFm (i := 0) rfl (.inr (.inl rfl))) (j_cons (j_int) (j_nil)))) (j_int) (nomark _)) (j_seq (j_set F (i := 9) rfl (.inl rfl) (j_lst (j_cons (j_int) (j_cons (j_neg (j_int)) (j_cons (je_op (kb_add F.toFm) ol_add.op (j_int) (j_call (ps := P__law_draw) (φ := r__law_draw) F.toFm C__law_draw (hr.mono (by decide)) rfl (j_cons (j_var F.toFm (i := 0) rfl (.inr (.inl rfl))) (j_cons (j_int) (j_nil))))) (j_cons (je_op (kb_sub F.toFm) ol_sub.op (j_neg (j_int)) (j_call (ps := P__law_draw) (φ := r__law_draw) F.toFm C__law_draw (hr.mono (by decide)) rfl (j_cons (j_var F.toFm (i := 0) rfl (.inr (.inl rfl))) (j_cons (j_int) (j_nil))))) (j_nil)))))))
  (j_last (j_expr (j_append F.toFm (j_var F.toFm (i := 5) rfl (.inl rfl)) (j_tup (j_cons (j_var F.toFm (i := 7) rfl (.inl rfl)) (j_cons (j_var F.toFm (i := 8) rfl (.inl rfl)) (j_cons (j_call (ps := P__law_pick) (φ := r__law_pick) F.toFm C__law_pick (hr.mono (by decide)) rfl (j_cons (j_var F.toFm (i := 0) rfl (.inr (.inl rfl))) (j_cons (j_var F.toFm (i := 9) rfl (.inl rfl)) (j_nil)))) (j_nil))))))))) (j_skips))))))
  (j_seq (j_setLc F (i := 10) (own := [("k", 6)]) rfl rfl rfl rfl (by decide +kernel) rfl rfl (ji_range1 F.toFm rfl g_range (j_cons (j_var F.toFm (i := 3) rfl (.inl rfl)) (j_nil))) (fun _ _ _ _ _ FB => jg_name FB (i := 6) rfl rfl) (fun _ _ _ _ _ FB => j_one (j_cmpT (kc_gt FB) ol_gt.op (j_call (ps := P__law_draw) (φ := r__law_draw) FB C__law_draw (hr.mono (by decide)) rfl (j_cons (j_var FB (i := 0) rfl (.inr (.inl rfl))) (j_cons (j_int) (j_nil)))) (j_int) (nomark _))) (fun _ _ _ _ _ FB => j_var FB (i := 6) rfl (.inl rfl)))
  (j_last (j_ret (j_tup (j_cons (j_tuple F.toFm rfl g_tuple (j_var F.toFm (i := 4) rfl (.inl rfl))) (j_cons (j_tuple F.toFm rfl g_tuple (j_var F.toFm (i := 5) rfl (.inl rfl))) (j_cons (j_tuple F.toFm rfl g_tuple (j_var F.toFm (i := 10) rfl (.inl rfl))) (j_nil)))))))))))
theorem h__law_net {P : Program} {w : World} {K : PySem.W.Frag} {mg : PySem.Str → Option Value} {base : Heap} {f : Addr} {fd : FuncData} (FD : FunD K "_law_net" "_law_net" (defArgs s__law_net) (defBody s__law_net) (defScope s__law_net) [] [] f fd) (hmg : mg "_law_net" = some (.ref f)) {f__law_draw : Addr} {fd__law_draw : FuncData} (C__law_draw : Has P w K mg base ⟨K, mg⟩ 1 "_law_draw" f__law_draw fd__law_draw P__law_draw r__law_draw) {f__law_pick : Addr} {fd__law_pick : FuncData} (C__law_pick : Has P w K mg base ⟨K, mg⟩ 2 "_law_pick" f__law_pick fd__law_pick P__law_pick r__law_pick) (g_range : mg ("range" : PySem.Str) = none) (g_min : mg ("min" : PySem.Str) = none) (g_tuple : mg ("tuple" : PySem.Str) = none) : Has P w K mg base ⟨K, mg⟩ 3 "_law_net" f fd P__law_net r__law_net :=
  has_of FD sc__law_net hmg rfl (by decide) (fun _ _ _ _ _ _ us hl => match us, hl with | [_, _, _], _ => rfl) fun Xc X e1 e2 e3 e4 e5 F hr => by
    subst e1 e2 e3 e4 e5
    exact d__law_net F hr C__law_draw C__law_pick g_range g_min g_tuple
def m__law_vector : M Ctl := sRet (DL.s1 (rd1 tupM) (sLc [2] (sRng1 (sCons (DL.s1 (rd1 lenM) (DL.s2 (rd2 ixD) (sVar 1) (sC (.int 0)))) (sNil))) (gN 2) (M.pure true) (sIf (sB (DL.s2 (rd2 (inM false)) (sVar 2) (DL.s2 (rd2 ixD) (sVar 1) (sC (.int 2))))) (sCall 1 r__law_wide (sCons (sVar 0) (sNil))) (sC (.int 0)))))
def r__law_vector (ds : List D) : M R := DL.fnOf 3 m__law_vector ds
abbrev N__law_vector : List PySem.Str := ["source", "whole", "k"]
abbrev P__law_vector : List PySem.Str := ["source", "whole"]
theorem sc__law_vector : FnScope N__law_vector P__law_vector (defScope s__law_vector) := ⟨rfl, rfl, rfl, by decide +kernel, rfl, by decide +kernel, by decide +kernel⟩
theorem d__law_vector {Xc : Cx} {G : GD} {X : WX} (F : FmS Xc G X N__law_vector (defScope s__law_vector).names) (hr : RoomG 2 Xc.A) {f__law_wide : Addr} {fd__law_wide : FuncData} (C__law_wide : Has Xc.prog Xc.w Xc.K Xc.mg Xc.base G 2 "_law_wide" f__law_wide fd__law_wide P__law_wide r__law_wide) (g_len : G.mg ("len" : PySem.Str) = none) (g_range : G.mg ("range" : PySem.Str) = none) (g_tuple : G.mg ("tuple" : PySem.Str) = none) : PSs Xc (defBody s__law_vector) (TSt G X m__law_vector) :=
  j_last (j_ret (j_tuple F.toFm rfl g_tuple (j_lc F.toFm (own := [("k", 2)]) (by decide +kernel) rfl rfl (ji_range1 F.toFm rfl g_range (j_cons (j_len F.toFm rfl g_len (j_ix F.toFm (j_var F.toFm (i := 1) rfl (.inr (.inl rfl))) (j_int))) (j_nil))) (fun _ _ _ _ _ FB => jg_name FB (i := 2) rfl rfl) (fun _ _ _ _ _ FB => j_no) (fun _ _ _ _ _ FB => j_ife (j_cmpT (kc_in FB) ol_in.op (j_var FB (i := 2) rfl (.inl rfl)) (j_ix FB (j_var FB (i := 1) rfl (.inr (.inl rfl))) (j_int)) (by with_unfolding_all rfl)) (j_call (ps := P__law_wide) (φ := r__law_wide) FB C__law_wide (hr.mono (by decide)) rfl (j_cons (j_var FB (i := 0) rfl (.inr (.inl rfl))) (j_nil))) (j_int)))))
theorem h__law_vector {P : Program} {w : World} {K : PySem.W.Frag} {mg : PySem.Str → Option Value} {base : Heap} {f : Addr} {fd : FuncData} (FD : FunD K "_law_vector" "_law_vector" (defArgs s__law_vector) (defBody s__law_vector) (defScope s__law_vector) [] [] f fd) (hmg : mg "_law_vector" = some (.ref f)) {f__law_wide : Addr} {fd__law_wide : FuncData} (C__law_wide : Has P w K mg base ⟨K, mg⟩ 2 "_law_wide" f__law_wide fd__law_wide P__law_wide r__law_wide) (g_len : mg ("len" : PySem.Str) = none) (g_range : mg ("range" : PySem.Str) = none) (g_tuple : mg ("tuple" : PySem.Str) = none) : Has P w K mg base ⟨K, mg⟩ 3 "_law_vector" f fd P__law_vector r__law_vector :=
  has_of FD sc__law_vector hmg rfl (by decide) (fun _ _ _ _ _ _ us hl => match us, hl with | [_, _], _ => rfl) fun Xc X e1 e2 e3 e4 e5 F hr => by
    subst e1 e2 e3 e4 e5
    exact d__law_vector F hr C__law_wide g_len g_range g_tuple
def m_wires_problem : M Ctl := sSeq (sIf (sNot (sTru (DL.s2 (rd2 isiM) (sVar 0) (sC (.ty "tuple"))))) (sRet (sTup (sCons (sC (.str "wires")) (sCons (sC .non) (sNil))))) (sSkip))
  (sSeq (sSet 2 (sTup (sCons (sC (.int 0)) (sCons (sC (.int 0)) (sNil)))))
  (sSeq (sFor (gT 2 (gsC (gN 3) (gsC (gN 4) (gsN)))) (sEnum (sVar 0)) (sSeq (sIf (sOr (sNot (sTru (sCall 2 r_is_wire (sCons (sVar 4) (sCons (sVar 1) (sNil)))))) (sB (DL.s2 (rd2 leM) (sSl (sVar 4) (sNo) (sPart (sC (.int 2)))) (sVar 2)))) (sRet (sTup (sCons (sC (.str "wires")) (sCons (sVar 3) (sNil))))) (sSkip))
  (sSet 2 (sSl (sVar 4) (sNo) (sPart (sC (.int 2)))))))
  (sRet (sC .non))))
def r_wires_problem (ds : List D) : M R := DL.fnOf 5 m_wires_problem ds
abbrev N_wires_problem : List PySem.Str := ["wires", "many", "before", "index", "wire"]
abbrev P_wires_problem : List PySem.Str := ["wires", "many"]
theorem sc_wires_problem : FnScope N_wires_problem P_wires_problem (defScope s_wires_problem) := ⟨rfl, rfl, rfl, by decide +kernel, rfl, by decide +kernel, by decide +kernel⟩
theorem d_wires_problem {Xc : Cx} {G : GD} {X : WX} (F : FmS Xc G X N_wires_problem (defScope s_wires_problem).names) (hr : RoomG 3 Xc.A) {f_is_wire : Addr} {fd_is_wire : FuncData} (C_is_wire : Has Xc.prog Xc.w Xc.K Xc.mg Xc.base G 3 "is_wire" f_is_wire fd_is_wire P_is_wire r_is_wire) (g_tuple : G.mg ("tuple" : PySem.Str) = none) (g_isinstance : G.mg ("isinstance" : PySem.Str) = none) (g_enumerate : G.mg ("enumerate" : PySem.Str) = none) : PSs Xc (defBody s_wires_problem) (TSt G X m_wires_problem) :=
  j_seq (j_if (j_not (j_tru (j_isinstance F.toFm rfl g_isinstance (j_var F.toFm (i := 0) rfl (.inl rfl)) (j_ty F.toFm rfl g_tuple boot_tuple)) F.toFm.eK)) (j_last (j_ret (j_tup (j_cons (j_str) (j_cons (j_non) (j_nil)))))) (j_skips))
  (j_seq (j_set F (i := 2) rfl (.inl rfl) (j_tup (j_cons (j_int) (j_cons (j_int) (j_nil)))))
  (j_seq (j_for F (ji_enum F.toFm rfl g_enumerate (j_var F.toFm (i := 0) rfl (.inl rfl))) (jg_tup F.toFm (jgs_cons (jg_name F.toFm (i := 3) rfl rfl) (jgs_cons (jg_name F.toFm (i := 4) rfl rfl) (jgs_nil)))) (j_seq (j_if (PW.pt (j_or (j_not (j_tru (j_call (ps := P_is_wire) (φ := r_is_wire) F.toFm C_is_wire (hr.mono (by decide)) rfl (j_cons (j_var F.toFm (i := 4) rfl (.inl rfl)) (j_cons (j_var F.toFm (i := 1) rfl (.inl rfl)) (j_nil)))) F.toFm.eK)) (pw_or1 (j_cmpT (kc_le F.toFm) ol_le.op (j_sl F.toFm (j_var F.toFm (i := 4) rfl (.inl rfl)) (jo_no) (jo_part (j_int))) (j_var F.toFm (i := 2) rfl (.inl rfl)) (nomark _))))) (j_last (j_ret (j_tup (j_cons (j_str) (j_cons (j_var F.toFm (i := 3) rfl (.inl rfl)) (j_nil)))))) (j_skips))
  (j_last (j_set F (i := 2) rfl (.inl rfl) (j_sl F.toFm (j_var F.toFm (i := 4) rfl (.inl rfl)) (jo_no) (jo_part (j_int)))))))
  (j_last (j_ret (j_non)))))
theorem h_wires_problem {P : Program} {w : World} {K : PySem.W.Frag} {mg : PySem.Str → Option Value} {base : Heap} {f : Addr} {fd : FuncData} (FD : FunD K "wires_problem" "wires_problem" (defArgs s_wires_problem) (defBody s_wires_problem) (defScope s_wires_problem) [] [] f fd) (hmg : mg "wires_problem" = some (.ref f)) {f_is_wire : Addr} {fd_is_wire : FuncData} (C_is_wire : Has P w K mg base ⟨K, mg⟩ 3 "is_wire" f_is_wire fd_is_wire P_is_wire r_is_wire) (g_tuple : mg ("tuple" : PySem.Str) = none) (g_isinstance : mg ("isinstance" : PySem.Str) = none) (g_enumerate : mg ("enumerate" : PySem.Str) = none) : Has P w K mg base ⟨K, mg⟩ 4 "wires_problem" f fd P_wires_problem r_wires_problem :=
  has_of FD sc_wires_problem hmg rfl (by decide) (fun _ _ _ _ _ _ us hl => match us, hl with | [_, _], _ => rfl) fun Xc X e1 e2 e3 e4 e5 F hr => by
    subst e1 e2 e3 e4 e5
    exact d_wires_problem F hr C_is_wire g_tuple g_isinstance g_enumerate
def m_net_problem : M Ctl := sSeq (sIf (sOr (sNot (sTru (DL.s2 (rd2 isiM) (sVar 0) (sC (.ty "tuple"))))) (sB (DL.s2 (rd2 neM) (DL.s1 (rd1 lenM) (sVar 0)) (sC (.int 3))))) (sRet (sTup (sCons (sC (.str "form")) (sCons (sC .non) (sNil))))) (sSkip))
  (sSeq (sAsg (gT 3 (gsC (gN 1) (gsC (gN 2) (gsC (gN 3) (gsN))))) (sVar 0))
  (sSeq (sSet 4 (sCall 1 r_moduli_problem (sCons (sVar 1) (sNil))))
  (sSeq (sIf (sB (DL.s2 (rd2 (isM false)) (sVar 4) (sC .non))) (sSet 4 (sCall 2 r_wires_problem (sCons (sVar 2) (sCons (DL.s1 (rd1 lenM) (sVar 1)) (sNil))))) (sSkip))
  (sSeq (sIf (sB (DL.s2 (rd2 (isM false)) (sVar 4) (sC .non))) (sSet 4 (sCall 2 r_inputs_problem (sCons (sVar 3) (sCons (DL.s1 (rd1 lenM) (sVar 1)) (sNil))))) (sSkip))
  (sRet (sVar 4))))))
def r_net_problem (ds : List D) : M R := DL.fnOf 5 m_net_problem ds
abbrev N_net_problem : List PySem.Str := ["value", "moduli", "wires", "inputs", "problem"]
abbrev P_net_problem : List PySem.Str := ["value"]
theorem sc_net_problem : FnScope N_net_problem P_net_problem (defScope s_net_problem) := ⟨rfl, rfl, rfl, by decide +kernel, rfl, by decide +kernel, by decide +kernel⟩
theorem d_net_problem {Xc : Cx} {G : GD} {X : WX} (F : FmS Xc G X N_net_problem (defScope s_net_problem).names) (hr : RoomG 4 Xc.A) {f_moduli_problem : Addr} {fd_moduli_problem : FuncData} (C_moduli_problem : Has Xc.prog Xc.w Xc.K Xc.mg Xc.base G 3 "moduli_problem" f_moduli_problem fd_moduli_problem P_moduli_problem r_moduli_problem) {f_wires_problem : Addr} {fd_wires_problem : FuncData} (C_wires_problem : Has Xc.prog Xc.w Xc.K Xc.mg Xc.base G 4 "wires_problem" f_wires_problem fd_wires_problem P_wires_problem r_wires_problem) {f_inputs_problem : Addr} {fd_inputs_problem : FuncData} (C_inputs_problem : Has Xc.prog Xc.w Xc.K Xc.mg Xc.base G 3 "inputs_problem" f_inputs_problem fd_inputs_problem P_inputs_problem r_inputs_problem) (g_tuple : G.mg ("tuple" : PySem.Str) = none) (g_isinstance : G.mg ("isinstance" : PySem.Str) = none) (g_len : G.mg ("len" : PySem.Str) = none) : PSs Xc (defBody s_net_problem) (TSt G X m_net_problem) :=
  j_seq (j_if (PW.pt (j_or (j_not (j_tru (j_isinstance F.toFm rfl g_isinstance (j_var F.toFm (i := 0) rfl (.inl rfl)) (j_ty F.toFm rfl g_tuple boot_tuple)) F.toFm.eK)) (pw_or1 (j_cmpT (kc_ne F.toFm) ol_ne.op (j_len F.toFm rfl g_len (j_var F.toFm (i := 0) rfl (.inl rfl))) (j_int) (nomark _))))) (j_last (j_ret (j_tup (j_cons (j_str) (j_cons (j_non) (j_nil)))))) (j_skips))
  (j_seq (j_asg (j_var F.toFm (i := 0) rfl (.inl rfl)) (jg_tup F.toFm (jgs_cons (jg_name F.toFm (i := 1) rfl rfl) (jgs_cons (jg_name F.toFm (i := 2) rfl rfl) (jgs_cons (jg_name F.toFm (i := 3) rfl rfl) (jgs_nil))))))
  (j_seq (j_set F (i := 4) rfl (.inl rfl) (j_call (ps := P_moduli_problem) (φ := r_moduli_problem) F.toFm C_moduli_problem (hr.mono (by decide)) rfl (j_cons (j_var F.toFm (i := 1) rfl (.inl rfl)) (j_nil))))
  (j_seq (j_if (j_cmpT (kc_is F.toFm) ol_isN.op (j_var F.toFm (i := 4) rfl (.inl rfl)) (j_non) (nomark _)) (j_last (j_set F (i := 4) rfl (.inl rfl) (j_call (ps := P_wires_problem) (φ := r_wires_problem) F.toFm C_wires_problem (hr.mono (by decide)) rfl (j_cons (j_var F.toFm (i := 2) rfl (.inl rfl)) (j_cons (j_len F.toFm rfl g_len (j_var F.toFm (i := 1) rfl (.inl rfl))) (j_nil)))))) (j_skips))
  (j_seq (j_if (j_cmpT (kc_is F.toFm) ol_isN.op (j_var F.toFm (i := 4) rfl (.inl rfl)) (j_non) (nomark _)) (j_last (j_set F (i := 4) rfl (.inl rfl) (j_call (ps := P_inputs_problem) (φ := r_inputs_problem) F.toFm C_inputs_problem (hr.mono (by decide)) rfl (j_cons (j_var F.toFm (i := 3) rfl (.inl rfl)) (j_cons (j_len F.toFm rfl g_len (j_var F.toFm (i := 1) rfl (.inl rfl))) (j_nil)))))) (j_skips))
  (j_last (j_ret (j_var F.toFm (i := 4) rfl (.inl rfl))))))))
theorem h_net_problem {P : Program} {w : World} {K : PySem.W.Frag} {mg : PySem.Str → Option Value} {base : Heap} {f : Addr} {fd : FuncData} (FD : FunD K "net_problem" "net_problem" (defArgs s_net_problem) (defBody s_net_problem) (defScope s_net_problem) [] [] f fd) (hmg : mg "net_problem" = some (.ref f)) {f_moduli_problem : Addr} {fd_moduli_problem : FuncData} (C_moduli_problem : Has P w K mg base ⟨K, mg⟩ 3 "moduli_problem" f_moduli_problem fd_moduli_problem P_moduli_problem r_moduli_problem) {f_wires_problem : Addr} {fd_wires_problem : FuncData} (C_wires_problem : Has P w K mg base ⟨K, mg⟩ 4 "wires_problem" f_wires_problem fd_wires_problem P_wires_problem r_wires_problem) {f_inputs_problem : Addr} {fd_inputs_problem : FuncData} (C_inputs_problem : Has P w K mg base ⟨K, mg⟩ 3 "inputs_problem" f_inputs_problem fd_inputs_problem P_inputs_problem r_inputs_problem) (g_tuple : mg ("tuple" : PySem.Str) = none) (g_isinstance : mg ("isinstance" : PySem.Str) = none) (g_len : mg ("len" : PySem.Str) = none) : Has P w K mg base ⟨K, mg⟩ 5 "net_problem" f fd P_net_problem r_net_problem :=
  has_of FD sc_net_problem hmg rfl (by decide) (fun _ _ _ _ _ _ us hl => match us, hl with | [_], _ => rfl) fun Xc X e1 e2 e3 e4 e5 F hr => by
    subst e1 e2 e3 e4 e5
    exact d_net_problem F hr C_moduli_problem C_wires_problem C_inputs_problem g_tuple g_isinstance g_len
def m_validate_net : M Ctl := sSeq (sSet 1 (sCall 1 r_net_problem (sCons (sVar 0) (sNil))))
  (sIf (sB (DL.s2 (rd2 (isM true)) (sVar 1) (sC .non))) (M.bad) (sSkip))
def r_validate_net (ds : List D) : M R := DL.fnOf 2 m_validate_net ds
abbrev N_validate_net : List PySem.Str := ["net", "problem"]
abbrev P_validate_net : List PySem.Str := ["net"]
theorem sc_validate_net : FnScope N_validate_net P_validate_net (defScope s_validate_net) := ⟨rfl, rfl, rfl, by decide +kernel, rfl, by decide +kernel, by decide +kernel⟩
theorem d_validate_net {Xc : Cx} {G : GD} {X : WX} (F : FmS Xc G X N_validate_net (defScope s_validate_net).names) (hr : RoomG 5 Xc.A) {f_net_problem : Addr} {fd_net_problem : FuncData} (C_net_problem : Has Xc.prog Xc.w Xc.K Xc.mg Xc.base G 5 "net_problem" f_net_problem fd_net_problem P_net_problem r_net_problem) : PSs Xc (defBody s_validate_net) (TSt G X m_validate_net) :=
  j_seq (j_set F (i := 1) rfl (.inl rfl) (j_call (ps := P_net_problem) (φ := r_net_problem) F.toFm C_net_problem (hr.mono (by decide)) rfl (j_cons (j_var F.toFm (i := 0) rfl (.inl rfl)) (j_nil))))
  (j_last (j_if (j_cmpT (kc_nis F.toFm) ol_notN.op (j_var F.toFm (i := 1) rfl (.inl rfl)) (j_non) (nomark _)) (j_last (js_bad)) (j_skips)))
theorem h_validate_net {P : Program} {w : World} {K : PySem.W.Frag} {mg : PySem.Str → Option Value} {base : Heap} {f : Addr} {fd : FuncData} (FD : FunD K "validate_net" "validate_net" (defArgs s_validate_net) (defBody s_validate_net) (defScope s_validate_net) [] [] f fd) (hmg : mg "validate_net" = some (.ref f)) {f_net_problem : Addr} {fd_net_problem : FuncData} (C_net_problem : Has P w K mg base ⟨K, mg⟩ 5 "net_problem" f_net_problem fd_net_problem P_net_problem r_net_problem) : Has P w K mg base ⟨K, mg⟩ 6 "validate_net" f fd P_validate_net r_validate_net :=
  has_of FD sc_validate_net hmg rfl (by decide) (fun _ _ _ _ _ _ us hl => match us, hl with | [_], _ => rfl) fun Xc X e1 e2 e3 e4 e5 F hr => by
    subst e1 e2 e3 e4 e5
    exact d_validate_net F hr C_net_problem
def m_opened : M Ctl := sSeq (sDrop (sCall 1 r_validate_net (sCons (sVar 0) (sNil))))
  (sRet (sTup (sCons (DL.s2 (rd2 ixD) (sVar 0) (sC (.int 0))) (sCons (DL.s2 (rd2 ixD) (sVar 0) (sC (.int 1))) (sCons (DL.s1 (rd1 (rg1 false)) (DL.s1 (rd1 lenM) (DL.s2 (rd2 ixD) (sVar 0) (sC (.int 0))))) (sNil))))))
def r_opened (ds : List D) : M R := DL.fnOf 1 m_opened ds
abbrev N_opened : List PySem.Str := ["net"]
abbrev P_opened : List PySem.Str := ["net"]
theorem sc_opened : FnScope N_opened P_opened (defScope s_opened) := ⟨rfl, rfl, rfl, by decide +kernel, rfl, by decide +kernel, by decide +kernel⟩
theorem d_opened {Xc : Cx} {G : GD} {X : WX} (F : FmS Xc G X N_opened (defScope s_opened).names) (hr : RoomG 6 Xc.A) {f_validate_net : Addr} {fd_validate_net : FuncData} (C_validate_net : Has Xc.prog Xc.w Xc.K Xc.mg Xc.base G 6 "validate_net" f_validate_net fd_validate_net P_validate_net r_validate_net) (g_len : G.mg ("len" : PySem.Str) = none) (g_tuple : G.mg ("tuple" : PySem.Str) = none) (g_range : G.mg ("range" : PySem.Str) = none) : PSs Xc (defBody s_opened) (TSt G X m_opened) :=
  j_seq (j_expr (j_call (ps := P_validate_net) (φ := r_validate_net) F.toFm C_validate_net (hr.mono (by decide)) rfl (j_cons (j_var F.toFm (i := 0) rfl (.inl rfl)) (j_nil))))
  (j_last (j_ret (j_tup (j_cons (j_ix F.toFm (j_var F.toFm (i := 0) rfl (.inl rfl)) (j_int)) (j_cons (j_ix F.toFm (j_var F.toFm (i := 0) rfl (.inl rfl)) (j_int)) (j_cons (j_tupRg1 F.toFm rfl g_tuple rfl g_range (j_len F.toFm rfl g_len (j_ix F.toFm (j_var F.toFm (i := 0) rfl (.inl rfl)) (j_int)))) (j_nil)))))))
theorem h_opened {P : Program} {w : World} {K : PySem.W.Frag} {mg : PySem.Str → Option Value} {base : Heap} {f : Addr} {fd : FuncData} (FD : FunD K "opened" "opened" (defArgs s_opened) (defBody s_opened) (defScope s_opened) [] [] f fd) (hmg : mg "opened" = some (.ref f)) {f_validate_net : Addr} {fd_validate_net : FuncData} (C_validate_net : Has P w K mg base ⟨K, mg⟩ 6 "validate_net" f_validate_net fd_validate_net P_validate_net r_validate_net) (g_len : mg ("len" : PySem.Str) = none) (g_tuple : mg ("tuple" : PySem.Str) = none) (g_range : mg ("range" : PySem.Str) = none) : Has P w K mg base ⟨K, mg⟩ 7 "opened" f fd P_opened r_opened :=
  has_of FD sc_opened hmg rfl (by decide) (fun _ _ _ _ _ _ us hl => match us, hl with | [_], _ => rfl) fun Xc X e1 e2 e3 e4 e5 F hr => by
    subst e1 e2 e3 e4 e5
    exact d_opened F hr C_validate_net g_len g_tuple g_range
def m_joined : M Ctl := sSeq (sFor (gN 1) (sIt (sVar 0)) (sDrop (sCall 1 r_validate_net (sCons (sVar 1) (sNil)))))
  (sSeq (sIf (sB (DL.s2 (rd2 gtM) (DL.s1 (rd1 sumM) (sLc [1] (sIt (sVar 0)) (gN 1) (M.pure true) (DL.s1 (rd1 lenM) (DL.s2 (rd2 ixD) (sVar 1) (sC (.int 0)))))) (sC (.int 10)))) (M.bad) (sSkip))
  (sSeq (sAsg (gT 3 (gsC (gN 2) (gsC (gN 3) (gsC (gN 4) (gsN))))) (sTup (sCons (sTup (sNil)) (sCons (sTup (sNil)) (sCons (sTup (sNil)) (sNil))))))
  (sSeq (sFor (gN 1) (sIt (sVar 0)) (sSeq (sSet 5 (DL.s1 (rd1 lenM) (sVar 2)))
  (sSeq (sAug 3 (rd2 addT) (DL.s1 (rd1 tupM) (sLc [6, 7, 8] (sIt (DL.s2 (rd2 ixD) (sVar 1) (sC (.int 1)))) (gT 3 (gsC (gN 6) (gsC (gN 7) (gsC (gN 8) (gsN))))) (M.pure true) (sTup (sCons (DL.s2 (rd2 addD) (sVar 6) (sVar 5)) (sCons (DL.s2 (rd2 addD) (sVar 7) (sVar 5)) (sCons (sVar 8) (sNil))))))))
  (sSeq (sAug 4 (rd2 addT) (DL.s1 (rd1 tupM) (sLc [9] (sIt (DL.s2 (rd2 ixD) (sVar 1) (sC (.int 2)))) (gN 9) (M.pure true) (DL.s2 (rd2 addD) (sVar 9) (sVar 5)))))
  (sAug 2 (rd2 addT) (DL.s2 (rd2 ixD) (sVar 1) (sC (.int 0))))))))
  (sRet (sTup (sCons (sVar 2) (sCons (sVar 3) (sCons (sVar 4) (sNil)))))))))
def r_joined (ds : List D) : M R := DL.fnOf 10 m_joined ds
abbrev N_joined : List PySem.Str := ["nets", "net", "moduli", "wires", "inputs", "first", "source", "target", "weight", "counter"]
abbrev P_joined : List PySem.Str := ["nets"]
theorem sc_joined : FnScope N_joined P_joined (defScope s_joined) := ⟨rfl, rfl, rfl, by decide +kernel, rfl, by decide +kernel, by decide +kernel⟩
theorem d_joined {Xc : Cx} {G : GD} {X : WX} (F : FmS Xc G X N_joined (defScope s_joined).names) (hr : RoomG 6 Xc.A) {f_validate_net : Addr} {fd_validate_net : FuncData} (C_validate_net : Has Xc.prog Xc.w Xc.K Xc.mg Xc.base G 6 "validate_net" f_validate_net fd_validate_net P_validate_net r_validate_net) (g_len : G.mg ("len" : PySem.Str) = none) (g_sum : G.mg ("sum" : PySem.Str) = none) (g_tuple : G.mg ("tuple" : PySem.Str) = none) {t_MOST_COUNTERS : Tok} (k_MOST_COUNTERS : G.mg ("MOST_COUNTERS" : PySem.Str) = some (.int 10 t_MOST_COUNTERS)) : PSs Xc (defBody s_joined) (TSt G X m_joined) :=
  j_seq (j_for F (ji_val F.toFm.eK (j_var F.toFm (i := 0) rfl (.inl rfl))) (jg_name F.toFm (i := 1) rfl rfl) (j_last (j_expr (j_call (ps := P_validate_net) (φ := r_validate_net) F.toFm C_validate_net (hr.mono (by decide)) rfl (j_cons (j_var F.toFm (i := 1) rfl (.inl rfl)) (j_nil))))))
  (j_seq (j_if (j_cmpT (kc_gt F.toFm) ol_gt.op (j_sum F.toFm rfl g_sum (j_lc F.toFm (own := [("net", 1)]) (by decide +kernel) rfl rfl (ji_val F.toFm.eK (j_var F.toFm (i := 0) rfl (.inl rfl))) (fun _ _ _ _ _ FB => jg_name FB (i := 1) rfl rfl) (fun _ _ _ _ _ FB => j_no) (fun _ _ _ _ _ FB => j_len FB rfl g_len (j_ix FB (j_var FB (i := 1) rfl (.inl rfl)) (j_int))))) (j_glo F.toFm rfl k_MOST_COUNTERS rfl ⟨_, rfl⟩) (nomark _)) (j_last (js_bad)) (j_skips))
  (j_seq (j_asg (j_tup (j_cons (j_tup (j_nil)) (j_cons (j_tup (j_nil)) (j_cons (j_tup (j_nil)) (j_nil))))) (jg_tup F.toFm (jgs_cons (jg_name F.toFm (i := 2) rfl rfl) (jgs_cons (jg_name F.toFm (i := 3) rfl rfl) (jgs_cons (jg_name F.toFm (i := 4) rfl rfl) (jgs_nil))))) rfl (sw3k F.toFm rfl rfl rfl rfl rfl rfl rfl rfl))
  (j_seq (j_for F (ji_val F.toFm.eK (j_var F.toFm (i := 0) rfl (.inl rfl))) (jg_name F.toFm (i := 1) rfl rfl) (j_seq (j_set F (i := 5) rfl (.inr rfl) (j_len F.toFm rfl g_len (j_var F.toFm (i := 2) rfl (.inl rfl))))
  (j_seq (j_aug F (i := 3) rfl (.inl rfl) (ki_addT F.toFm) ol_addT.op (j_tuple F.toFm rfl g_tuple (j_lc F.toFm (own := [("source", 6), ("target", 7), ("weight", 8)]) (by decide +kernel) rfl rfl (ji_val F.toFm.eK (j_ix F.toFm (j_var F.toFm (i := 1) rfl (.inl rfl)) (j_int))) (fun _ _ _ _ _ FB => jg_tup FB (jgs_cons (jg_name FB (i := 6) rfl rfl) (jgs_cons (jg_name FB (i := 7) rfl rfl) (jgs_cons (jg_name FB (i := 8) rfl rfl) (jgs_nil))))) (fun _ _ _ _ _ FB => j_no) (fun _ _ _ _ _ FB => j_tup (j_cons (je_op (kb_add FB) ol_add.op (j_var FB (i := 6) rfl (.inl rfl)) (j_var FB (i := 5) rfl (.inr (.inl rfl)))) (j_cons (je_op (kb_add FB) ol_add.op (j_var FB (i := 7) rfl (.inl rfl)) (j_var FB (i := 5) rfl (.inr (.inl rfl)))) (j_cons (j_var FB (i := 8) rfl (.inl rfl)) (j_nil))))))))
  (j_seq (j_aug F (i := 4) rfl (.inl rfl) (ki_addT F.toFm) ol_addT.op (j_tuple F.toFm rfl g_tuple (j_lc F.toFm (own := [("counter", 9)]) (by decide +kernel) rfl rfl (ji_val F.toFm.eK (j_ix F.toFm (j_var F.toFm (i := 1) rfl (.inl rfl)) (j_int))) (fun _ _ _ _ _ FB => jg_name FB (i := 9) rfl rfl) (fun _ _ _ _ _ FB => j_no) (fun _ _ _ _ _ FB => je_op (kb_add FB) ol_add.op (j_var FB (i := 9) rfl (.inl rfl)) (j_var FB (i := 5) rfl (.inr (.inl rfl)))))))
  (j_last (j_aug F (i := 2) rfl (.inl rfl) (ki_addT F.toFm) ol_addT.op (j_ix F.toFm (j_var F.toFm (i := 1) rfl (.inl rfl)) (j_int))))))))
  (j_last (j_ret (j_tup (j_cons (j_var F.toFm (i := 2) rfl (.inl rfl)) (j_cons (j_var F.toFm (i := 3) rfl (.inl rfl)) (j_cons (j_var F.toFm (i := 4) rfl (.inl rfl)) (j_nil))))))))))
theorem h_joined {P : Program} {w : World} {K : PySem.W.Frag} {mg : PySem.Str → Option Value} {base : Heap} {f : Addr} {fd : FuncData} (FD : FunD K "joined" "joined" (defArgs s_joined) (defBody s_joined) (defScope s_joined) [] [] f fd) (hmg : mg "joined" = some (.ref f)) {f_validate_net : Addr} {fd_validate_net : FuncData} (C_validate_net : Has P w K mg base ⟨K, mg⟩ 6 "validate_net" f_validate_net fd_validate_net P_validate_net r_validate_net) (g_len : mg ("len" : PySem.Str) = none) (g_sum : mg ("sum" : PySem.Str) = none) (g_tuple : mg ("tuple" : PySem.Str) = none) {t_MOST_COUNTERS : Tok} (k_MOST_COUNTERS : mg ("MOST_COUNTERS" : PySem.Str) = some (.int 10 t_MOST_COUNTERS)) : HasS P w K mg base ⟨K, mg⟩ 7 "joined" f 0 r_joined :=
  hasS_of (ps := []) (pv := "nets") FD sc_joined hmg rfl (by decide) (fun _ _ _ _ _ _ us rest hl => match us, rest, hl with | [], [], _ => rfl | [], _ :: _, _ => rfl) fun Xc X e1 e2 e3 e4 e5 F hr => by
    subst e1 e2 e3 e4 e5
    exact d_joined F hr C_validate_net g_len g_sum g_tuple k_MOST_COUNTERS
def m_state_count : M Ctl := sSeq (sDrop (sCall 1 r_validate_net (sCons (sVar 0) (sNil))))
  (sSeq (sSet 1 (sC (.int 1)))
  (sSeq (sFor (gN 2) (sIt (DL.s2 (rd2 ixD) (sVar 0) (sC (.int 0)))) (sAug 1 (rd2 (intD mulG)) (sVar 2)))
  (sRet (sVar 1))))
def r_state_count (ds : List D) : M R := DL.fnOf 3 m_state_count ds
abbrev N_state_count : List PySem.Str := ["net", "found", "modulus"]
abbrev P_state_count : List PySem.Str := ["net"]
theorem sc_state_count : FnScope N_state_count P_state_count (defScope s_state_count) := ⟨rfl, rfl, rfl, by decide +kernel, rfl, by decide +kernel, by decide +kernel⟩
theorem d_state_count {Xc : Cx} {G : GD} {X : WX} (F : FmS Xc G X N_state_count (defScope s_state_count).names) (hr : RoomG 6 Xc.A) {f_validate_net : Addr} {fd_validate_net : FuncData} (C_validate_net : Has Xc.prog Xc.w Xc.K Xc.mg Xc.base G 6 "validate_net" f_validate_net fd_validate_net P_validate_net r_validate_net) : PSs Xc (defBody s_state_count) (TSt G X m_state_count) :=
  j_seq (j_expr (j_call (ps := P_validate_net) (φ := r_validate_net) F.toFm C_validate_net (hr.mono (by decide)) rfl (j_cons (j_var F.toFm (i := 0) rfl (.inl rfl)) (j_nil))))
  (j_seq (j_set F (i := 1) rfl (.inl rfl) (j_int))
  (j_seq (j_for F (ji_val F.toFm.eK (j_ix F.toFm (j_var F.toFm (i := 0) rfl (.inl rfl)) (j_int))) (jg_name F.toFm (i := 2) rfl rfl) (j_last (j_aug F (i := 1) rfl (.inl rfl) (ki_mul F.toFm) ol_imul.op (j_var F.toFm (i := 2) rfl (.inl rfl)))))
  (j_last (j_ret (j_var F.toFm (i := 1) rfl (.inl rfl))))))
theorem h_state_count {P : Program} {w : World} {K : PySem.W.Frag} {mg : PySem.Str → Option Value} {base : Heap} {f : Addr} {fd : FuncData} (FD : FunD K "state_count" "state_count" (defArgs s_state_count) (defBody s_state_count) (defScope s_state_count) [] [] f fd) (hmg : mg "state_count" = some (.ref f)) {f_validate_net : Addr} {fd_validate_net : FuncData} (C_validate_net : Has P w K mg base ⟨K, mg⟩ 6 "validate_net" f_validate_net fd_validate_net P_validate_net r_validate_net) : Has P w K mg base ⟨K, mg⟩ 7 "state_count" f fd P_state_count r_state_count :=
  has_of FD sc_state_count hmg rfl (by decide) (fun _ _ _ _ _ _ us hl => match us, hl with | [_], _ => rfl) fun Xc X e1 e2 e3 e4 e5 F hr => by
    subst e1 e2 e3 e4 e5
    exact d_state_count F hr C_validate_net
def m_validate_phases : M Ctl := sSeq (sDrop (sCall 1 r_validate_net (sCons (sVar 0) (sNil))))
  (sSeq (sIf (sOr (sNot (sTru (DL.s2 (rd2 isiM) (sVar 1) (sC (.ty "tuple"))))) (sB (DL.s2 (rd2 neM) (DL.s1 (rd1 lenM) (sVar 1)) (DL.s1 (rd1 lenM) (DL.s2 (rd2 ixD) (sVar 0) (sC (.int 0))))))) (M.bad) (sSkip))
  (sFor (gT 2 (gsC (gN 2) (gsC (gN 3) (gsN)))) (sEnum (DL.s2 (rd2 ixD) (sVar 0) (sC (.int 0)))) (sIf (sNot (sTru (sCall 3 r_is_between (sCons (DL.s2 (rd2 ixD) (sVar 1) (sVar 2)) (sCons (sC (.int 0)) (sCons (DL.s2 (rd2 (intD subG)) (sVar 3) (sC (.int 1))) (sNil))))))) (M.bad) (sSkip))))
def r_validate_phases (ds : List D) : M R := DL.fnOf 4 m_validate_phases ds
abbrev N_validate_phases : List PySem.Str := ["net", "phases", "index", "modulus"]
abbrev P_validate_phases : List PySem.Str := ["net", "phases"]
theorem sc_validate_phases : FnScope N_validate_phases P_validate_phases (defScope s_validate_phases) := ⟨rfl, rfl, rfl, by decide +kernel, rfl, by decide +kernel, by decide +kernel⟩
theorem d_validate_phases {Xc : Cx} {G : GD} {X : WX} (F : FmS Xc G X N_validate_phases (defScope s_validate_phases).names) (hr : RoomG 6 Xc.A) {f_validate_net : Addr} {fd_validate_net : FuncData} (C_validate_net : Has Xc.prog Xc.w Xc.K Xc.mg Xc.base G 6 "validate_net" f_validate_net fd_validate_net P_validate_net r_validate_net) {f_is_between : Addr} {fd_is_between : FuncData} (C_is_between : Has Xc.prog Xc.w Xc.K Xc.mg Xc.base G 2 "is_between" f_is_between fd_is_between P_is_between r_is_between) (g_tuple : G.mg ("tuple" : PySem.Str) = none) (g_isinstance : G.mg ("isinstance" : PySem.Str) = none) (g_len : G.mg ("len" : PySem.Str) = none) (g_enumerate : G.mg ("enumerate" : PySem.Str) = none) : PSs Xc (defBody s_validate_phases) (TSt G X m_validate_phases) :=
  j_seq (j_expr (j_call (ps := P_validate_net) (φ := r_validate_net) F.toFm C_validate_net (hr.mono (by decide)) rfl (j_cons (j_var F.toFm (i := 0) rfl (.inl rfl)) (j_nil))))
  (j_seq (j_if (PW.pt (j_or (j_not (j_tru (j_isinstance F.toFm rfl g_isinstance (j_var F.toFm (i := 1) rfl (.inl rfl)) (j_ty F.toFm rfl g_tuple boot_tuple)) F.toFm.eK)) (pw_or1 (j_cmpT (kc_ne F.toFm) ol_ne.op (j_len F.toFm rfl g_len (j_var F.toFm (i := 1) rfl (.inl rfl))) (j_len F.toFm rfl g_len (j_ix F.toFm (j_var F.toFm (i := 0) rfl (.inl rfl)) (j_int))) (nomark _))))) (j_last (js_bad)) (j_skips))
  (j_last (j_for F (ji_enum F.toFm rfl g_enumerate (j_ix F.toFm (j_var F.toFm (i := 0) rfl (.inl rfl)) (j_int))) (jg_tup F.toFm (jgs_cons (jg_name F.toFm (i := 2) rfl rfl) (jgs_cons (jg_name F.toFm (i := 3) rfl rfl) (jgs_nil)))) (j_last (j_if (j_not (j_tru (j_call (ps := P_is_between) (φ := r_is_between) F.toFm C_is_between (hr.mono (by decide)) rfl (j_cons (j_ix F.toFm (j_var F.toFm (i := 1) rfl (.inl rfl)) (j_var F.toFm (i := 2) rfl (.inl rfl))) (j_cons (j_int) (j_cons (je_op (kb_sub F.toFm) ol_sub.op (j_var F.toFm (i := 3) rfl (.inl rfl)) (j_int)) (j_nil))))) F.toFm.eK)) (j_last (js_bad)) (j_skips))))))
theorem h_validate_phases {P : Program} {w : World} {K : PySem.W.Frag} {mg : PySem.Str → Option Value} {base : Heap} {f : Addr} {fd : FuncData} (FD : FunD K "validate_phases" "validate_phases" (defArgs s_validate_phases) (defBody s_validate_phases) (defScope s_validate_phases) [] [] f fd) (hmg : mg "validate_phases" = some (.ref f)) {f_validate_net : Addr} {fd_validate_net : FuncData} (C_validate_net : Has P w K mg base ⟨K, mg⟩ 6 "validate_net" f_validate_net fd_validate_net P_validate_net r_validate_net) {f_is_between : Addr} {fd_is_between : FuncData} (C_is_between : Has P w K mg base ⟨K, mg⟩ 2 "is_between" f_is_between fd_is_between P_is_between r_is_between) (g_tuple : mg ("tuple" : PySem.Str) = none) (g_isinstance : mg ("isinstance" : PySem.Str) = none) (g_len : mg ("len" : PySem.Str) = none) (g_enumerate : mg ("enumerate" : PySem.Str) = none) : Has P w K mg base ⟨K, mg⟩ 7 "validate_phases" f fd P_validate_phases r_validate_phases :=
  has_of FD sc_validate_phases hmg rfl (by decide) (fun _ _ _ _ _ _ us hl => match us, hl with | [_, _], _ => rfl) fun Xc X e1 e2 e3 e4 e5 F hr => by
    subst e1 e2 e3 e4 e5
    exact d_validate_phases F hr C_validate_net C_is_between g_tuple g_isinstance g_len g_enumerate
def m_validate_ticks : M Ctl := sSeq (sDrop (sCall 1 r_validate_net (sCons (sVar 0) (sNil))))
  (sSeq (sIf (sOr (sNot (sTru (DL.s2 (rd2 isiM) (sVar 1) (sC (.ty "tuple"))))) (sB (DL.s2 (rd2 neM) (DL.s1 (rd1 lenM) (sVar 1)) (DL.s1 (rd1 lenM) (DL.s2 (rd2 ixD) (sVar 0) (sC (.int 0))))))) (M.bad) (sSkip))
  (sFor (gT 2 (gsC (gN 2) (gsC (gN 3) (gsN)))) (sEnum (sVar 1)) (sIf (sOr (sNot (sTru (sCall 3 r_is_between (sCons (sVar 3) (sCons (DL.s1 (rd1 negM) (sC (.int 10000000000000000000000000000000000000000))) (sCons (sC (.int 10000000000000000000000000000000000000000)) (sNil))))))) (sAnd (sB (DL.s2 (rd2 neM) (sVar 3) (sC (.int 0)))) (sB (DL.s2 (rd2 (inM true)) (sVar 2) (DL.s2 (rd2 ixD) (sVar 0) (sC (.int 2))))))) (M.bad) (sSkip))))
def r_validate_ticks (ds : List D) : M R := DL.fnOf 4 m_validate_ticks ds
abbrev N_validate_ticks : List PySem.Str := ["net", "ticks", "index", "number"]
abbrev P_validate_ticks : List PySem.Str := ["net", "ticks"]
theorem sc_validate_ticks : FnScope N_validate_ticks P_validate_ticks (defScope s_validate_ticks) := ⟨rfl, rfl, rfl, by decide +kernel, rfl, by decide +kernel, by decide +kernel⟩
theorem d_validate_ticks {Xc : Cx} {G : GD} {X : WX} (F : FmS Xc G X N_validate_ticks (defScope s_validate_ticks).names) (hr : RoomG 6 Xc.A) {f_validate_net : Addr} {fd_validate_net : FuncData} (C_validate_net : Has Xc.prog Xc.w Xc.K Xc.mg Xc.base G 6 "validate_net" f_validate_net fd_validate_net P_validate_net r_validate_net) {f_is_between : Addr} {fd_is_between : FuncData} (C_is_between : Has Xc.prog Xc.w Xc.K Xc.mg Xc.base G 2 "is_between" f_is_between fd_is_between P_is_between r_is_between) (g_tuple : G.mg ("tuple" : PySem.Str) = none) (g_isinstance : G.mg ("isinstance" : PySem.Str) = none) (g_len : G.mg ("len" : PySem.Str) = none) (g_enumerate : G.mg ("enumerate" : PySem.Str) = none) {t_MOST_TICKS : Tok} (k_MOST_TICKS : G.mg ("MOST_TICKS" : PySem.Str) = some (.int 10000000000000000000000000000000000000000 t_MOST_TICKS)) : PSs Xc (defBody s_validate_ticks) (TSt G X m_validate_ticks) :=
  j_seq (j_expr (j_call (ps := P_validate_net) (φ := r_validate_net) F.toFm C_validate_net (hr.mono (by decide)) rfl (j_cons (j_var F.toFm (i := 0) rfl (.inl rfl)) (j_nil))))
  (j_seq (j_if (PW.pt (j_or (j_not (j_tru (j_isinstance F.toFm rfl g_isinstance (j_var F.toFm (i := 1) rfl (.inl rfl)) (j_ty F.toFm rfl g_tuple boot_tuple)) F.toFm.eK)) (pw_or1 (j_cmpT (kc_ne F.toFm) ol_ne.op (j_len F.toFm rfl g_len (j_var F.toFm (i := 1) rfl (.inl rfl))) (j_len F.toFm rfl g_len (j_ix F.toFm (j_var F.toFm (i := 0) rfl (.inl rfl)) (j_int))) (nomark _))))) (j_last (js_bad)) (j_skips))
  (j_last (j_for F (ji_enum F.toFm rfl g_enumerate (j_var F.toFm (i := 1) rfl (.inl rfl))) (jg_tup F.toFm (jgs_cons (jg_name F.toFm (i := 2) rfl rfl) (jgs_cons (jg_name F.toFm (i := 3) rfl rfl) (jgs_nil)))) (j_last (j_if (PW.pt (j_or (j_not (j_tru (j_call (ps := P_is_between) (φ := r_is_between) F.toFm C_is_between (hr.mono (by decide)) rfl (j_cons (j_var F.toFm (i := 3) rfl (.inl rfl)) (j_cons (j_neg (j_glo F.toFm rfl k_MOST_TICKS rfl ⟨_, rfl⟩)) (j_cons (j_glo F.toFm rfl k_MOST_TICKS rfl ⟨_, rfl⟩) (j_nil))))) F.toFm.eK)) (pw_or1 (PW.pt (j_and (j_cmpT (kc_ne F.toFm) ol_ne.op (j_var F.toFm (i := 3) rfl (.inl rfl)) (j_int) (nomark _)) (pw_and1 (j_cmpT (kc_nin F.toFm) ol_notin.op (j_var F.toFm (i := 2) rfl (.inl rfl)) (j_ix F.toFm (j_var F.toFm (i := 0) rfl (.inl rfl)) (j_int)) (by with_unfolding_all rfl)))))))) (j_last (js_bad)) (j_skips))))))
theorem h_validate_ticks {P : Program} {w : World} {K : PySem.W.Frag} {mg : PySem.Str → Option Value} {base : Heap} {f : Addr} {fd : FuncData} (FD : FunD K "validate_ticks" "validate_ticks" (defArgs s_validate_ticks) (defBody s_validate_ticks) (defScope s_validate_ticks) [] [] f fd) (hmg : mg "validate_ticks" = some (.ref f)) {f_validate_net : Addr} {fd_validate_net : FuncData} (C_validate_net : Has P w K mg base ⟨K, mg⟩ 6 "validate_net" f_validate_net fd_validate_net P_validate_net r_validate_net) {f_is_between : Addr} {fd_is_between : FuncData} (C_is_between : Has P w K mg base ⟨K, mg⟩ 2 "is_between" f_is_between fd_is_between P_is_between r_is_between) (g_tuple : mg ("tuple" : PySem.Str) = none) (g_isinstance : mg ("isinstance" : PySem.Str) = none) (g_len : mg ("len" : PySem.Str) = none) (g_enumerate : mg ("enumerate" : PySem.Str) = none) {t_MOST_TICKS : Tok} (k_MOST_TICKS : mg ("MOST_TICKS" : PySem.Str) = some (.int 10000000000000000000000000000000000000000 t_MOST_TICKS)) : Has P w K mg base ⟨K, mg⟩ 7 "validate_ticks" f fd P_validate_ticks r_validate_ticks :=
  has_of FD sc_validate_ticks hmg rfl (by decide) (fun _ _ _ _ _ _ us hl => match us, hl with | [_, _], _ => rfl) fun Xc X e1 e2 e3 e4 e5 F hr => by
    subst e1 e2 e3 e4 e5
    exact d_validate_ticks F hr C_validate_net C_is_between g_tuple g_isinstance g_len g_enumerate k_MOST_TICKS
def m_checked_flow : M Ctl := sSeq (sDrop (sCall 2 r_validate_phases (sCons (sVar 0) (sCons (sVar 1) (sNil)))))
  (sSeq (sDrop (sCall 2 r_validate_ticks (sCons (sVar 0) (sCons (sVar 2) (sNil)))))
  (sRet (sCall 3 r_flow (sCons (sVar 0) (sCons (sVar 1) (sCons (sVar 2) (sNil)))))))
def r_checked_flow (ds : List D) : M R := DL.fnOf 3 m_checked_flow ds
abbrev N_checked_flow : List PySem.Str := ["net", "phases", "ticks"]
abbrev P_checked_flow : List PySem.Str := ["net", "phases", "ticks"]
theorem sc_checked_flow : FnScope N_checked_flow P_checked_flow (defScope s_checked_flow) := ⟨rfl, rfl, rfl, by decide +kernel, rfl, by decide +kernel, by decide +kernel⟩
theorem d_checked_flow {Xc : Cx} {G : GD} {X : WX} (F : FmS Xc G X N_checked_flow (defScope s_checked_flow).names) (hr : RoomG 7 Xc.A) {f_validate_phases : Addr} {fd_validate_phases : FuncData} (C_validate_phases : Has Xc.prog Xc.w Xc.K Xc.mg Xc.base G 7 "validate_phases" f_validate_phases fd_validate_phases P_validate_phases r_validate_phases) {f_validate_ticks : Addr} {fd_validate_ticks : FuncData} (C_validate_ticks : Has Xc.prog Xc.w Xc.K Xc.mg Xc.base G 7 "validate_ticks" f_validate_ticks fd_validate_ticks P_validate_ticks r_validate_ticks) {f_flow : Addr} {fd_flow : FuncData} (C_flow : Has Xc.prog Xc.w Xc.K Xc.mg Xc.base G 1 "flow" f_flow fd_flow P_flow r_flow) : PSs Xc (defBody s_checked_flow) (TSt G X m_checked_flow) :=
  j_seq (j_expr (j_call (ps := P_validate_phases) (φ := r_validate_phases) F.toFm C_validate_phases (hr.mono (by decide)) rfl (j_cons (j_var F.toFm (i := 0) rfl (.inl rfl)) (j_cons (j_var F.toFm (i := 1) rfl (.inl rfl)) (j_nil)))))
  (j_seq (j_expr (j_call (ps := P_validate_ticks) (φ := r_validate_ticks) F.toFm C_validate_ticks (hr.mono (by decide)) rfl (j_cons (j_var F.toFm (i := 0) rfl (.inl rfl)) (j_cons (j_var F.toFm (i := 2) rfl (.inl rfl)) (j_nil)))))
  (j_last (j_ret (j_call (ps := P_flow) (φ := r_flow) F.toFm C_flow (hr.mono (by decide)) rfl (j_cons (j_var F.toFm (i := 0) rfl (.inl rfl)) (j_cons (j_var F.toFm (i := 1) rfl (.inl rfl)) (j_cons (j_var F.toFm (i := 2) rfl (.inl rfl)) (j_nil))))))))
theorem h_checked_flow {P : Program} {w : World} {K : PySem.W.Frag} {mg : PySem.Str → Option Value} {base : Heap} {f : Addr} {fd : FuncData} (FD : FunD K "checked_flow" "checked_flow" (defArgs s_checked_flow) (defBody s_checked_flow) (defScope s_checked_flow) [] [] f fd) (hmg : mg "checked_flow" = some (.ref f)) {f_validate_phases : Addr} {fd_validate_phases : FuncData} (C_validate_phases : Has P w K mg base ⟨K, mg⟩ 7 "validate_phases" f_validate_phases fd_validate_phases P_validate_phases r_validate_phases) {f_validate_ticks : Addr} {fd_validate_ticks : FuncData} (C_validate_ticks : Has P w K mg base ⟨K, mg⟩ 7 "validate_ticks" f_validate_ticks fd_validate_ticks P_validate_ticks r_validate_ticks) {f_flow : Addr} {fd_flow : FuncData} (C_flow : Has P w K mg base ⟨K, mg⟩ 1 "flow" f_flow fd_flow P_flow r_flow) : Has P w K mg base ⟨K, mg⟩ 8 "checked_flow" f fd P_checked_flow r_checked_flow :=
  has_of FD sc_checked_flow hmg rfl (by decide) (fun _ _ _ _ _ _ us hl => match us, hl with | [_, _, _], _ => rfl) fun Xc X e1 e2 e3 e4 e5 F hr => by
    subst e1 e2 e3 e4 e5
    exact d_checked_flow F hr C_validate_phases C_validate_ticks C_flow
def m_arrivals : M Ctl := sRet (DL.s2 (rd2 ixD) (sCall 3 r_checked_flow (sCons (sVar 0) (sCons (sVar 1) (sCons (sVar 2) (sNil))))) (sC (.int 0)))
def r_arrivals (ds : List D) : M R := DL.fnOf 3 m_arrivals ds
abbrev N_arrivals : List PySem.Str := ["net", "phases", "ticks"]
abbrev P_arrivals : List PySem.Str := ["net", "phases", "ticks"]
theorem sc_arrivals : FnScope N_arrivals P_arrivals (defScope s_arrivals) := ⟨rfl, rfl, rfl, by decide +kernel, rfl, by decide +kernel, by decide +kernel⟩
theorem d_arrivals {Xc : Cx} {G : GD} {X : WX} (F : FmS Xc G X N_arrivals (defScope s_arrivals).names) (hr : RoomG 8 Xc.A) {f_checked_flow : Addr} {fd_checked_flow : FuncData} (C_checked_flow : Has Xc.prog Xc.w Xc.K Xc.mg Xc.base G 8 "checked_flow" f_checked_flow fd_checked_flow P_checked_flow r_checked_flow) : PSs Xc (defBody s_arrivals) (TSt G X m_arrivals) :=
  j_last (j_ret (j_ix F.toFm (j_call (ps := P_checked_flow) (φ := r_checked_flow) F.toFm C_checked_flow (hr.mono (by decide)) rfl (j_cons (j_var F.toFm (i := 0) rfl (.inl rfl)) (j_cons (j_var F.toFm (i := 1) rfl (.inl rfl)) (j_cons (j_var F.toFm (i := 2) rfl (.inl rfl)) (j_nil))))) (j_int)))
theorem h_arrivals {P : Program} {w : World} {K : PySem.W.Frag} {mg : PySem.Str → Option Value} {base : Heap} {f : Addr} {fd : FuncData} (FD : FunD K "arrivals" "arrivals" (defArgs s_arrivals) (defBody s_arrivals) (defScope s_arrivals) [] [] f fd) (hmg : mg "arrivals" = some (.ref f)) {f_checked_flow : Addr} {fd_checked_flow : FuncData} (C_checked_flow : Has P w K mg base ⟨K, mg⟩ 8 "checked_flow" f_checked_flow fd_checked_flow P_checked_flow r_checked_flow) : Has P w K mg base ⟨K, mg⟩ 9 "arrivals" f fd P_arrivals r_arrivals :=
  has_of FD sc_arrivals hmg rfl (by decide) (fun _ _ _ _ _ _ us hl => match us, hl with | [_, _, _], _ => rfl) fun Xc X e1 e2 e3 e4 e5 F hr => by
    subst e1 e2 e3 e4 e5
    exact d_arrivals F hr C_checked_flow
def m_carries : M Ctl := sRet (DL.s2 (rd2 ixD) (sCall 3 r_checked_flow (sCons (sVar 0) (sCons (sVar 1) (sCons (sVar 2) (sNil))))) (sC (.int 1)))
def r_carries (ds : List D) : M R := DL.fnOf 3 m_carries ds
abbrev N_carries : List PySem.Str := ["net", "phases", "ticks"]
abbrev P_carries : List PySem.Str := ["net", "phases", "ticks"]
theorem sc_carries : FnScope N_carries P_carries (defScope s_carries) := ⟨rfl, rfl, rfl, by decide +kernel, rfl, by decide +kernel, by decide +kernel⟩
theorem d_carries {Xc : Cx} {G : GD} {X : WX} (F : FmS Xc G X N_carries (defScope s_carries).names) (hr : RoomG 8 Xc.A) {f_checked_flow : Addr} {fd_checked_flow : FuncData} (C_checked_flow : Has Xc.prog Xc.w Xc.K Xc.mg Xc.base G 8 "checked_flow" f_checked_flow fd_checked_flow P_checked_flow r_checked_flow) : PSs Xc (defBody s_carries) (TSt G X m_carries) :=
  j_last (j_ret (j_ix F.toFm (j_call (ps := P_checked_flow) (φ := r_checked_flow) F.toFm C_checked_flow (hr.mono (by decide)) rfl (j_cons (j_var F.toFm (i := 0) rfl (.inl rfl)) (j_cons (j_var F.toFm (i := 1) rfl (.inl rfl)) (j_cons (j_var F.toFm (i := 2) rfl (.inl rfl)) (j_nil))))) (j_int)))
theorem h_carries {P : Program} {w : World} {K : PySem.W.Frag} {mg : PySem.Str → Option Value} {base : Heap} {f : Addr} {fd : FuncData} (FD : FunD K "carries" "carries" (defArgs s_carries) (defBody s_carries) (defScope s_carries) [] [] f fd) (hmg : mg "carries" = some (.ref f)) {f_checked_flow : Addr} {fd_checked_flow : FuncData} (C_checked_flow : Has P w K mg base ⟨K, mg⟩ 8 "checked_flow" f_checked_flow fd_checked_flow P_checked_flow r_checked_flow) : Has P w K mg base ⟨K, mg⟩ 9 "carries" f fd P_carries r_carries :=
  has_of FD sc_carries hmg rfl (by decide) (fun _ _ _ _ _ _ us hl => match us, hl with | [_, _, _], _ => rfl) fun Xc X e1 e2 e3 e4 e5 F hr => by
    subst e1 e2 e3 e4 e5
    exact d_carries F hr C_checked_flow
def m_after : M Ctl := sRet (DL.s2 (rd2 ixD) (sCall 3 r_checked_flow (sCons (sVar 0) (sCons (sVar 1) (sCons (sVar 2) (sNil))))) (sC (.int 2)))
def r_after (ds : List D) : M R := DL.fnOf 3 m_after ds
abbrev N_after : List PySem.Str := ["net", "phases", "ticks"]
abbrev P_after : List PySem.Str := ["net", "phases", "ticks"]
theorem sc_after : FnScope N_after P_after (defScope s_after) := ⟨rfl, rfl, rfl, by decide +kernel, rfl, by decide +kernel, by decide +kernel⟩
theorem d_after {Xc : Cx} {G : GD} {X : WX} (F : FmS Xc G X N_after (defScope s_after).names) (hr : RoomG 8 Xc.A) {f_checked_flow : Addr} {fd_checked_flow : FuncData} (C_checked_flow : Has Xc.prog Xc.w Xc.K Xc.mg Xc.base G 8 "checked_flow" f_checked_flow fd_checked_flow P_checked_flow r_checked_flow) : PSs Xc (defBody s_after) (TSt G X m_after) :=
  j_last (j_ret (j_ix F.toFm (j_call (ps := P_checked_flow) (φ := r_checked_flow) F.toFm C_checked_flow (hr.mono (by decide)) rfl (j_cons (j_var F.toFm (i := 0) rfl (.inl rfl)) (j_cons (j_var F.toFm (i := 1) rfl (.inl rfl)) (j_cons (j_var F.toFm (i := 2) rfl (.inl rfl)) (j_nil))))) (j_int)))
theorem h_after {P : Program} {w : World} {K : PySem.W.Frag} {mg : PySem.Str → Option Value} {base : Heap} {f : Addr} {fd : FuncData} (FD : FunD K "after" "after" (defArgs s_after) (defBody s_after) (defScope s_after) [] [] f fd) (hmg : mg "after" = some (.ref f)) {f_checked_flow : Addr} {fd_checked_flow : FuncData} (C_checked_flow : Has P w K mg base ⟨K, mg⟩ 8 "checked_flow" f_checked_flow fd_checked_flow P_checked_flow r_checked_flow) : Has P w K mg base ⟨K, mg⟩ 9 "after" f fd P_after r_after :=
  has_of FD sc_after hmg rfl (by decide) (fun _ _ _ _ _ _ us hl => match us, hl with | [_, _, _], _ => rfl) fun Xc X e1 e2 e3 e4 e5 F hr => by
    subst e1 e2 e3 e4 e5
    exact d_after F hr C_checked_flow
def m__law_told : M Ctl := sRet (sLst (sCons (sCall 3 r_after (sCons (sVar 0) (sCons (sVar 1) (sCons (sVar 2) (sNil))))) (sCons (sCall 3 r_arrivals (sCons (sVar 0) (sCons (sVar 1) (sCons (sVar 2) (sNil))))) (sCons (sCall 3 r_carries (sCons (sVar 0) (sCons (sVar 1) (sCons (sVar 2) (sNil))))) (sNil)))))
def r__law_told (ds : List D) : M R := DL.fnOf 3 m__law_told ds
abbrev N__law_told : List PySem.Str := ["whole", "state", "ticks"]
abbrev P__law_told : List PySem.Str := ["whole", "state", "ticks"]
theorem sc__law_told : FnScope N__law_told P__law_told (defScope s__law_told) := ⟨rfl, rfl, rfl, by decide +kernel, rfl, by decide +kernel, by decide +kernel⟩
theorem d__law_told {Xc : Cx} {G : GD} {X : WX} (F : FmS Xc G X N__law_told (defScope s__law_told).names) (hr : RoomG 9 Xc.A) {f_after : Addr} {fd_after : FuncData} (C_after : Has Xc.prog Xc.w Xc.K Xc.mg Xc.base G 9 "after" f_after fd_after P_after r_after) {f_arrivals : Addr} {fd_arrivals : FuncData} (C_arrivals : Has Xc.prog Xc.w Xc.K Xc.mg Xc.base G 9 "arrivals" f_arrivals fd_arrivals P_arrivals r_arrivals) {f_carries : Addr} {fd_carries : FuncData} (C_carries : Has Xc.prog Xc.w Xc.K Xc.mg Xc.base G 9 "carries" f_carries fd_carries P_carries r_carries) : PSs Xc (defBody s__law_told) (TSt G X m__law_told) :=
  j_last (j_ret (j_lst (j_cons (j_call (ps := P_after) (φ := r_after) F.toFm C_after (hr.mono (by decide)) rfl (j_cons (j_var F.toFm (i := 0) rfl (.inl rfl)) (j_cons (j_var F.toFm (i := 1) rfl (.inl rfl)) (j_cons (j_var F.toFm (i := 2) rfl (.inl rfl)) (j_nil))))) (j_cons (j_call (ps := P_arrivals) (φ := r_arrivals) F.toFm C_arrivals (hr.mono (by decide)) rfl (j_cons (j_var F.toFm (i := 0) rfl (.inl rfl)) (j_cons (j_var F.toFm (i := 1) rfl (.inl rfl)) (j_cons (j_var F.toFm (i := 2) rfl (.inl rfl)) (j_nil))))) (j_cons (j_call (ps := P_carries) (φ := r_carries) F.toFm C_carries (hr.mono (by decide)) rfl (j_cons (j_var F.toFm (i := 0) rfl (.inl rfl)) (j_cons (j_var F.toFm (i := 1) rfl (.inl rfl)) (j_cons (j_var F.toFm (i := 2) rfl (.inl rfl)) (j_nil))))) (j_nil))))))
theorem h__law_told {P : Program} {w : World} {K : PySem.W.Frag} {mg : PySem.Str → Option Value} {base : Heap} {f : Addr} {fd : FuncData} (FD : FunD K "_law_told" "_law_told" (defArgs s__law_told) (defBody s__law_told) (defScope s__law_told) [] [] f fd) (hmg : mg "_law_told" = some (.ref f)) {f_after : Addr} {fd_after : FuncData} (C_after : Has P w K mg base ⟨K, mg⟩ 9 "after" f_after fd_after P_after r_after) {f_arrivals : Addr} {fd_arrivals : FuncData} (C_arrivals : Has P w K mg base ⟨K, mg⟩ 9 "arrivals" f_arrivals fd_arrivals P_arrivals r_arrivals) {f_carries : Addr} {fd_carries : FuncData} (C_carries : Has P w K mg base ⟨K, mg⟩ 9 "carries" f_carries fd_carries P_carries r_carries) : Has P w K mg base ⟨K, mg⟩ 10 "_law_told" f fd P__law_told r__law_told :=
  has_of FD sc__law_told hmg rfl (by decide) (fun _ _ _ _ _ _ us hl => match us, hl with | [_, _, _], _ => rfl) fun Xc X e1 e2 e3 e4 e5 F hr => by
    subst e1 e2 e3 e4 e5
    exact d__law_told F hr C_after C_arrivals C_carries
def m_law : M Ctl := sSeq (sSet 1 (sCell (sCall 1 r__law_source (sCons (sVar 0) (sNil)))))
  (sSeq (sFor (gN 2) (sRng1 (sCons (sC (.int 8)) (sNil))) (sSeq (sPar [3, 4] (kCons (sCall 3 r__law_net (sCons (sVar 1) (sCons (sC (.int 5)) (sCons (sC (.int 1000)) (sNil))))) (kCons (sCall 3 r__law_net (sCons (sVar 1) (sCons (sC (.int 5)) (sCons (sC (.int 12)) (sNil))))) (kNil))))
  (sSeq (sSet 5 (DL.s1 (rd1 tupM) (sLc [15] (sIt (DL.s2 (rd2 ixD) (sVar 3) (sC (.int 0)))) (gN 15) (M.pure true) (sCall 2 r__law_draw (sCons (sVar 1) (sCons (sVar 15) (sNil)))))))
  (sSeq (sSet 6 (DL.s1 (rd1 tupM) (sLc [15] (sIt (DL.s2 (rd2 ixD) (sVar 4) (sC (.int 0)))) (gN 15) (M.pure true) (sCall 2 r__law_draw (sCons (sVar 1) (sCons (sVar 15) (sNil)))))))
  (sSeq (sPar [7, 8, 9] (kCons (sCall 2 r__law_vector (sCons (sVar 1) (sCons (sVar 3) (sNil)))) (kCons (sCall 2 r__law_vector (sCons (sVar 1) (sCons (sVar 4) (sNil)))) (kCons (sCallS 0 r_joined (sCons (sVar 3) (sCons (sVar 4) (sNil)))) (kNil)))))
  (sSeq (sSet 10 (DL.s1 (rd1 reprM) (sTup (sCons (sVar 3) (sCons (sVar 4) (sCons (sVar 9) (sNil)))))))
  (sSeq (sPar [11, 12] (kCons (sCall 3 r__law_told (sCons (sVar 3) (sCons (sVar 5) (sCons (sVar 7) (sNil))))) (kCons (sCall 3 r__law_told (sCons (sVar 4) (sCons (sVar 6) (sCons (sVar 8) (sNil))))) (kNil))))
  (sSeq (sIf (sB (DL.s2 (rd2 neM) (DL.s1 (rd1 reprM) (sCall 3 r__law_told (sCons (sVar 9) (sCons (DL.s2 (rd2 addD) (sVar 5) (sVar 6)) (sCons (DL.s2 (rd2 addD) (sVar 7) (sVar 8)) (sNil)))))) (DL.s1 (rd1 reprM) (sLc [16, 17] (sZipX (sVar 11) (sVar 12)) (gT 2 (gsC (gN 16) (gsC (gN 17) (gsN)))) (M.pure true) (DL.s2 (rd2 addD) (sVar 16) (sVar 17)))))) (sRet (sC (.bl false))) (sSkip))
  (sSeq (sIf (sB (DL.s2 (rd2 neM) (DL.s1 (rd1 reprM) (sCall 3 r__law_told (sCons (sCall 1 r_opened (sCons (sVar 3) (sNil))) (sCons (sVar 5) (sCons (sVar 7) (sNil)))))) (DL.s1 (rd1 reprM) (sVar 11)))) (sRet (sC (.bl false))) (sSkip))
  (sSeq (sSet 13 (DL.s2 (rd2 mulM) (sTup (sCons (sC (.int 0)) (sNil))) (DL.s1 (rd1 lenM) (DL.s2 (rd2 ixD) (sVar 4) (sC (.int 0))))))
  (sSeq (sSet 14 (sCall 3 r__law_told (sCons (sVar 9) (sCons (DL.s2 (rd2 addD) (sVar 5) (sVar 6)) (sCons (DL.s2 (rd2 addD) (sVar 7) (sVar 13)) (sNil))))))
  (sSeq (sIf (sOr (sB (DL.s2 (rd2 neM) (DL.s2 (rd2 ixD) (sVar 14) (sC (.int 0))) (DL.s2 (rd2 addD) (DL.s2 (rd2 ixD) (sVar 11) (sC (.int 0))) (sVar 6)))) (sB (DL.s2 (rd2 neM) (DL.s2 (rd2 ixD) (sVar 14) (sC (.int 2))) (DL.s2 (rd2 addD) (DL.s2 (rd2 ixD) (sVar 11) (sC (.int 2))) (sVar 13))))) (sRet (sC (.bl false))) (sSkip))
  (sSeq (sIf (sB (DL.s2 (rd2 neM) (sCall 1 r_state_count (sCons (sVar 9) (sNil))) (DL.s2 (rd2 mulM) (sCall 1 r_state_count (sCons (sVar 3) (sNil))) (sCall 1 r_state_count (sCons (sVar 4) (sNil)))))) (sRet (sC (.bl false))) (sSkip))
  (sIf (sB (DL.s2 (rd2 neM) (DL.s1 (rd1 reprM) (sTup (sCons (sVar 3) (sCons (sVar 4) (sCons (sVar 9) (sNil)))))) (sVar 10))) (sRet (sC (.bl false))) (sSkip)))))))))))))))
  (sRet (sC (.bl true))))
def r_law (ds : List D) : M R := DL.fnOf 18 m_law ds
abbrev N_law : List PySem.Str := ["script", "source", "turn", "first", "second", "here", "there", "near", "far", "both", "kept", "one", "other", "still", "alone", "modulus", "left", "right"]
abbrev P_law : List PySem.Str := ["script"]
theorem sc_law : FnScope N_law P_law (defScope s_law) := ⟨rfl, rfl, rfl, by decide +kernel, rfl, by decide +kernel, by decide +kernel⟩
theorem d_law {Xc : Cx} {G : GD} {X : WX} (F : FmS Xc G X N_law (defScope s_law).names) (hr : RoomG 10 Xc.A) {f__law_source : Addr} {fd__law_source : FuncData} (C__law_source : Has Xc.prog Xc.w Xc.K Xc.mg Xc.base G 1 "_law_source" f__law_source fd__law_source P__law_source r__law_source) {f__law_net : Addr} {fd__law_net : FuncData} (C__law_net : Has Xc.prog Xc.w Xc.K Xc.mg Xc.base G 3 "_law_net" f__law_net fd__law_net P__law_net r__law_net) {f__law_draw : Addr} {fd__law_draw : FuncData} (C__law_draw : Has Xc.prog Xc.w Xc.K Xc.mg Xc.base G 1 "_law_draw" f__law_draw fd__law_draw P__law_draw r__law_draw) {f__law_vector : Addr} {fd__law_vector : FuncData} (C__law_vector : Has Xc.prog Xc.w Xc.K Xc.mg Xc.base G 3 "_law_vector" f__law_vector fd__law_vector P__law_vector r__law_vector) {f_joined : Addr} (C_joined : HasS Xc.prog Xc.w Xc.K Xc.mg Xc.base G 7 "joined" f_joined 0 r_joined) {f__law_told : Addr} {fd__law_told : FuncData} (C__law_told : Has Xc.prog Xc.w Xc.K Xc.mg Xc.base G 10 "_law_told" f__law_told fd__law_told P__law_told r__law_told) {f_opened : Addr} {fd_opened : FuncData} (C_opened : Has Xc.prog Xc.w Xc.K Xc.mg Xc.base G 7 "opened" f_opened fd_opened P_opened r_opened) {f_state_count : Addr} {fd_state_count : FuncData} (C_state_count : Has Xc.prog Xc.w Xc.K Xc.mg Xc.base G 7 "state_count" f_state_count fd_state_count P_state_count r_state_count) (g_range : G.mg ("range" : PySem.Str) = none) (g_tuple : G.mg ("tuple" : PySem.Str) = none) (g_repr : G.mg ("repr" : PySem.Str) = none) (g_zip : G.mg ("zip" : PySem.Str) = none) (g_len : G.mg ("len" : PySem.Str) = none) : PSs Xc (defBody s_law) (TSt G X m_law) :=
  j_seq (j_set F (i := 1) rfl (.inr rfl) (j_cell (j_call (ps := P__law_source) (φ := r__law_source) F.toFm C__law_source (hr.mono (by decide)) rfl (j_cons (j_var F.toFm (i := 0) rfl (.inl rfl)) (j_nil)))))
  (j_seq (j_for F (ji_range1 F.toFm rfl g_range (j_cons (j_int) (j_nil))) (jg_name F.toFm (i := 2) rfl rfl) (j_seq (j_par2 F.toFm (i := 3) (j := 4) rfl rfl (by decide) rfl rfl rfl (by decide) rfl rfl rfl (j_kc (j_call (ps := P__law_net) (φ := r__law_net) F.toFm C__law_net (hr.mono (by decide)) rfl (j_cons (j_var F.toFm (i := 1) rfl (.inr (.inl rfl))) (j_cons (j_int) (j_cons (j_int) (j_nil))))) (j_kc (j_call (ps := P__law_net) (φ := r__law_net) F.toFm C__law_net (hr.mono (by decide)) rfl (j_cons (j_var F.toFm (i := 1) rfl (.inr (.inl rfl))) (j_cons (j_int) (j_cons (j_int) (j_nil))))) (j_kn))))
  (j_seq (j_set F (i := 5) rfl (.inl rfl) (j_tuple F.toFm rfl g_tuple (j_lc F.toFm (own := [("modulus", 15)]) (by decide +kernel) rfl rfl (ji_val F.toFm.eK (j_ix F.toFm (j_var F.toFm (i := 3) rfl (.inl rfl)) (j_int))) (fun _ _ _ _ _ FB => jg_name FB (i := 15) rfl rfl) (fun _ _ _ _ _ FB => j_no) (fun _ _ _ _ _ FB => j_call (ps := P__law_draw) (φ := r__law_draw) FB C__law_draw (hr.mono (by decide)) rfl (j_cons (j_var FB (i := 1) rfl (.inr (.inl rfl))) (j_cons (j_var FB (i := 15) rfl (.inl rfl)) (j_nil)))))))
  (j_seq (j_set F (i := 6) rfl (.inl rfl) (j_tuple F.toFm rfl g_tuple (j_lc F.toFm (own := [("modulus", 15)]) (by decide +kernel) rfl rfl (ji_val F.toFm.eK (j_ix F.toFm (j_var F.toFm (i := 4) rfl (.inl rfl)) (j_int))) (fun _ _ _ _ _ FB => jg_name FB (i := 15) rfl rfl) (fun _ _ _ _ _ FB => j_no) (fun _ _ _ _ _ FB => j_call (ps := P__law_draw) (φ := r__law_draw) FB C__law_draw (hr.mono (by decide)) rfl (j_cons (j_var FB (i := 1) rfl (.inr (.inl rfl))) (j_cons (j_var FB (i := 15) rfl (.inl rfl)) (j_nil)))))))
  (j_seq (j_par3 F.toFm (i := 7) (j := 8) (k := 9) rfl rfl rfl (by decide) (by decide) (by decide) rfl rfl rfl rfl rfl (by decide) rfl rfl rfl (j_kc (j_call (ps := P__law_vector) (φ := r__law_vector) F.toFm C__law_vector (hr.mono (by decide)) rfl (j_cons (j_var F.toFm (i := 1) rfl (.inr (.inl rfl))) (j_cons (j_var F.toFm (i := 3) rfl (.inl rfl)) (j_nil)))) (j_kc (j_call (ps := P__law_vector) (φ := r__law_vector) F.toFm C__law_vector (hr.mono (by decide)) rfl (j_cons (j_var F.toFm (i := 1) rfl (.inr (.inl rfl))) (j_cons (j_var F.toFm (i := 4) rfl (.inl rfl)) (j_nil)))) (j_kc (j_callS (φ := r_joined) F.toFm C_joined (hr.mono (by decide)) rfl (j_cons (j_var F.toFm (i := 3) rfl (.inl rfl)) (j_cons (j_var F.toFm (i := 4) rfl (.inl rfl)) (j_nil)))) (j_kn)))))
  (j_seq (j_set F (i := 10) rfl (.inl rfl) (j_repr F.toFm rfl g_repr (j_tup (j_cons (j_var F.toFm (i := 3) rfl (.inl rfl)) (j_cons (j_var F.toFm (i := 4) rfl (.inl rfl)) (j_cons (j_var F.toFm (i := 9) rfl (.inl rfl)) (j_nil)))))))
  (j_seq (j_par2 F.toFm (i := 11) (j := 12) rfl rfl (by decide) rfl rfl rfl (by decide) rfl rfl rfl (j_kc (j_call (ps := P__law_told) (φ := r__law_told) F.toFm C__law_told (hr.mono (by decide)) rfl (j_cons (j_var F.toFm (i := 3) rfl (.inl rfl)) (j_cons (j_var F.toFm (i := 5) rfl (.inl rfl)) (j_cons (j_var F.toFm (i := 7) rfl (.inl rfl)) (j_nil))))) (j_kc (j_call (ps := P__law_told) (φ := r__law_told) F.toFm C__law_told (hr.mono (by decide)) rfl (j_cons (j_var F.toFm (i := 4) rfl (.inl rfl)) (j_cons (j_var F.toFm (i := 6) rfl (.inl rfl)) (j_cons (j_var F.toFm (i := 8) rfl (.inl rfl)) (j_nil))))) (j_kn))))
  (j_seq (j_if (j_cmpT (kc_ne F.toFm) ol_ne.op (j_repr F.toFm rfl g_repr (j_call (ps := P__law_told) (φ := r__law_told) F.toFm C__law_told (hr.mono (by decide)) rfl (j_cons (j_var F.toFm (i := 9) rfl (.inl rfl)) (j_cons (je_op (kb_add F.toFm) ol_add.op (j_var F.toFm (i := 5) rfl (.inl rfl)) (j_var F.toFm (i := 6) rfl (.inl rfl))) (j_cons (je_op (kb_add F.toFm) ol_add.op (j_var F.toFm (i := 7) rfl (.inl rfl)) (j_var F.toFm (i := 8) rfl (.inl rfl))) (j_nil)))))) (j_repr F.toFm rfl g_repr (j_lc F.toFm (own := [("left", 16), ("right", 17)]) (by decide +kernel) rfl rfl (ji_zipX F.toFm rfl g_zip (j_var F.toFm (i := 11) rfl (.inl rfl)) (j_var F.toFm (i := 12) rfl (.inl rfl))) (fun _ _ _ _ _ FB => jg_tup FB (jgs_cons (jg_name FB (i := 16) rfl rfl) (jgs_cons (jg_name FB (i := 17) rfl rfl) (jgs_nil)))) (fun _ _ _ _ _ FB => j_no) (fun _ _ _ _ _ FB => je_op (kb_add FB) ol_add.op (j_var FB (i := 16) rfl (.inl rfl)) (j_var FB (i := 17) rfl (.inl rfl))))) (nomark _)) (j_last (j_ret (j_bl))) (j_skips))
  (j_seq (j_if (j_cmpT (kc_ne F.toFm) ol_ne.op (j_repr F.toFm rfl g_repr (j_call (ps := P__law_told) (φ := r__law_told) F.toFm C__law_told (hr.mono (by decide)) rfl (j_cons (j_call (ps := P_opened) (φ := r_opened) F.toFm C_opened (hr.mono (by decide)) rfl (j_cons (j_var F.toFm (i := 3) rfl (.inl rfl)) (j_nil))) (j_cons (j_var F.toFm (i := 5) rfl (.inl rfl)) (j_cons (j_var F.toFm (i := 7) rfl (.inl rfl)) (j_nil)))))) (j_repr F.toFm rfl g_repr (j_var F.toFm (i := 11) rfl (.inl rfl))) (nomark _)) (j_last (j_ret (j_bl))) (j_skips))
  (j_seq (j_set F (i := 13) rfl (.inl rfl) (je_op (kb_mul F.toFm) ol_mul.op (j_tup (j_cons (j_int) (j_nil))) (j_len F.toFm rfl g_len (j_ix F.toFm (j_var F.toFm (i := 4) rfl (.inl rfl)) (j_int)))))
  (j_seq (j_set F (i := 14) rfl (.inl rfl) (j_call (ps := P__law_told) (φ := r__law_told) F.toFm C__law_told (hr.mono (by decide)) rfl (j_cons (j_var F.toFm (i := 9) rfl (.inl rfl)) (j_cons (je_op (kb_add F.toFm) ol_add.op (j_var F.toFm (i := 5) rfl (.inl rfl)) (j_var F.toFm (i := 6) rfl (.inl rfl))) (j_cons (je_op (kb_add F.toFm) ol_add.op (j_var F.toFm (i := 7) rfl (.inl rfl)) (j_var F.toFm (i := 13) rfl (.inl rfl))) (j_nil))))))
  (j_seq (j_if (PW.pt (j_or (j_cmpT (kc_ne F.toFm) ol_ne.op (j_ix F.toFm (j_var F.toFm (i := 14) rfl (.inl rfl)) (j_int)) (je_op (kb_add F.toFm) ol_add.op (j_ix F.toFm (j_var F.toFm (i := 11) rfl (.inl rfl)) (j_int)) (j_var F.toFm (i := 6) rfl (.inl rfl))) (nomark _)) (pw_or1 (j_cmpT (kc_ne F.toFm) ol_ne.op (j_ix F.toFm (j_var F.toFm (i := 14) rfl (.inl rfl)) (j_int)) (je_op (kb_add F.toFm) ol_add.op (j_ix F.toFm (j_var F.toFm (i := 11) rfl (.inl rfl)) (j_int)) (j_var F.toFm (i := 13) rfl (.inl rfl))) (nomark _))))) (j_last (j_ret (j_bl))) (j_skips))
  (j_seq (j_if (j_cmpT (kc_ne F.toFm) ol_ne.op (j_call (ps := P_state_count) (φ := r_state_count) F.toFm C_state_count (hr.mono (by decide)) rfl (j_cons (j_var F.toFm (i := 9) rfl (.inl rfl)) (j_nil))) (je_op (kb_mul F.toFm) ol_mul.op (j_call (ps := P_state_count) (φ := r_state_count) F.toFm C_state_count (hr.mono (by decide)) rfl (j_cons (j_var F.toFm (i := 3) rfl (.inl rfl)) (j_nil))) (j_call (ps := P_state_count) (φ := r_state_count) F.toFm C_state_count (hr.mono (by decide)) rfl (j_cons (j_var F.toFm (i := 4) rfl (.inl rfl)) (j_nil)))) (nomark _)) (j_last (j_ret (j_bl))) (j_skips))
  (j_last (j_if (j_cmpT (kc_ne F.toFm) ol_ne.op (j_repr F.toFm rfl g_repr (j_tup (j_cons (j_var F.toFm (i := 3) rfl (.inl rfl)) (j_cons (j_var F.toFm (i := 4) rfl (.inl rfl)) (j_cons (j_var F.toFm (i := 9) rfl (.inl rfl)) (j_nil)))))) (j_var F.toFm (i := 10) rfl (.inl rfl)) (nomark _)) (j_last (j_ret (j_bl))) (j_skips))))))))))))))))
  (j_last (j_ret (j_bl))))
theorem h_law {P : Program} {w : World} {K : PySem.W.Frag} {mg : PySem.Str → Option Value} {base : Heap} {f : Addr} {fd : FuncData} (FD : FunD K "law" "law" (defArgs s_law) (defBody s_law) (defScope s_law) [] [] f fd) (hmg : mg "law" = some (.ref f)) {f__law_source : Addr} {fd__law_source : FuncData} (C__law_source : Has P w K mg base ⟨K, mg⟩ 1 "_law_source" f__law_source fd__law_source P__law_source r__law_source) {f__law_net : Addr} {fd__law_net : FuncData} (C__law_net : Has P w K mg base ⟨K, mg⟩ 3 "_law_net" f__law_net fd__law_net P__law_net r__law_net) {f__law_draw : Addr} {fd__law_draw : FuncData} (C__law_draw : Has P w K mg base ⟨K, mg⟩ 1 "_law_draw" f__law_draw fd__law_draw P__law_draw r__law_draw) {f__law_vector : Addr} {fd__law_vector : FuncData} (C__law_vector : Has P w K mg base ⟨K, mg⟩ 3 "_law_vector" f__law_vector fd__law_vector P__law_vector r__law_vector) {f_joined : Addr} (C_joined : HasS P w K mg base ⟨K, mg⟩ 7 "joined" f_joined 0 r_joined) {f__law_told : Addr} {fd__law_told : FuncData} (C__law_told : Has P w K mg base ⟨K, mg⟩ 10 "_law_told" f__law_told fd__law_told P__law_told r__law_told) {f_opened : Addr} {fd_opened : FuncData} (C_opened : Has P w K mg base ⟨K, mg⟩ 7 "opened" f_opened fd_opened P_opened r_opened) {f_state_count : Addr} {fd_state_count : FuncData} (C_state_count : Has P w K mg base ⟨K, mg⟩ 7 "state_count" f_state_count fd_state_count P_state_count r_state_count) (g_range : mg ("range" : PySem.Str) = none) (g_tuple : mg ("tuple" : PySem.Str) = none) (g_repr : mg ("repr" : PySem.Str) = none) (g_zip : mg ("zip" : PySem.Str) = none) (g_len : mg ("len" : PySem.Str) = none) : Has P w K mg base ⟨K, mg⟩ 11 "law" f fd P_law r_law :=
  has_of FD sc_law hmg rfl (by decide) (fun _ _ _ _ _ _ us hl => match us, hl with | [_], _ => rfl) fun Xc X e1 e2 e3 e4 e5 F hr => by
    subst e1 e2 e3 e4 e5
    exact d_law F hr C__law_source C__law_net C__law_draw C__law_vector C_joined C__law_told C_opened C_state_count g_range g_tuple g_repr g_zip g_len
theorem facts {P : Program} {w : World} {K : PySem.W.Frag} {h : Heap} {mg : PySem.Str → Option Value} {f : Addr} (X : K.In h) (G : h.Ns mainGlobals mg) (hfa : mg ("law" : PySem.Str) = some (.ref f)) (c : He.SaysD fa fn K) :
    ∃ fd : FuncData, (∀ (s : Shared) (v : Value), BindsTo s fd ⟨[v], []⟩ [("script", v)]) ∧ ∀ base : Heap, K.In base → base.Ns mainGlobals mg → FnG P w K mg base 11 f fd ["script"] (spD ⟨K, mg⟩ 1 r_law) := by
  obtain ⟨fd__law_source, F__law_source⟩ := c.def_ 18 (d := w__law_source) rfl
  obtain ⟨fd__law_draw, F__law_draw⟩ := c.def_ 19 (d := w__law_draw) rfl
  obtain ⟨fd__law_pick, F__law_pick⟩ := c.def_ 20 (d := w__law_pick) rfl
  obtain ⟨fd__law_net, F__law_net⟩ := c.def_ 21 (d := w__law_net) rfl
  obtain ⟨fd__law_wide, F__law_wide⟩ := c.def_ 22 (d := w__law_wide) rfl
  obtain ⟨fd__law_vector, F__law_vector⟩ := c.def_ 23 (d := w__law_vector) rfl
  obtain ⟨fd_is_integer, F_is_integer⟩ := c.def_ 0 (d := w_is_integer) rfl
  obtain ⟨fd_is_between, F_is_between⟩ := c.def_ 1 (d := w_is_between) rfl
  obtain ⟨fd_moduli_problem, F_moduli_problem⟩ := c.def_ 3 (d := w_moduli_problem) rfl
  obtain ⟨fd_is_wire, F_is_wire⟩ := c.def_ 2 (d := w_is_wire) rfl
  obtain ⟨fd_wires_problem, F_wires_problem⟩ := c.def_ 4 (d := w_wires_problem) rfl
  obtain ⟨fd_inputs_problem, F_inputs_problem⟩ := c.def_ 5 (d := w_inputs_problem) rfl
  obtain ⟨fd_net_problem, F_net_problem⟩ := c.def_ 6 (d := w_net_problem) rfl
  obtain ⟨fd_validate_net, F_validate_net⟩ := c.def_ 7 (d := w_validate_net) rfl
  obtain ⟨fd_joined, F_joined⟩ := c.def_ 9 (d := w_joined) rfl
  obtain ⟨fd_validate_phases, F_validate_phases⟩ := c.def_ 11 (d := w_validate_phases) rfl
  obtain ⟨fd_validate_ticks, F_validate_ticks⟩ := c.def_ 12 (d := w_validate_ticks) rfl
  obtain ⟨fd_flow, F_flow⟩ := c.def_ 13 (d := w_flow) rfl
  obtain ⟨fd_checked_flow, F_checked_flow⟩ := c.def_ 14 (d := w_checked_flow) rfl
  obtain ⟨fd_after, F_after⟩ := c.def_ 17 (d := w_after) rfl
  obtain ⟨fd_arrivals, F_arrivals⟩ := c.def_ 15 (d := w_arrivals) rfl
  obtain ⟨fd_carries, F_carries⟩ := c.def_ 16 (d := w_carries) rfl
  obtain ⟨fd__law_told, F__law_told⟩ := c.def_ 24 (d := w__law_told) rfl
  obtain ⟨fd_opened, F_opened⟩ := c.def_ 8 (d := w_opened) rfl
  obtain ⟨fd_state_count, F_state_count⟩ := c.def_ 10 (d := w_state_count) rfl
  obtain ⟨fd_law, F_law⟩ := c.def_ 25 (d := w_law) rfl
  have n__law_source := He.glo_ok X G (c.fact 18 (f := .glo "_law_source") rfl)
  have n__law_draw := He.glo_ok X G (c.fact 19 (f := .glo "_law_draw") rfl)
  have n__law_pick := He.glo_ok X G (c.fact 20 (f := .glo "_law_pick") rfl)
  have n__law_net := He.glo_ok X G (c.fact 21 (f := .glo "_law_net") rfl)
  have n__law_wide := He.glo_ok X G (c.fact 22 (f := .glo "_law_wide") rfl)
  have n__law_vector := He.glo_ok X G (c.fact 23 (f := .glo "_law_vector") rfl)
  have n_is_integer := He.glo_ok X G (c.fact 0 (f := .glo "is_integer") rfl)
  have n_is_between := He.glo_ok X G (c.fact 1 (f := .glo "is_between") rfl)
  have n_moduli_problem := He.glo_ok X G (c.fact 3 (f := .glo "moduli_problem") rfl)
  have n_is_wire := He.glo_ok X G (c.fact 2 (f := .glo "is_wire") rfl)
  have n_wires_problem := He.glo_ok X G (c.fact 4 (f := .glo "wires_problem") rfl)
  have n_inputs_problem := He.glo_ok X G (c.fact 5 (f := .glo "inputs_problem") rfl)
  have n_net_problem := He.glo_ok X G (c.fact 6 (f := .glo "net_problem") rfl)
  have n_validate_net := He.glo_ok X G (c.fact 7 (f := .glo "validate_net") rfl)
  have n_joined := He.glo_ok X G (c.fact 9 (f := .glo "joined") rfl)
  have n_validate_phases := He.glo_ok X G (c.fact 11 (f := .glo "validate_phases") rfl)
  have n_validate_ticks := He.glo_ok X G (c.fact 12 (f := .glo "validate_ticks") rfl)
  have n_flow := He.glo_ok X G (c.fact 13 (f := .glo "flow") rfl)
  have n_checked_flow := He.glo_ok X G (c.fact 14 (f := .glo "checked_flow") rfl)
  have n_after := He.glo_ok X G (c.fact 17 (f := .glo "after") rfl)
  have n_arrivals := He.glo_ok X G (c.fact 15 (f := .glo "arrivals") rfl)
  have n_carries := He.glo_ok X G (c.fact 16 (f := .glo "carries") rfl)
  have n__law_told := He.glo_ok X G (c.fact 24 (f := .glo "_law_told") rfl)
  have n_opened := He.glo_ok X G (c.fact 8 (f := .glo "opened") rfl)
  have n_state_count := He.glo_ok X G (c.fact 10 (f := .glo "state_count") rfl)
  have n_law := He.glo_ok X G (c.fact 25 (f := .glo "law") rfl)
  have g_bool := He.free_ok X G (c.fact 31 (f := .free "bool") rfl)
  have g_divmod := He.free_ok X G (c.fact 32 (f := .free "divmod") rfl)
  have g_enumerate := He.free_ok X G (c.fact 33 (f := .free "enumerate") rfl)
  have g_int := He.free_ok X G (c.fact 34 (f := .free "int") rfl)
  have g_isinstance := He.free_ok X G (c.fact 35 (f := .free "isinstance") rfl)
  have g_len := He.free_ok X G (c.fact 36 (f := .free "len") rfl)
  have g_list := He.free_ok X G (c.fact 37 (f := .free "list") rfl)
  have g_min := He.free_ok X G (c.fact 38 (f := .free "min") rfl)
  have g_range := He.free_ok X G (c.fact 39 (f := .free "range") rfl)
  have g_repr := He.free_ok X G (c.fact 40 (f := .free "repr") rfl)
  have g_sum := He.free_ok X G (c.fact 41 (f := .free "sum") rfl)
  have g_tuple := He.free_ok X G (c.fact 42 (f := .free "tuple") rfl)
  have g_zip := He.free_ok X G (c.fact 43 (f := .free "zip") rfl)
  obtain ⟨t_MOST_COUNTERS, k_MOST_COUNTERS⟩ := He.int_ok X G (c.fact 26 (f := .int "MOST_COUNTERS" 10) rfl)
  obtain ⟨t_MOST_MODULUS, k_MOST_MODULUS⟩ := He.int_ok X G (c.fact 27 (f := .int "MOST_MODULUS" 1000) rfl)
  obtain ⟨t_MOST_TICKS, k_MOST_TICKS⟩ := He.int_ok X G (c.fact 29 (f := .int "MOST_TICKS" 10000000000000000000000000000000000000000) rfl)
  obtain ⟨t_MOST_WEIGHT, k_MOST_WEIGHT⟩ := He.int_ok X G (c.fact 28 (f := .int "MOST_WEIGHT" 100) rfl)
  have e := hfa.symm.trans n_law
  cases e
  have b := FunD.bindsA (ps := ["script"]) F_law fun _ _ _ _ _ _ us hl => match us, hl with | [_], _ => rfl
  refine ⟨fd_law, fun s v => b s [v] rfl, fun base _ _ => ?_⟩
  have C__law_source : Has P w K mg base ⟨K, mg⟩ 1 "_law_source" _ _ P__law_source r__law_source := h__law_source F__law_source n__law_source g_len
  have C__law_draw : Has P w K mg base ⟨K, mg⟩ 1 "_law_draw" _ _ P__law_draw r__law_draw := h__law_draw F__law_draw n__law_draw g_len
  have C__law_pick : Has P w K mg base ⟨K, mg⟩ 2 "_law_pick" _ _ P__law_pick r__law_pick := h__law_pick F__law_pick n__law_pick C__law_draw g_len
  have C__law_net : Has P w K mg base ⟨K, mg⟩ 3 "_law_net" _ _ P__law_net r__law_net := h__law_net F__law_net n__law_net C__law_draw C__law_pick g_range g_min g_tuple
  have C__law_wide : Has P w K mg base ⟨K, mg⟩ 2 "_law_wide" _ _ P__law_wide r__law_wide := h__law_wide F__law_wide n__law_wide C__law_draw g_range
  have C__law_vector : Has P w K mg base ⟨K, mg⟩ 3 "_law_vector" _ _ P__law_vector r__law_vector := h__law_vector F__law_vector n__law_vector C__law_wide g_len g_range g_tuple
  have C_is_integer : Has P w K mg base ⟨K, mg⟩ 1 "is_integer" _ _ P_is_integer r_is_integer := h_is_integer F_is_integer n_is_integer g_int g_isinstance g_bool
  have C_is_between : Has P w K mg base ⟨K, mg⟩ 2 "is_between" _ _ P_is_between r_is_between := h_is_between F_is_between n_is_between C_is_integer
  have C_moduli_problem : Has P w K mg base ⟨K, mg⟩ 3 "moduli_problem" _ _ P_moduli_problem r_moduli_problem := h_moduli_problem F_moduli_problem n_moduli_problem C_is_between g_tuple g_isinstance g_len g_enumerate k_MOST_COUNTERS k_MOST_MODULUS
  have C_is_wire : Has P w K mg base ⟨K, mg⟩ 3 "is_wire" _ _ P_is_wire r_is_wire := h_is_wire F_is_wire n_is_wire C_is_between g_tuple g_isinstance g_len k_MOST_WEIGHT
  have C_wires_problem : Has P w K mg base ⟨K, mg⟩ 4 "wires_problem" _ _ P_wires_problem r_wires_problem := h_wires_problem F_wires_problem n_wires_problem C_is_wire g_tuple g_isinstance g_enumerate
  have C_inputs_problem : Has P w K mg base ⟨K, mg⟩ 3 "inputs_problem" _ _ P_inputs_problem r_inputs_problem := h_inputs_problem F_inputs_problem n_inputs_problem C_is_between g_tuple g_isinstance g_enumerate
  have C_net_problem : Has P w K mg base ⟨K, mg⟩ 5 "net_problem" _ _ P_net_problem r_net_problem := h_net_problem F_net_problem n_net_problem C_moduli_problem C_wires_problem C_inputs_problem g_tuple g_isinstance g_len
  have C_validate_net : Has P w K mg base ⟨K, mg⟩ 6 "validate_net" _ _ P_validate_net r_validate_net := h_validate_net F_validate_net n_validate_net C_net_problem
  have C_joined : HasS P w K mg base ⟨K, mg⟩ 7 "joined" _ 0 r_joined := h_joined F_joined n_joined C_validate_net g_len g_sum g_tuple k_MOST_COUNTERS
  have C_validate_phases : Has P w K mg base ⟨K, mg⟩ 7 "validate_phases" _ _ P_validate_phases r_validate_phases := h_validate_phases F_validate_phases n_validate_phases C_validate_net C_is_between g_tuple g_isinstance g_len g_enumerate
  have C_validate_ticks : Has P w K mg base ⟨K, mg⟩ 7 "validate_ticks" _ _ P_validate_ticks r_validate_ticks := h_validate_ticks F_validate_ticks n_validate_ticks C_validate_net C_is_between g_tuple g_isinstance g_len g_enumerate k_MOST_TICKS
  have C_flow : Has P w K mg base ⟨K, mg⟩ 1 "flow" _ _ P_flow r_flow := h_flow F_flow n_flow g_list g_enumerate g_divmod g_tuple
  have C_checked_flow : Has P w K mg base ⟨K, mg⟩ 8 "checked_flow" _ _ P_checked_flow r_checked_flow := h_checked_flow F_checked_flow n_checked_flow C_validate_phases C_validate_ticks C_flow
  have C_after : Has P w K mg base ⟨K, mg⟩ 9 "after" _ _ P_after r_after := h_after F_after n_after C_checked_flow
  have C_arrivals : Has P w K mg base ⟨K, mg⟩ 9 "arrivals" _ _ P_arrivals r_arrivals := h_arrivals F_arrivals n_arrivals C_checked_flow
  have C_carries : Has P w K mg base ⟨K, mg⟩ 9 "carries" _ _ P_carries r_carries := h_carries F_carries n_carries C_checked_flow
  have C__law_told : Has P w K mg base ⟨K, mg⟩ 10 "_law_told" _ _ P__law_told r__law_told := h__law_told F__law_told n__law_told C_after C_arrivals C_carries
  have C_opened : Has P w K mg base ⟨K, mg⟩ 7 "opened" _ _ P_opened r_opened := h_opened F_opened n_opened C_validate_net g_len g_tuple g_range
  have C_state_count : Has P w K mg base ⟨K, mg⟩ 7 "state_count" _ _ P_state_count r_state_count := h_state_count F_state_count n_state_count C_validate_net
  exact (h_law (w := w) (base := base) F_law n_law C__law_source C__law_net C__law_draw C__law_vector C_joined C__law_told C_opened C_state_count g_range g_tuple g_repr g_zip g_len).fn

end L06

namespace L06
open PySem DL L2
theorem eqvAll_nil (ns : List Int) : PyData.eqvAll (ns.map PyData.int) [] = decide (ns = []) := by
  cases ns <;> simp [PyData.eqvAll]
theorem can_ints : ∀ ns : List Int, PyData.canLayAll0 (ns.map PyData.int) = true
  | [] => by simp [PyData.canLayAll0]
  | n :: ns => by simp [PyData.canLayAll0, PyData.canLay0, can_ints ns]
theorem depth_ints : ∀ ns : List Int, PyData.depthAll (ns.map PyData.int) = 0
  | [] => by simp [PyData.depthAll]
  | n :: ns => by simp [PyData.depthAll, PyData.depth, depth_ints ns]
theorem shaped_ints (ns : List Int) : SeqAt.shaped (.list (ns.map PyData.int)) = true := by
  simp [SeqAt.shaped, PyData.canLay0, can_ints, PyData.depth, depth_ints]
section
variable {s : DS} {QR : R → DS → Prop} {ns : List Int} {n m : Int}
theorem ne_scr : Ok (neM (.scr ns) (.lst []) s) QR = QR (.val (.bl (!decide (ns = [])))) s := by
  have h2 := shaped_ints []
  have h1 := shaped_ints ns
  have e : PyData.eqv (.list (ns.map PyData.int)) (.list []) = decide (ns = []) := by rw [PyData.eqv, eqvAll_nil]
  simp only [List.map_nil] at h2
  simp only [neM, toP, toPs, h1, h2, Bool.and_self, if_true, e]
  rfl
theorem ix_scr {k : Int} (h0 : 0 ≤ k) (h1 : k < ns.length) : ∃ c, ∀ s (QR : R → DS → Prop), Ok (ixD (.scr ns) (.int k) s) QR = QR (.val (.int c)) s := by
  have hk : k.toNat < ns.length := by omega
  refine ⟨ns[k.toNat], fun s QR => ?_⟩
  have e : L2.atI ns k = some ns[k.toNat] := by
    unfold L2.atI ixN
    rw [if_pos h0, if_pos h1]
    exact List.getElem?_eq_getElem hk
  simp only [ixD, e, M.ofOpt, Option.map_some]
  rfl
theorem len_scr : Ok (lenM (.scr ns) s) QR = QR (.val (.int (ns.length : Int))) s := rfl
theorem pow_1018 : Ok (intD powG (.int 10) (.int 18) s) QR = QR (.val (.int 1000000000000000000)) s := by
  have e : powG 10 18 = some (.int 1000000000000000000) := by
    unfold powG
    rw [if_pos ⟨by decide, by decide, by decide⟩]
    rfl
  unfold intD; simp only [e]; rfl
theorem lgS {n : Int} (h1 : -4611686018427387904 < n) (h2 : n < 4611686018427387904) : n.natAbs.log2 < 100 := by
  by_cases c : n.natAbs = 0
  · rw [c]; decide
  · rw [Nat.log2_lt c]
    have : (2:Nat)^100 = 1267650600228229401496703205376 := by decide
    omega
theorem mulS (h1 : -4611686018427387904 < n) (h2 : n < 4611686018427387904) (h3 : -4611686018427387904 < m) (h4 : m < 4611686018427387904) : n.natAbs.log2 + m.natAbs.log2 < 1000000 := by
  have := lgS h1 h2; have := lgS h3 h4; omega
end
end L06

namespace L06
open PySem DL L2
section
variable {s : DS} {QR : R → DS → Prop} {n m : Int} {ds : List D} {e : List Slot} {t : List D}
theorem isi_ii : Ok (isiM (.int n) (.ty "int") s) QR = QR (.val (.bl true)) s := by simp only [isiM, tyN, Option.bind, kit1]; rfl
theorem isi_ib : Ok (isiM (.int n) (.ty "bool") s) QR = QR (.val (.bl false)) s := by simp only [isiM, tyN, Option.bind, kit2]; rfl
theorem isi_tt : Ok (isiM (.tup ds) (.ty "tuple") s) QR = QR (.val (.bl true)) s := by simp only [isiM, tyN, Option.bind, kit3]; rfl
theorem isi_it : Ok (isiM (.int n) (.ty "tuple") s) QR = QR (.val (.bl false)) s := by simp only [isiM, tyN, Option.bind, kit3]; rfl
theorem len_tup : Ok (lenM (.tup ds) s) QR = QR (.val (.int (ds.length : Int))) s := rfl
theorem len_lst : Ok (lenM (.lst ds) s) QR = QR (.val (.int (ds.length : Int))) s := rfl
theorem neg_int : Ok (negM (.int n) s) QR = QR (.val (.int (-n))) s := rfl
theorem tru_bl {b : Bool} : truD (.bl b) = some b := rfl
theorem w_isN : Ok (isM false .non .non s) QR = QR (.val (.bl true)) s := rfl
theorem w_isnN : Ok (isM true .non .non s) QR = QR (.val (.bl false)) s := rfl
theorem is_integer_i : Ok (r_is_integer [.int n] ⟨e, t⟩) QR = QR (.val (.bl true)) ⟨e, t⟩ := by
  unfold r_is_integer m_is_integer
  simp -implicitDefEqProofs only [w_fn, w_seq, w_if, w_sB, w_tru, w_s2, w_s1, w_rd1, w_rd2, w_var, w_C, w_lookV, w_lookO, w_lookS, w_set, w_putV, w_putO, w_asg, w_gSub, w_gN, w_gT, w_gsN, w_gsC, w_toDV, w_toDO, w_toDS, w_updR, w_updS, w_ret, w_moveV, w_moveO, w_moveS, w_skip, w_and, w_or, w_not, w_andV, w_orV, w_notV, w_chain, w_lst, w_tup, w_nil, w_cons, w_call, w_drop, w_augS, w_M, w_app, w_par, w_putAll0, w_putAll1, w_kNil, w_kCons, w_keepV, w_keepO, w_for, w_lc, w_it, w_itK, w_enum, w_zip, w_callS, w_zipX, w_rng1, w_rng2, w_pure, w_cell, w_no, w_part, w_sl, w_slT, w_slL, ok_ok,
    List.map_cons, List.map_nil, List.length_cons, List.length_nil, List.replicate, List.cons_append, List.nil_append, List.getElem?_cons_zero, List.getElem?_cons_succ, List.set_cons_zero, List.set_cons_succ, look_int, look_bl, look_non, look_str, look_tup, look_lst, look_dic, look_scr, look_ty, look_ref,
    w_gtI, w_modI, w_divI, w_addI, w_subI, w_mulI, w_geI, w_ltI, w_leI, w_eqI, w_neI, isi_ii, isi_ib, Bool.not_false]
theorem is_between_i {v a b : Int} : Ok (r_is_between [.int v, .int a, .int b] ⟨e, t⟩) QR = QR (.val (.bl (decide (a ≤ v) && decide (v ≤ b)))) ⟨e, t⟩ := by
  unfold r_is_between m_is_between
  simp -implicitDefEqProofs only [w_fn, w_seq, w_if, w_sB, w_tru, w_s2, w_s1, w_rd1, w_rd2, w_var, w_C, w_lookV, w_lookO, w_lookS, w_set, w_putV, w_putO, w_asg, w_gSub, w_gN, w_gT, w_gsN, w_gsC, w_toDV, w_toDO, w_toDS, w_updR, w_updS, w_ret, w_moveV, w_moveO, w_moveS, w_skip, w_and, w_or, w_not, w_andV, w_orV, w_notV, w_chain, w_lst, w_tup, w_nil, w_cons, w_call, w_drop, w_augS, w_M, w_app, w_par, w_putAll0, w_putAll1, w_kNil, w_kCons, w_keepV, w_keepO, w_for, w_lc, w_it, w_itK, w_enum, w_zip, w_callS, w_zipX, w_rng1, w_rng2, w_pure, w_cell, w_no, w_part, w_sl, w_slT, w_slL, ok_ok,
    List.map_cons, List.map_nil, List.length_cons, List.length_nil, List.replicate, List.cons_append, List.nil_append, List.getElem?_cons_zero, List.getElem?_cons_succ, List.set_cons_zero, List.set_cons_succ, look_int, look_bl, look_non, look_str, look_tup, look_lst, look_dic, look_scr, look_ty, look_ref,
    w_gtI, w_modI, w_divI, w_addI, w_subI, w_mulI, w_geI, w_ltI, w_leI, w_eqI, w_neI, is_integer_i, true_and, Nat.reduceAdd, Nat.reduceSub]
  by_cases c : a ≤ v
  · simp only [c, decide_true, Bool.true_and, w_fn, w_seq, w_if, w_sB, w_tru, w_s2, w_s1, w_rd1, w_rd2, w_var, w_C, w_lookV, w_lookO, w_lookS, w_set, w_putV, w_putO, w_asg, w_gSub, w_gN, w_gT, w_gsN, w_gsC, w_toDV, w_toDO, w_toDS, w_updR, w_updS, w_ret, w_moveV, w_moveO, w_moveS, w_skip, w_and, w_or, w_not, w_andV, w_orV, w_notV, w_chain, w_lst, w_tup, w_nil, w_cons, w_call, w_drop, w_augS, w_M, w_app, w_par, w_putAll0, w_putAll1, w_kNil, w_kCons, w_keepV, w_keepO, w_for, w_lc, w_it, w_itK, w_enum, w_zip, w_callS, w_zipX, w_rng1, w_rng2, w_pure, w_cell, w_no, w_part, w_sl, w_slT, w_slL, ok_ok,
    List.map_cons, List.map_nil, List.length_cons, List.length_nil, List.replicate, List.cons_append, List.nil_append, List.getElem?_cons_zero, List.getElem?_cons_succ, List.set_cons_zero, List.set_cons_succ, look_int, look_bl, look_non, look_str, look_tup, look_lst, look_dic, look_scr, look_ty, look_ref,
    w_gtI, w_modI, w_divI, w_addI, w_subI, w_mulI, w_geI, w_ltI, w_leI, w_eqI, w_neI]
  · simp only [c, decide_false, Bool.false_and, w_fn, w_seq, w_if, w_sB, w_tru, w_s2, w_s1, w_rd1, w_rd2, w_var, w_C, w_lookV, w_lookO, w_lookS, w_set, w_putV, w_putO, w_asg, w_gSub, w_gN, w_gT, w_gsN, w_gsC, w_toDV, w_toDO, w_toDS, w_updR, w_updS, w_ret, w_moveV, w_moveO, w_moveS, w_skip, w_and, w_or, w_not, w_andV, w_orV, w_notV, w_chain, w_lst, w_tup, w_nil, w_cons, w_call, w_drop, w_augS, w_M, w_app, w_par, w_putAll0, w_putAll1, w_kNil, w_kCons, w_keepV, w_keepO, w_for, w_lc, w_it, w_itK, w_enum, w_zip, w_callS, w_zipX, w_rng1, w_rng2, w_pure, w_cell, w_no, w_part, w_sl, w_slT, w_slL, ok_ok,
    List.map_cons, List.map_nil, List.length_cons, List.length_nil, List.replicate, List.cons_append, List.nil_append, List.getElem?_cons_zero, List.getElem?_cons_succ, List.set_cons_zero, List.set_cons_succ, look_int, look_bl, look_non, look_str, look_tup, look_lst, look_dic, look_scr, look_ty, look_ref,
    w_gtI, w_modI, w_divI, w_addI, w_subI, w_mulI, w_geI, w_ltI, w_leI, w_eqI, w_neI]
end
/-- a net: moduli, wires, inputs -/
structure Net where
  mo : List Int
  wi : List (Int × Int × Int)
  inp : List Int
def wireD (w : Int × Int × Int) : D := .tup [.int w.1, .int w.2.1, .int w.2.2]
def tupI (l : List Int) : D := .tup (l.map D.int)
def Net.d (N : Net) : D := .tup [tupI N.mo, .tup (N.wi.map wireD), tupI N.inp]
/-- wires in strict order of their ends, from before on -/
def sortedW : Int × Int → List (Int × Int × Int) → Prop
  | _, [] => True
  | b, w :: r => (b.1 < w.1 ∨ (b.1 = w.1 ∧ b.2 < w.2.1)) ∧ sortedW (w.1, w.2.1) r
def sortedI : Int → List Int → Prop
  | _, [] => True
  | b, i :: r => b ≤ i ∧ sortedI (i + 1) r
structure Net.Ok (N : Net) : Prop where
  mo1 : 1 ≤ N.mo.length
  mo2 : N.mo.length ≤ 10
  mo3 : ∀ m ∈ N.mo, 2 ≤ m ∧ m ≤ 1000
  wi1 : ∀ w ∈ N.wi, 0 ≤ w.1 ∧ w.1 < w.2.1 ∧ w.2.1 < N.mo.length ∧ -100 ≤ w.2.2 ∧ w.2.2 ≤ 100 ∧ w.2.2 ≠ 0
  wi2 : sortedW (0, 0) N.wi
  in1 : sortedI 0 N.inp
  in2 : ∀ i ∈ N.inp, 0 ≤ i ∧ i < N.mo.length
section
variable {s : DS} {QR : R → DS → Prop} {n m : Int} {ds : List D} {e : List Slot} {t : List D} {N : Net}
theorem is_wire_ok {w : Int × Int × Int} (h : 0 ≤ w.1 ∧ w.1 < w.2.1 ∧ w.2.1 < m ∧ -100 ≤ w.2.2 ∧ w.2.2 ≤ 100 ∧ w.2.2 ≠ 0) : Ok (r_is_wire [wireD w, .int m] ⟨e, t⟩) QR = QR (.val (.bl true)) ⟨e, t⟩ := by
  obtain ⟨h1, h2, h3, h4, h5, h6⟩ := h
  have a1 : decide ((0 : Int) ≤ w.1) = true := decide_eq_true h1
  have a2 : decide (w.1 ≤ m - 1) = true := decide_eq_true (by omega)
  have a3 : decide (w.1 + 1 ≤ w.2.1) = true := decide_eq_true (by omega)
  have a4 : decide (w.2.1 ≤ m - 1) = true := decide_eq_true (by omega)
  have a5 : decide (-100 ≤ w.2.2) = true := decide_eq_true h4
  have a6 : decide (w.2.2 ≤ 100) = true := decide_eq_true h5
  have a7 : decide (w.2.2 = 0) = false := decide_eq_false h6
  unfold r_is_wire m_is_wire wireD
  simp -implicitDefEqProofs only [w_fn, w_seq, w_if, w_sB, w_tru, w_s2, w_s1, w_rd1, w_rd2, w_var, w_C, w_lookV, w_lookO, w_lookS, w_set, w_putV, w_putO, w_asg, w_gSub, w_gN, w_gT, w_gsN, w_gsC, w_toDV, w_toDO, w_toDS, w_updR, w_updS, w_ret, w_moveV, w_moveO, w_moveS, w_skip, w_and, w_or, w_not, w_andV, w_orV, w_notV, w_chain, w_lst, w_tup, w_nil, w_cons, w_call, w_drop, w_augS, w_M, w_app, w_par, w_putAll0, w_putAll1, w_kNil, w_kCons, w_keepV, w_keepO, w_for, w_lc, w_it, w_itK, w_enum, w_zip, w_callS, w_zipX, w_rng1, w_rng2, w_pure, w_cell, w_no, w_part, w_sl, w_slT, w_slL, ok_ok,
    List.map_cons, List.map_nil, List.length_cons, List.length_nil, List.replicate, List.cons_append, List.nil_append, List.getElem?_cons_zero, List.getElem?_cons_succ, List.set_cons_zero, List.set_cons_succ, look_int, look_bl, look_non, look_str, look_tup, look_lst, look_dic, look_scr, look_ty, look_ref,
    w_gtI, w_modI, w_divI, w_addI, w_subI, w_mulI, w_geI, w_ltI, w_leI, w_eqI, w_neI, isi_tt, len_tup, neg_int, tru_bl, is_between_i, a1, a2, a3, a4, a5, a6, a7, Bool.and_self, Bool.not_true, Bool.not_false, Bool.false_eq_true, if_false, true_and, Nat.reduceAdd, Nat.reduceSub, Int.natCast_add, decide_true]
  rw [if_neg (by decide)]
theorem enum_at {l : List D} {i : Nat} {x : D} : ∀ {k : Nat}, (enumD k l)[i]? = some x → ∃ d, l[i]? = some d ∧ x = .tup [.int ((k + i : Nat) : Int), d] := by
  intro k h
  have hl : i < l.length := by
    have := (List.getElem?_eq_some_iff.mp h).1
    rwa [enumD_length] at this
  refine ⟨l[i], List.getElem?_eq_getElem hl, ?_⟩
  have := enumD_get (k := k) (List.getElem?_eq_getElem hl)
  rw [h] at this
  exact Option.some.inj this
theorem moduli_eq (h : N.Ok) : r_moduli_problem [tupI N.mo] ⟨e, t⟩ = .ok (.val .non) ⟨e, t⟩ := by
  apply Ok.eq
  have a1 : decide ((1 : Int) ≤ ((N.mo.map D.int).length : Int)) = true := decide_eq_true (by rw [List.length_map]; have := h.mo1; omega)
  have a2 : decide (((N.mo.map D.int).length : Int) ≤ 10) = true := decide_eq_true (by rw [List.length_map]; have := h.mo2; omega)
  unfold r_moduli_problem m_moduli_problem tupI
  simp -implicitDefEqProofs only [w_fn, w_seq, w_if, w_sB, w_tru, w_s2, w_s1, w_rd1, w_rd2, w_var, w_C, w_lookV, w_lookO, w_lookS, w_set, w_putV, w_putO, w_asg, w_gSub, w_gN, w_gT, w_gsN, w_gsC, w_toDV, w_toDO, w_toDS, w_updR, w_updS, w_ret, w_moveV, w_moveO, w_moveS, w_skip, w_and, w_or, w_not, w_andV, w_orV, w_notV, w_chain, w_lst, w_tup, w_nil, w_cons, w_call, w_drop, w_augS, w_M, w_app, w_par, w_putAll0, w_putAll1, w_kNil, w_kCons, w_keepV, w_keepO, w_for, w_lc, w_it, w_itK, w_enum, w_zip, w_callS, w_zipX, w_rng1, w_rng2, w_pure, w_cell, w_no, w_part, w_sl, w_slT, w_slL, ok_ok,
    List.map_cons, List.map_nil, List.length_cons, List.length_nil, List.replicate, List.cons_append, List.nil_append, List.getElem?_cons_zero, List.getElem?_cons_succ, List.set_cons_zero, List.set_cons_succ, look_int, look_bl, look_non, look_str, look_tup, look_lst, look_dic, look_scr, look_ty, look_ref,
    w_gtI, w_modI, w_divI, w_addI, w_subI, w_mulI, w_geI, w_ltI, w_leI, w_eqI, w_neI, isi_tt, len_tup, tru_bl, a1, a2, Bool.not_true, Bool.false_eq_true, if_false, true_and, Nat.reduceAdd, Nat.reduceSub]
  refine Ok.forL (k := 0) (fun _ s => ∃ x y, s = ⟨[.val (.tup (N.mo.map D.int)), x, y], t⟩) ⟨_, _, rfl⟩ ?_ ?_
  · rintro i x _ hx ⟨y, z, rfl⟩
    obtain ⟨d, hd, rfl⟩ := enum_at hx
    rw [List.getElem?_map] at hd
    cases em : N.mo[i]? with
    | none => rw [em] at hd; cases hd
    | some m =>
      rw [em] at hd; cases hd
      obtain ⟨b1, b2⟩ := h.mo3 m (List.mem_of_getElem? em)
      have c1 : decide ((2 : Int) ≤ m) = true := decide_eq_true b1
      have c2 : decide (m ≤ 1000) = true := decide_eq_true b2
      simp -implicitDefEqProofs only [w_fn, w_seq, w_if, w_sB, w_tru, w_s2, w_s1, w_rd1, w_rd2, w_var, w_C, w_lookV, w_lookO, w_lookS, w_set, w_putV, w_putO, w_asg, w_gSub, w_gN, w_gT, w_gsN, w_gsC, w_toDV, w_toDO, w_toDS, w_updR, w_updS, w_ret, w_moveV, w_moveO, w_moveS, w_skip, w_and, w_or, w_not, w_andV, w_orV, w_notV, w_chain, w_lst, w_tup, w_nil, w_cons, w_call, w_drop, w_augS, w_M, w_app, w_par, w_putAll0, w_putAll1, w_kNil, w_kCons, w_keepV, w_keepO, w_for, w_lc, w_it, w_itK, w_enum, w_zip, w_callS, w_zipX, w_rng1, w_rng2, w_pure, w_cell, w_no, w_part, w_sl, w_slT, w_slL, ok_ok,
    List.map_cons, List.map_nil, List.length_cons, List.length_nil, List.replicate, List.cons_append, List.nil_append, List.getElem?_cons_zero, List.getElem?_cons_succ, List.set_cons_zero, List.set_cons_succ, look_int, look_bl, look_non, look_str, look_tup, look_lst, look_dic, look_scr, look_ty, look_ref,
    w_gtI, w_modI, w_divI, w_addI, w_subI, w_mulI, w_geI, w_ltI, w_leI, w_eqI, w_neI, is_between_i, tru_bl, c1, c2, Bool.and_self, Bool.not_true, Bool.false_eq_true, if_false, true_and, Nat.reduceAdd, Nat.reduceSub]
      exact ⟨_, _, rfl⟩
  · rintro s1 ⟨y, z, rfl⟩
    simp -implicitDefEqProofs only [w_fn, w_seq, w_if, w_sB, w_tru, w_s2, w_s1, w_rd1, w_rd2, w_var, w_C, w_lookV, w_lookO, w_lookS, w_set, w_putV, w_putO, w_asg, w_gSub, w_gN, w_gT, w_gsN, w_gsC, w_toDV, w_toDO, w_toDS, w_updR, w_updS, w_ret, w_moveV, w_moveO, w_moveS, w_skip, w_and, w_or, w_not, w_andV, w_orV, w_notV, w_chain, w_lst, w_tup, w_nil, w_cons, w_call, w_drop, w_augS, w_M, w_app, w_par, w_putAll0, w_putAll1, w_kNil, w_kCons, w_keepV, w_keepO, w_for, w_lc, w_it, w_itK, w_enum, w_zip, w_callS, w_zipX, w_rng1, w_rng2, w_pure, w_cell, w_no, w_part, w_sl, w_slT, w_slL, ok_ok,
    List.map_cons, List.map_nil, List.length_cons, List.length_nil, List.replicate, List.cons_append, List.nil_append, List.getElem?_cons_zero, List.getElem?_cons_succ, List.set_cons_zero, List.set_cons_succ, look_int, look_bl, look_non, look_str, look_tup, look_lst, look_dic, look_scr, look_ty, look_ref,
    w_gtI, w_modI, w_divI, w_addI, w_subI, w_mulI, w_geI, w_ltI, w_leI, w_eqI, w_neI, true_and]
theorem le_pair {a b c d : Int} (h : c < a ∨ (c = a ∧ d < b)) : Ok (leM (.tup [.int a, .int b]) (.tup [.int c, .int d]) s) QR = QR (.val (.bl false)) s := by
  have e : leT [a, b] [c, d] = false := by
    show (if decide (a = c) = true then (if decide (b = d) = true then _ else decide (b ≤ d)) else decide (a ≤ c)) = false
    rcases h with h | ⟨h1, h2⟩
    · rw [if_neg (by rw [decide_eq_true_eq]; omega)]; exact decide_eq_false (by omega)
    · rw [if_pos (by rw [decide_eq_true_eq]; omega), if_neg (by rw [decide_eq_true_eq]; omega)]; exact decide_eq_false (by omega)
  show Ok (boolM (leT [a, b] [c, d]) s) QR = _
  rw [e]; rfl
theorem cut2 {a b c : D} : cutD [a, b, c] none (some 2) = [a, b] := rfl
theorem wires_eq (h : N.Ok) : r_wires_problem [.tup (N.wi.map wireD), .int (N.mo.length : Int)] ⟨e, t⟩ = .ok (.val .non) ⟨e, t⟩ := by
  apply Ok.eq
  unfold r_wires_problem m_wires_problem
  simp -implicitDefEqProofs only [w_fn, w_seq, w_if, w_sB, w_tru, w_s2, w_s1, w_rd1, w_rd2, w_var, w_C, w_lookV, w_lookO, w_lookS, w_set, w_putV, w_putO, w_asg, w_gSub, w_gN, w_gT, w_gsN, w_gsC, w_toDV, w_toDO, w_toDS, w_updR, w_updS, w_ret, w_moveV, w_moveO, w_moveS, w_skip, w_and, w_or, w_not, w_andV, w_orV, w_notV, w_chain, w_lst, w_tup, w_nil, w_cons, w_call, w_drop, w_augS, w_M, w_app, w_par, w_putAll0, w_putAll1, w_kNil, w_kCons, w_keepV, w_keepO, w_for, w_lc, w_it, w_itK, w_enum, w_zip, w_callS, w_zipX, w_rng1, w_rng2, w_pure, w_cell, w_no, w_part, w_sl, w_slT, w_slL, ok_ok,
    List.map_cons, List.map_nil, List.length_cons, List.length_nil, List.replicate, List.cons_append, List.nil_append, List.getElem?_cons_zero, List.getElem?_cons_succ, List.set_cons_zero, List.set_cons_succ, look_int, look_bl, look_non, look_str, look_tup, look_lst, look_dic, look_scr, look_ty, look_ref,
    w_gtI, w_modI, w_divI, w_addI, w_subI, w_mulI, w_geI, w_ltI, w_leI, w_eqI, w_neI, isi_tt, tru_bl, Bool.not_true, Bool.false_eq_true, if_false, true_and, Nat.reduceAdd, Nat.reduceSub]
  refine ⟨by decide, ?_⟩
  refine Ok.forL (k := 0) (fun k s => ∃ x y b, s = ⟨[.val (.tup (N.wi.map wireD)), .val (.int (N.mo.length : Int)), .val (.tup [.int b.1, .int b.2]), x, y], t⟩ ∧ sortedW b (N.wi.drop k)) ⟨_, _, (0, 0), rfl, h.wi2⟩ ?_ ?_
  · rintro i x _ hx ⟨y, z, b, rfl, hb⟩
    obtain ⟨d, hd, rfl⟩ := enum_at hx
    rw [List.getElem?_map] at hd
    cases em : N.wi[i]? with
    | none => rw [em] at hd; cases hd
    | some w =>
      rw [em] at hd; cases hd
      have hw := h.wi1 w (List.mem_of_getElem? em)
      rw [Nat.zero_add] at hb
      obtain ⟨hl, em2⟩ := List.getElem?_eq_some_iff.mp em
      rw [List.drop_eq_getElem_cons hl, em2] at hb
      obtain ⟨hb1, hb2⟩ := hb
      simp -implicitDefEqProofs only [w_fn, w_seq, w_if, w_sB, w_tru, w_s2, w_s1, w_rd1, w_rd2, w_var, w_C, w_lookV, w_lookO, w_lookS, w_set, w_putV, w_putO, w_asg, w_gSub, w_gN, w_gT, w_gsN, w_gsC, w_toDV, w_toDO, w_toDS, w_updR, w_updS, w_ret, w_moveV, w_moveO, w_moveS, w_skip, w_and, w_or, w_not, w_andV, w_orV, w_notV, w_chain, w_lst, w_tup, w_nil, w_cons, w_call, w_drop, w_augS, w_M, w_app, w_par, w_putAll0, w_putAll1, w_kNil, w_kCons, w_keepV, w_keepO, w_for, w_lc, w_it, w_itK, w_enum, w_zip, w_callS, w_zipX, w_rng1, w_rng2, w_pure, w_cell, w_no, w_part, w_sl, w_slT, w_slL, ok_ok,
    List.map_cons, List.map_nil, List.length_cons, List.length_nil, List.replicate, List.cons_append, List.nil_append, List.getElem?_cons_zero, List.getElem?_cons_succ, List.set_cons_zero, List.set_cons_succ, look_int, look_bl, look_non, look_str, look_tup, look_lst, look_dic, look_scr, look_ty, look_ref,
    w_gtI, w_modI, w_divI, w_addI, w_subI, w_mulI, w_geI, w_ltI, w_leI, w_eqI, w_neI, is_wire_ok hw, tru_bl, Bool.not_true, Bool.false_eq_true, if_false, true_and, Nat.reduceAdd, Nat.reduceSub]
      simp only [wireD]
      simp -implicitDefEqProofs only [w_fn, w_seq, w_if, w_sB, w_tru, w_s2, w_s1, w_rd1, w_rd2, w_var, w_C, w_lookV, w_lookO, w_lookS, w_set, w_putV, w_putO, w_asg, w_gSub, w_gN, w_gT, w_gsN, w_gsC, w_toDV, w_toDO, w_toDS, w_updR, w_updS, w_ret, w_moveV, w_moveO, w_moveS, w_skip, w_and, w_or, w_not, w_andV, w_orV, w_notV, w_chain, w_lst, w_tup, w_nil, w_cons, w_call, w_drop, w_augS, w_M, w_app, w_par, w_putAll0, w_putAll1, w_kNil, w_kCons, w_keepV, w_keepO, w_for, w_lc, w_it, w_itK, w_enum, w_zip, w_callS, w_zipX, w_rng1, w_rng2, w_pure, w_cell, w_no, w_part, w_sl, w_slT, w_slL, ok_ok,
    List.map_cons, List.map_nil, List.length_cons, List.length_nil, List.replicate, List.cons_append, List.nil_append, List.getElem?_cons_zero, List.getElem?_cons_succ, List.set_cons_zero, List.set_cons_succ, look_int, look_bl, look_non, look_str, look_tup, look_lst, look_dic, look_scr, look_ty, look_ref,
    w_gtI, w_modI, w_divI, w_addI, w_subI, w_mulI, w_geI, w_ltI, w_leI, w_eqI, w_neI, cut2, le_pair hb1, Bool.false_eq_true, if_false]
      exact ⟨_, _, (w.1, w.2.1), rfl, by rw [Nat.zero_add]; exact hb2⟩
  · rintro s1 ⟨y, z, b, rfl, _⟩
    simp -implicitDefEqProofs only [w_fn, w_seq, w_if, w_sB, w_tru, w_s2, w_s1, w_rd1, w_rd2, w_var, w_C, w_lookV, w_lookO, w_lookS, w_set, w_putV, w_putO, w_asg, w_gSub, w_gN, w_gT, w_gsN, w_gsC, w_toDV, w_toDO, w_toDS, w_updR, w_updS, w_ret, w_moveV, w_moveO, w_moveS, w_skip, w_and, w_or, w_not, w_andV, w_orV, w_notV, w_chain, w_lst, w_tup, w_nil, w_cons, w_call, w_drop, w_augS, w_M, w_app, w_par, w_putAll0, w_putAll1, w_kNil, w_kCons, w_keepV, w_keepO, w_for, w_lc, w_it, w_itK, w_enum, w_zip, w_callS, w_zipX, w_rng1, w_rng2, w_pure, w_cell, w_no, w_part, w_sl, w_slT, w_slL, ok_ok,
    List.map_cons, List.map_nil, List.length_cons, List.length_nil, List.replicate, List.cons_append, List.nil_append, List.getElem?_cons_zero, List.getElem?_cons_succ, List.set_cons_zero, List.set_cons_succ, look_int, look_bl, look_non, look_str, look_tup, look_lst, look_dic, look_scr, look_ty, look_ref,
    w_gtI, w_modI, w_divI, w_addI, w_subI, w_mulI, w_geI, w_ltI, w_leI, w_eqI, w_neI, true_and]
theorem inputs_eq (h : N.Ok) : r_inputs_problem [tupI N.inp, .int (N.mo.length : Int)] ⟨e, t⟩ = .ok (.val .non) ⟨e, t⟩ := by
  apply Ok.eq
  unfold r_inputs_problem m_inputs_problem tupI
  simp -implicitDefEqProofs only [w_fn, w_seq, w_if, w_sB, w_tru, w_s2, w_s1, w_rd1, w_rd2, w_var, w_C, w_lookV, w_lookO, w_lookS, w_set, w_putV, w_putO, w_asg, w_gSub, w_gN, w_gT, w_gsN, w_gsC, w_toDV, w_toDO, w_toDS, w_updR, w_updS, w_ret, w_moveV, w_moveO, w_moveS, w_skip, w_and, w_or, w_not, w_andV, w_orV, w_notV, w_chain, w_lst, w_tup, w_nil, w_cons, w_call, w_drop, w_augS, w_M, w_app, w_par, w_putAll0, w_putAll1, w_kNil, w_kCons, w_keepV, w_keepO, w_for, w_lc, w_it, w_itK, w_enum, w_zip, w_callS, w_zipX, w_rng1, w_rng2, w_pure, w_cell, w_no, w_part, w_sl, w_slT, w_slL, ok_ok,
    List.map_cons, List.map_nil, List.length_cons, List.length_nil, List.replicate, List.cons_append, List.nil_append, List.getElem?_cons_zero, List.getElem?_cons_succ, List.set_cons_zero, List.set_cons_succ, look_int, look_bl, look_non, look_str, look_tup, look_lst, look_dic, look_scr, look_ty, look_ref,
    w_gtI, w_modI, w_divI, w_addI, w_subI, w_mulI, w_geI, w_ltI, w_leI, w_eqI, w_neI, isi_tt, tru_bl, Bool.not_true, Bool.false_eq_true, if_false, true_and, Nat.reduceAdd, Nat.reduceSub]
  refine Ok.forL (k := 0) (fun k s => ∃ x y b, s = ⟨[.val (.tup (N.inp.map D.int)), .val (.int (N.mo.length : Int)), .val (.int b), x, y], t⟩ ∧ sortedI b (N.inp.drop k)) ⟨_, _, 0, rfl, h.in1⟩ ?_ ?_
  · rintro i x _ hx ⟨y, z, b, rfl, hb⟩
    obtain ⟨d, hd, rfl⟩ := enum_at hx
    rw [List.getElem?_map] at hd
    cases em : N.inp[i]? with
    | none => rw [em] at hd; cases hd
    | some c =>
      rw [em] at hd; cases hd
      obtain ⟨hw1, hw2⟩ := h.in2 c (List.mem_of_getElem? em)
      rw [Nat.zero_add] at hb
      obtain ⟨hl, em2⟩ := List.getElem?_eq_some_iff.mp em
      rw [List.drop_eq_getElem_cons hl, em2] at hb
      obtain ⟨hb1, hb2⟩ := hb
      have c1 : decide (b ≤ c) = true := decide_eq_true hb1
      have c2 : decide (c ≤ (N.mo.length : Int) - 1) = true := decide_eq_true (by omega)
      simp -implicitDefEqProofs only [w_fn, w_seq, w_if, w_sB, w_tru, w_s2, w_s1, w_rd1, w_rd2, w_var, w_C, w_lookV, w_lookO, w_lookS, w_set, w_putV, w_putO, w_asg, w_gSub, w_gN, w_gT, w_gsN, w_gsC, w_toDV, w_toDO, w_toDS, w_updR, w_updS, w_ret, w_moveV, w_moveO, w_moveS, w_skip, w_and, w_or, w_not, w_andV, w_orV, w_notV, w_chain, w_lst, w_tup, w_nil, w_cons, w_call, w_drop, w_augS, w_M, w_app, w_par, w_putAll0, w_putAll1, w_kNil, w_kCons, w_keepV, w_keepO, w_for, w_lc, w_it, w_itK, w_enum, w_zip, w_callS, w_zipX, w_rng1, w_rng2, w_pure, w_cell, w_no, w_part, w_sl, w_slT, w_slL, ok_ok,
    List.map_cons, List.map_nil, List.length_cons, List.length_nil, List.replicate, List.cons_append, List.nil_append, List.getElem?_cons_zero, List.getElem?_cons_succ, List.set_cons_zero, List.set_cons_succ, look_int, look_bl, look_non, look_str, look_tup, look_lst, look_dic, look_scr, look_ty, look_ref,
    w_gtI, w_modI, w_divI, w_addI, w_subI, w_mulI, w_geI, w_ltI, w_leI, w_eqI, w_neI, is_between_i, c1, c2, Bool.and_self, tru_bl, Bool.not_true, Bool.false_eq_true, if_false, true_and, Nat.reduceAdd, Nat.reduceSub]
      exact ⟨_, _, c + 1, rfl, by rw [Nat.zero_add]; exact hb2⟩
  · rintro s1 ⟨y, z, b, rfl, _⟩
    simp -implicitDefEqProofs only [w_fn, w_seq, w_if, w_sB, w_tru, w_s2, w_s1, w_rd1, w_rd2, w_var, w_C, w_lookV, w_lookO, w_lookS, w_set, w_putV, w_putO, w_asg, w_gSub, w_gN, w_gT, w_gsN, w_gsC, w_toDV, w_toDO, w_toDS, w_updR, w_updS, w_ret, w_moveV, w_moveO, w_moveS, w_skip, w_and, w_or, w_not, w_andV, w_orV, w_notV, w_chain, w_lst, w_tup, w_nil, w_cons, w_call, w_drop, w_augS, w_M, w_app, w_par, w_putAll0, w_putAll1, w_kNil, w_kCons, w_keepV, w_keepO, w_for, w_lc, w_it, w_itK, w_enum, w_zip, w_callS, w_zipX, w_rng1, w_rng2, w_pure, w_cell, w_no, w_part, w_sl, w_slT, w_slL, ok_ok,
    List.map_cons, List.map_nil, List.length_cons, List.length_nil, List.replicate, List.cons_append, List.nil_append, List.getElem?_cons_zero, List.getElem?_cons_succ, List.set_cons_zero, List.set_cons_succ, look_int, look_bl, look_non, look_str, look_tup, look_lst, look_dic, look_scr, look_ty, look_ref,
    w_gtI, w_modI, w_divI, w_addI, w_subI, w_mulI, w_geI, w_ltI, w_leI, w_eqI, w_neI, true_and]
theorem net_eq (h : N.Ok) : r_net_problem [N.d] ⟨e, t⟩ = .ok (.val .non) ⟨e, t⟩ := by
  apply Ok.eq
  unfold r_net_problem m_net_problem Net.d
  have z : ((N.mo.map D.int).length : Int) = (N.mo.length : Int) := by rw [List.length_map]
  simp -implicitDefEqProofs only [w_fn, w_seq, w_if, w_sB, w_tru, w_s2, w_s1, w_rd1, w_rd2, w_var, w_C, w_lookV, w_lookO, w_lookS, w_set, w_putV, w_putO, w_asg, w_gSub, w_gN, w_gT, w_gsN, w_gsC, w_toDV, w_toDO, w_toDS, w_updR, w_updS, w_ret, w_moveV, w_moveO, w_moveS, w_skip, w_and, w_or, w_not, w_andV, w_orV, w_notV, w_chain, w_lst, w_tup, w_nil, w_cons, w_call, w_drop, w_augS, w_M, w_app, w_par, w_putAll0, w_putAll1, w_kNil, w_kCons, w_keepV, w_keepO, w_for, w_lc, w_it, w_itK, w_enum, w_zip, w_callS, w_zipX, w_rng1, w_rng2, w_pure, w_cell, w_no, w_part, w_sl, w_slT, w_slL, ok_ok,
    List.map_cons, List.map_nil, List.length_cons, List.length_nil, List.replicate, List.cons_append, List.nil_append, List.getElem?_cons_zero, List.getElem?_cons_succ, List.set_cons_zero, List.set_cons_succ, look_int, look_bl, look_non, look_str, look_tup, look_lst, look_dic, look_scr, look_ty, look_ref,
    w_gtI, w_modI, w_divI, w_addI, w_subI, w_mulI, w_geI, w_ltI, w_leI, w_eqI, w_neI, isi_tt, len_tup, tru_bl, Bool.not_true, Bool.false_eq_true, if_false, true_and, Nat.reduceAdd, Nat.reduceSub]
  rw [if_neg (by decide)]
  simp -implicitDefEqProofs only [w_fn, w_seq, w_if, w_sB, w_tru, w_s2, w_s1, w_rd1, w_rd2, w_var, w_C, w_lookV, w_lookO, w_lookS, w_set, w_putV, w_putO, w_asg, w_gSub, w_gN, w_gT, w_gsN, w_gsC, w_toDV, w_toDO, w_toDS, w_updR, w_updS, w_ret, w_moveV, w_moveO, w_moveS, w_skip, w_and, w_or, w_not, w_andV, w_orV, w_notV, w_chain, w_lst, w_tup, w_nil, w_cons, w_call, w_drop, w_augS, w_M, w_app, w_par, w_putAll0, w_putAll1, w_kNil, w_kCons, w_keepV, w_keepO, w_for, w_lc, w_it, w_itK, w_enum, w_zip, w_callS, w_zipX, w_rng1, w_rng2, w_pure, w_cell, w_no, w_part, w_sl, w_slT, w_slL, ok_ok,
    List.map_cons, List.map_nil, List.length_cons, List.length_nil, List.replicate, List.cons_append, List.nil_append, List.getElem?_cons_zero, List.getElem?_cons_succ, List.set_cons_zero, List.set_cons_succ, look_int, look_bl, look_non, look_str, look_tup, look_lst, look_dic, look_scr, look_ty, look_ref,
    w_gtI, w_modI, w_divI, w_addI, w_subI, w_mulI, w_geI, w_ltI, w_leI, w_eqI, w_neI, moduli_eq h, w_isN, if_true, true_and]
  simp only [tupI, len_tup, z, wires_eq h, w_fn, w_seq, w_if, w_sB, w_tru, w_s2, w_s1, w_rd1, w_rd2, w_var, w_C, w_lookV, w_lookO, w_lookS, w_set, w_putV, w_putO, w_asg, w_gSub, w_gN, w_gT, w_gsN, w_gsC, w_toDV, w_toDO, w_toDS, w_updR, w_updS, w_ret, w_moveV, w_moveO, w_moveS, w_skip, w_and, w_or, w_not, w_andV, w_orV, w_notV, w_chain, w_lst, w_tup, w_nil, w_cons, w_call, w_drop, w_augS, w_M, w_app, w_par, w_putAll0, w_putAll1, w_kNil, w_kCons, w_keepV, w_keepO, w_for, w_lc, w_it, w_itK, w_enum, w_zip, w_callS, w_zipX, w_rng1, w_rng2, w_pure, w_cell, w_no, w_part, w_sl, w_slT, w_slL, ok_ok,
    List.map_cons, List.map_nil, List.length_cons, List.length_nil, List.replicate, List.cons_append, List.nil_append, List.getElem?_cons_zero, List.getElem?_cons_succ, List.set_cons_zero, List.set_cons_succ, look_int, look_bl, look_non, look_str, look_tup, look_lst, look_dic, look_scr, look_ty, look_ref,
    w_gtI, w_modI, w_divI, w_addI, w_subI, w_mulI, w_geI, w_ltI, w_leI, w_eqI, w_neI, w_isN, if_true, true_and]
  have q := inputs_eq (e := [.val (.tup [.tup (N.mo.map D.int), .tup (N.wi.map wireD), .tup (N.inp.map D.int)]), .val (.tup (N.mo.map D.int)), .val (.tup (N.wi.map wireD)), .val (.tup (N.inp.map D.int)), .val .non]) (t := t) h
  simp only [tupI] at q
  simp only [q, w_fn, w_seq, w_if, w_sB, w_tru, w_s2, w_s1, w_rd1, w_rd2, w_var, w_C, w_lookV, w_lookO, w_lookS, w_set, w_putV, w_putO, w_asg, w_gSub, w_gN, w_gT, w_gsN, w_gsC, w_toDV, w_toDO, w_toDS, w_updR, w_updS, w_ret, w_moveV, w_moveO, w_moveS, w_skip, w_and, w_or, w_not, w_andV, w_orV, w_notV, w_chain, w_lst, w_tup, w_nil, w_cons, w_call, w_drop, w_augS, w_M, w_app, w_par, w_putAll0, w_putAll1, w_kNil, w_kCons, w_keepV, w_keepO, w_for, w_lc, w_it, w_itK, w_enum, w_zip, w_callS, w_zipX, w_rng1, w_rng2, w_pure, w_cell, w_no, w_part, w_sl, w_slT, w_slL, ok_ok,
    List.map_cons, List.map_nil, List.length_cons, List.length_nil, List.replicate, List.cons_append, List.nil_append, List.getElem?_cons_zero, List.getElem?_cons_succ, List.set_cons_zero, List.set_cons_succ, look_int, look_bl, look_non, look_str, look_tup, look_lst, look_dic, look_scr, look_ty, look_ref,
    w_gtI, w_modI, w_divI, w_addI, w_subI, w_mulI, w_geI, w_ltI, w_leI, w_eqI, w_neI, true_and]
theorem validate_eq (h : N.Ok) : r_validate_net [N.d] ⟨e, t⟩ = .ok (.val .non) ⟨e, t⟩ := by
  apply Ok.eq
  unfold r_validate_net m_validate_net
  simp -implicitDefEqProofs only [w_fn, w_seq, w_if, w_sB, w_tru, w_s2, w_s1, w_rd1, w_rd2, w_var, w_C, w_lookV, w_lookO, w_lookS, w_set, w_putV, w_putO, w_asg, w_gSub, w_gN, w_gT, w_gsN, w_gsC, w_toDV, w_toDO, w_toDS, w_updR, w_updS, w_ret, w_moveV, w_moveO, w_moveS, w_skip, w_and, w_or, w_not, w_andV, w_orV, w_notV, w_chain, w_lst, w_tup, w_nil, w_cons, w_call, w_drop, w_augS, w_M, w_app, w_par, w_putAll0, w_putAll1, w_kNil, w_kCons, w_keepV, w_keepO, w_for, w_lc, w_it, w_itK, w_enum, w_zip, w_callS, w_zipX, w_rng1, w_rng2, w_pure, w_cell, w_no, w_part, w_sl, w_slT, w_slL, ok_ok,
    List.map_cons, List.map_nil, List.length_cons, List.length_nil, List.replicate, List.cons_append, List.nil_append, List.getElem?_cons_zero, List.getElem?_cons_succ, List.set_cons_zero, List.set_cons_succ, look_int, look_bl, look_non, look_str, look_tup, look_lst, look_dic, look_scr, look_ty, look_ref,
    w_gtI, w_modI, w_divI, w_addI, w_subI, w_mulI, w_geI, w_ltI, w_leI, w_eqI, w_neI, net_eq h, w_isnN, Bool.false_eq_true, if_false, true_and, Nat.reduceAdd, Nat.reduceSub]
end
end L06

namespace L06
open PySem DL L2
/-! ### lists of numbers -/
def addAt (l : List Int) (i : Nat) (x : Int) : List Int := l.set i (l.getD i 0 + x)
/-- what counter c's q carries add along the wires -/
def spread (c q : Int) : List (Int × Int × Int) → List Int → List Int
  | [], l => l
  | w :: r, l => spread c q r (if w.1 = c then addAt l w.2.1.toNat (w.2.2 * q) else l)
theorem addAt_length {l : List Int} {i : Nat} {x : Int} : (addAt l i x).length = l.length := by unfold addAt; rw [List.length_set]
theorem spread_length {c q : Int} : ∀ {ws : List (Int × Int × Int)} {l : List Int}, (spread c q ws l).length = l.length
  | [], l => rfl
  | w :: r, l => by
    unfold spread
    rw [spread_length]
    split
    · exact addAt_length
    · rfl
def Le (l : List Int) (b : Int) : Prop := ∀ x ∈ l, -b ≤ x ∧ x ≤ b
theorem Le.get {l : List Int} {b : Int} (h : Le l b) (hb : 0 ≤ b) (i : Nat) : -b ≤ l.getD i 0 ∧ l.getD i 0 ≤ b := by
  rw [List.getD_eq_getElem?_getD]
  cases e : l[i]? with
  | none => simp; omega
  | some x => exact h x (List.mem_of_getElem? e)
theorem Le.mono {l : List Int} {b b' : Int} (h : Le l b) (hb : b ≤ b') : Le l b' := fun x hx => by
  have := h x hx
  omega
theorem Le.addAt {l : List Int} {b x d : Int} {i : Nat} (h : Le l b) (hb : 0 ≤ b) (hx : -d ≤ x ∧ x ≤ d) : Le (addAt l i x) (b + d) := by
  intro y hy
  unfold L06.addAt at hy
  rcases List.mem_or_eq_of_mem_set hy with z | z
  · have := h y z
    omega
  · have := h.get hb i
    omega
theorem mul_le {a q b : Int} (h1 : -100 ≤ a) (h2 : a ≤ 100) (h3 : -b ≤ q) (h4 : q ≤ b) : -(100 * b) ≤ a * q ∧ a * q ≤ 100 * b := by
  have hb : 0 ≤ b := by omega
  have k : (a * q).natAbs ≤ 100 * b.toNat := by
    rw [Int.natAbs_mul]
    exact Nat.mul_le_mul (by omega) (by omega)
  omega
section
variable {s : DS} {QR : R → DS → Prop} {n m : Int} {ds : List D} {e : List Slot} {t : List D} {N : Net}
theorem ixT {l : List Int} {k : Int} (h0 : 0 ≤ k) (h1 : k < l.length) : Ok (ixD (.tup (l.map D.int)) (.int k) s) QR = QR (.val (.int (l.getD k.toNat 0))) s := by
  have hk : k.toNat < l.length := by omega
  have e : L2.atI (l.map D.int) k = some (.int (l.getD k.toNat 0)) := by
    unfold L2.atI ixN
    rw [if_pos h0, List.length_map, if_pos h1]
    show (l.map D.int)[k.toNat]? = _
    rw [List.getElem?_map, List.getD_eq_getElem?_getD, List.getElem?_eq_getElem hk]; rfl
  simp only [ixD, e, M.ofOpt, Option.map_some]
  rfl
theorem ixL {l : List Int} {k : Int} (h0 : 0 ≤ k) (h1 : k < l.length) : Ok (ixD (.lst (l.map D.int)) (.int k) s) QR = QR (.val (.int (l.getD k.toNat 0))) s := by
  have hk : k.toNat < l.length := by omega
  have e : L2.atI (l.map D.int) k = some (.int (l.getD k.toNat 0)) := by
    unfold L2.atI ixN
    rw [if_pos h0, List.length_map, if_pos h1]
    show (l.map D.int)[k.toNat]? = _
    rw [List.getElem?_map, List.getD_eq_getElem?_getD, List.getElem?_eq_getElem hk]; rfl
  simp only [ixD, e, M.ofOpt, Option.map_some]
  rfl
theorem getL {l : List Int} {k : Int} (h0 : 0 ≤ k) (h1 : k < l.length) : getD2 (.lst (l.map D.int)) (.int k) = some (.int (l.getD k.toNat 0)) := by
  have hk : k.toNat < l.length := by omega
  show L2.atI (l.map D.int) k = _
  unfold L2.atI ixN
  rw [if_pos h0, List.length_map, if_pos h1]
  show (l.map D.int)[k.toNat]? = _
  rw [List.getElem?_map, List.getD_eq_getElem?_getD, List.getElem?_eq_getElem hk]; rfl
theorem setL {l : List Int} {k v : Int} (h0 : 0 ≤ k) (h1 : k < l.length) : setU (.int k) (.int v) (.lst (l.map D.int)) = some (.lst ((l.set k.toNat v).map D.int), ()) := by
  have e : ixN (l.map D.int).length k = some k.toNat := by
    unfold ixN
    rw [if_pos h0, List.length_map, if_pos h1]
  simp only [setU, setD, e, Option.map_some, List.map_set]
theorem appL {l : List Int} {v : Int} (h : l.length < lim) : appU (.int v) (.lst (l.map D.int)) = some (.lst ((l ++ [v]).map D.int), .non) := by
  simp only [appU, List.length_map, if_pos h, List.map_append, List.map_cons, List.map_nil]
/-- what is added in place -/
theorem w_iadd : Ok (intD addG (.int n) (.int m) s) QR = QR (.val (.int (n + m))) s := rfl
theorem d0 : Ok (ixD N.d (.int 0) s) QR = QR (.val (tupI N.mo)) s := rfl
theorem d1 : Ok (ixD N.d (.int 1) s) QR = QR (.val (.tup (N.wi.map wireD))) s := rfl
theorem d2 : Ok (ixD N.d (.int 2) s) QR = QR (.val (tupI N.inp)) s := rfl
theorem look_net : lookAt t N.d = some N.d := rfl
theorem isiN : Ok (isiM N.d (.ty "tuple") s) QR = QR (.val (.bl true)) s := isi_tt
end
/-- a state: phases below their moduli -/
def StateOk (N : Net) (ps : List Int) : Prop := ps.length = N.mo.length ∧ ∀ (i : Nat) (m : Int), N.mo[i]? = some m → 0 ≤ ps.getD i 0 ∧ ps.getD i 0 < m
end L06

namespace L06
open PySem DL L2
/-! ### bounds -/
def bb : Nat → Int
  | 0 => 1000
  | k + 1 => bb k + 9900 * (bb k + 2001)
theorem bb_pos : ∀ k, 1000 ≤ bb k
  | 0 => by decide
  | k + 1 => by have := bb_pos k; unfold bb; omega
theorem bb_le : ∀ {i j : Nat}, i ≤ j → bb i ≤ bb j := by
  intro i j h
  induction h with
  | refl => exact Int.le_refl _
  | step h ih =>
    rename_i j
    have q := bb_pos j
    have e : bb (j + 1) = bb j + 9900 * (bb j + 2001) := rfl
    show bb i ≤ bb (j + 1)
    rw [e]
    omega
theorem bb10 : bb 10 < 2 ^ 200 := by decide +kernel
theorem lgB {n b : Int} (h1 : -b ≤ n) (h2 : n ≤ b) (hb : b < 2 ^ 200) : n.natAbs.log2 < 200 := by
  by_cases c : n.natAbs = 0
  · rw [c]; decide
  · rw [Nat.log2_lt c]
    have e : ((2 : Nat) ^ 200 : Nat) = 1606938044258990275541962092341162602522202993782792835301376 := by decide +kernel
    have e2 : ((2 : Int) ^ 200) = 1606938044258990275541962092341162602522202993782792835301376 := by decide +kernel
    rw [e]; rw [e2] at hb
    omega
theorem wi_len : ∀ {ws : List (Int × Int × Int)} {b : Int × Int}, sortedW b ws → 0 ≤ b.1 → 0 ≤ b.2 → b.2 < 10 → (∀ w ∈ ws, 0 ≤ w.1 ∧ 0 ≤ w.2.1 ∧ w.1 < 10 ∧ w.2.1 < 10) → (ws.length : Int) ≤ 99 - (10 * b.1 + b.2) ∨ ws = []
  | [], b, _, _, _, _, _ => .inr rfl
  | w :: r, b, h, h1, h2, h3, hw => by
    obtain ⟨h4, h5⟩ := h
    obtain ⟨a1, a2, a3, a4⟩ := hw w (List.mem_cons_self ..)
    left
    rw [List.length_cons]
    rcases wi_len h5 a1 a2 a4 (fun x hx => hw x (List.mem_cons_of_mem _ hx)) with q | q
    · simp only at q
      omega
    · subst q
      simp only [List.length_nil]
      omega
section
variable {N : Net} {st go ps : List Int}
theorem Net.Ok.wlen (h : N.Ok) : (N.wi.length : Int) ≤ 99 := by
  have h10 : (N.mo.length : Int) ≤ 10 := by have := h.mo2; omega
  rcases wi_len h.wi2 (by decide) (by decide) (by decide) (fun w hw => by have := h.wi1 w hw; omega) with q | q
  · simp only at q; omega
  · rw [q]; decide
theorem StateOk.le (h : N.Ok) (hp : StateOk N ps) (i : Nat) (hi : i < N.mo.length) : 0 ≤ ps.getD i 0 ∧ ps.getD i 0 < 1000 := by
  have e := List.getElem?_eq_getElem hi
  obtain ⟨a, b⟩ := hp.2 i _ e
  have := h.mo3 _ (List.mem_of_getElem? e)
  omega
end
theorem div_le {x m b : Int} (hm : 2 ≤ m) (h1 : -b ≤ x) (h2 : x ≤ b) (hb : 0 ≤ b) : -(b + 1) ≤ x / m ∧ x / m ≤ b + 1 := by
  have e := Int.emod_add_mul_ediv x m
  have r1 := Int.emod_nonneg x (show m ≠ 0 by omega)
  have r2 := Int.emod_lt_of_pos x (show 0 < m by omega)
  constructor
  · by_cases c : 0 ≤ x / m
    · omega
    · have q : m * (x / m) ≤ 2 * (x / m) := Int.mul_le_mul_of_nonpos_right hm (by omega)
      have q2 : m * (x / m) = x - x % m := by omega
      by_cases c2 : x / m < -(b + 1)
      · have q3 : m * (x / m) ≤ m * (-(b + 1) - 1) := Int.mul_le_mul_of_nonneg_left (by omega) (by omega)
        have q4 : m * (-(b + 1) - 1) = -(m * b) - 2 * m := by rw [Int.mul_sub, Int.mul_neg, Int.mul_add]; omega
        have q5 : b ≤ m * b := by
          have := Int.mul_le_mul_of_nonneg_right (show (1 : Int) ≤ m by omega) hb
          omega
        omega
      · omega
  · by_cases c : x / m ≤ 0
    · omega
    · have q : 2 * (x / m) ≤ m * (x / m) := Int.mul_le_mul_of_nonneg_right hm (by omega)
      omega
theorem mulB {n m b : Int} (h1 : -100 ≤ n) (h2 : n ≤ 100) (h3 : -b ≤ m) (h4 : m ≤ b) (hb : b < 2 ^ 200) : n.natAbs.log2 + m.natAbs.log2 < 1000000 := by
  have := lgS (n := n) (by omega) (by omega)
  have := lgB h3 h4 hb
  omega
/-- what is walked, at a place -/
theorem wire_at {ws : List (Int × Int × Int)} {i : Nat} {x : D} (h : (ws.map wireD)[i]? = some x) : ∃ w, ws[i]? = some w ∧ x = .tup [.int w.1, .int w.2.1, .int w.2.2] := by
  rw [List.getElem?_map] at h
  cases e : ws[i]? with
  | none => rw [e] at h; cases h
  | some w => rw [e] at h; cases h; exact ⟨w, rfl, rfl⟩
theorem int_at {l : List Int} {i : Nat} {d : D} (h : (l.map D.int)[i]? = some d) : ∃ m, l[i]? = some m ∧ d = .int m := by
  rw [List.getElem?_map] at h
  cases e : l[i]? with
  | none => rw [e] at h; cases h
  | some w => rw [e] at h; cases h; exact ⟨w, rfl, rfl⟩
theorem drop_at {α : Type} {l : List α} {i : Nat} {w : α} (h : l[i]? = some w) : l.drop i = w :: l.drop (i + 1) := by
  obtain ⟨hl, e⟩ := List.getElem?_eq_some_iff.mp h
  rw [List.drop_eq_getElem_cons hl, e]
section
variable {s : DS} {QR : R → DS → Prop} {QC : Ctl → DS → Prop} {n m : Int} {ds : List D} {e : List Slot} {t : List D} {N : Net} {st go ps : List Int}
theorem rep0 {k : Nat} : (List.replicate ((k : Nat) : Int).toNat [D.int 0]).flatten = (List.replicate k (0 : Int)).map D.int := by
  rw [Int.toNat_natCast]
  induction k with
  | zero => rfl
  | succ k ih => rw [List.replicate_succ, List.replicate_succ, List.flatten_cons, ih]; rfl
theorem mul_l0 {k : Nat} (h : k ≤ 1000) : Ok (mulM (.lst [.int 0]) (.int (k : Int)) s) QR = QR (.own (.lst ((List.replicate k (0 : Int)).map D.int))) s := by
  have c : -(lim : Int) ≤ (k : Int) ∧ (k : Int) ≤ (lim : Int) ∧ ([D.int 0] : List D).length * ((k : Nat) : Int).toNat ≤ lim := by
    have e : (lim : Int) = 1000000 := rfl
    have e2 : lim = 1000000 := rfl
    refine ⟨by omega, by omega, ?_⟩
    rw [Int.toNat_natCast, e2]; simp; omega
  unfold mulM
  simp only [if_pos c]
  rw [rep0]; rfl
end
end L06

namespace L06
open PySem DL L2
/-! ### what can be shown and compared -/
structure Pl (d : PyData) (k b : Nat) : Prop where
  c : d.canLay0 = true
  s : d.showable = true
  l : d.leavesShort 8 = true
  dp : d.depth ≤ k
  bk : d.bulk ≤ b
structure PlAll (ds : List PyData) (k b : Nat) : Prop where
  c : PyData.canLayAll0 ds = true
  s : PyData.showableAll ds = true
  l : PyData.leavesShortAll 8 ds = true
  dp : PyData.depthAll ds ≤ k
  bk : PyData.bulkAll ds ≤ b
theorem short_pos {i : Int} (h0 : 0 ≤ i) (h1 : i ≤ 1000) : (PyData.shown (.int i)).length ≤ 8 := by
  refine Nat.le_trans (PyProof.Rows.toString_length_le (k := 4) h0 (by decide) (by omega)) (by decide)
theorem short_all : ∀ n : Fin 1001, (PyData.shown (.int (-(n.val : Int)))).length ≤ 8 := by decide +kernel
theorem short_int {i : Int} (h0 : -1000 ≤ i) (h1 : i ≤ 1000) : (PyData.shown (.int i)).length ≤ 8 := by
  by_cases c : 0 ≤ i
  · exact short_pos c h1
  · have := short_all ⟨(-i).toNat, by omega⟩
    rwa [show (-(((-i).toNat : Nat) : Int)) = i by omega] at this
theorem Pl.int {i : Int} (h0 : -1000 ≤ i) (h1 : i ≤ 1000) : Pl (.int i) 0 0 where
  c := rfl
  s := decide_eq_true (by have := lgS (n := i) (by omega) (by omega); omega)
  l := decide_eq_true (short_int h0 h1)
  dp := Nat.le_refl _
  bk := Nat.le_refl _
theorem PlAll.nil {k : Nat} : PlAll [] k 0 := ⟨rfl, rfl, rfl, Nat.zero_le _, Nat.le_refl _⟩
theorem PlAll.cons {d : PyData} {ds : List PyData} {k b b' : Nat} (h : Pl d k b) (g : PlAll ds k b') : PlAll (d :: ds) k (b + 1 + b') where
  c := by rw [PyData.canLayAll0, h.c, g.c]; rfl
  s := by rw [PyData.showableAll, h.s, g.s]; rfl
  l := by rw [PyData.leavesShortAll, h.l, g.l]; rfl
  dp := by rw [PyData.depthAll]; exact Nat.max_le.mpr ⟨h.dp, g.dp⟩
  bk := by
    rw [PyData.bulkAll]
    have := h.bk
    have := g.bk
    omega
theorem Pl.tuple {ds : List PyData} {k b : Nat} (h : PlAll ds k b) : Pl (.tuple ds) (k + 1) b where
  c := by rw [PyData.canLay0]; exact h.c
  s := by rw [PyData.showable]; exact h.s
  l := by rw [PyData.leavesShort]; exact h.l
  dp := by rw [PyData.depth]; exact Nat.succ_le_succ h.dp
  bk := by rw [PyData.bulk]; exact h.bk
theorem Pl.list {ds : List PyData} {k b : Nat} (h : PlAll ds k b) : Pl (.list ds) (k + 1) b where
  c := by rw [PyData.canLay0]; exact h.c
  s := by rw [PyData.showable]; exact h.s
  l := by rw [PyData.leavesShort]; exact h.l
  dp := by rw [PyData.depth]; exact Nat.succ_le_succ h.dp
  bk := by rw [PyData.bulk]; exact h.bk
theorem Pl.mono {d : PyData} {k b k' b' : Nat} (h : Pl d k b) (hk : k ≤ k') (hb : b ≤ b') : Pl d k' b' := ⟨h.c, h.s, h.l, Nat.le_trans h.dp hk, Nat.le_trans h.bk hb⟩
theorem PlAll.map {α : Type} {f : α → PyData} {k b : Nat} : ∀ {l : List α}, (∀ x ∈ l, Pl (f x) k b) → PlAll (l.map f) k ((b + 1) * l.length)
  | [], _ => .nil
  | x :: l, h => by
    rw [List.map_cons, List.length_cons, show (b + 1) * (l.length + 1) = b + 1 + (b + 1) * l.length by rw [Nat.mul_succ]; omega]
    exact .cons (h x (List.mem_cons_self ..)) (PlAll.map fun y hy => h y (List.mem_cons_of_mem _ hy))
theorem toPs_map {α : Type} {f : α → D} : ∀ {l : List α}, toPs (l.map f) = l.map fun x => toP (f x)
  | [] => rfl
  | x :: l => by rw [List.map_cons, toPs, toPs_map, List.map_cons]
theorem toP_tupI {l : List Int} : toP (tupI l) = .tuple (l.map PyData.int) := by
  unfold tupI
  rw [toP, toPs_map]
  rfl
theorem Pl.tupI {l : List Int} (h : ∀ x ∈ l, -1000 ≤ x ∧ x ≤ 1000) : Pl (toP (tupI l)) 1 l.length := by
  rw [toP_tupI]
  refine (Pl.tuple (PlAll.map (k := 0) (b := 0) fun x hx => Pl.int (h x hx).1 (h x hx).2)).mono (Nat.le_refl _) (by omega)
theorem Pl.wire {w : Int × Int × Int} (h0 : 0 ≤ w.1 ∧ w.1 ≤ 1000) (h1 : 0 ≤ w.2.1 ∧ w.2.1 ≤ 1000) (h2 : -100 ≤ w.2.2 ∧ w.2.2 ≤ 100) : Pl (toP (wireD w)) 1 3 :=
  Pl.tuple (.cons (.int (by omega) (by omega)) (.cons (.int (by omega) (by omega)) (.cons (.int (by omega) (by omega)) .nil)))
theorem Pl.shaped {d : PyData} {k b : Nat} (h : Pl d k b) (hk : k ≤ 64) : SeqAt.shaped d = true := by
  unfold SeqAt.shaped
  rw [h.c, decide_eq_true (Nat.le_trans h.dp hk)]; rfl
theorem inp_len : ∀ {l : List Int} {b : Int}, sortedI b l → (∀ i ∈ l, i < 10) → b ≤ 10 → (l.length : Int) ≤ 10 - b
  | [], b, _, _, hb => by simp; omega
  | x :: l, b, h, hl, hb => by
    obtain ⟨h1, h2⟩ := h
    have := hl x (List.mem_cons_self ..)
    have := inp_len h2 (fun i hi => hl i (List.mem_cons_of_mem _ hi)) (by omega)
    rw [List.length_cons]
    omega
section
variable {s : DS} {QR : R → DS → Prop} {QC : Ctl → DS → Prop} {n m : Int} {d : D} {ds : List D} {e : List Slot} {t : List D} {N : Net} {st go ps v : List Int}
theorem StateOk.all (h : N.Ok) (hp : StateOk N ps) : ∀ x ∈ ps, -1000 ≤ x ∧ x ≤ 1000 := by
  intro x hx
  obtain ⟨i, hi, e⟩ := List.mem_iff_getElem.mp hx
  have := hp.le h i (by rw [← hp.1]; exact hi)
  rw [List.getD_eq_getElem?_getD, List.getElem?_eq_getElem hi] at this
  simp only [Option.getD_some, e] at this
  omega
theorem Net.Ok.pl (h : N.Ok) : Pl (toP N.d) 3 600 := by
  have hm2 := h.mo2
  have hwl := h.wlen
  have hil := inp_len h.in1 (fun i hi => by have := h.in2 i hi; omega) (by decide)
  have p1 : Pl (toP (L06.tupI N.mo)) 2 10 := (Pl.tupI fun x hx => by have := h.mo3 x hx; omega).mono (by decide) hm2
  have p3 : Pl (toP (L06.tupI N.inp)) 2 10 := (Pl.tupI fun x hx => by have := h.in2 x hx; omega).mono (by decide) (by omega)
  have p2 : Pl (toP (.tup (N.wi.map wireD))) 2 400 := by
    rw [toP, toPs_map]
    refine (Pl.tuple (PlAll.map (k := 1) (b := 3) fun w hw => Pl.wire ?_ ?_ ?_)).mono (Nat.le_refl _) (by omega)
    all_goals have := h.wi1 w hw; omega
  exact (Pl.tuple (.cons p1 (.cons p2 (.cons p3 .nil)))).mono (by decide) (by decide)
theorem repr_pl {k b : Nat} (h : Pl (toP d) k b) (hk : k ≤ 64) (hb : 10 * b + 8 ≤ 1000000) : Ok (reprM d s) QR = QR (.val (.str (toP d).shown)) s := by
  have q := PyData.shown_le_bulk 8 (by decide) (toP d) h.l
  have z : (toP d).shown.length ≤ lim := by
    have := h.bk
    show _ ≤ 1000000
    omega
  unfold reprM
  rw [h.shaped hk, h.s, decide_eq_true z]
  rfl
theorem eqv_ints : ∀ {l r : List Int}, PyData.eqvAll (l.map PyData.int) (r.map PyData.int) = decide (l = r)
  | [], [] => rfl
  | [], _ :: _ => rfl
  | _ :: _, [] => rfl
  | x :: l, y :: r => by
    show (PyData.eqv (.int x) (.int y) && PyData.eqvAll (l.map PyData.int) (r.map PyData.int)) = _
    rw [eqv_ints]
    show ((x == y) && decide (l = r)) = _
    by_cases c : x = y
    · subst c; simp
    · simp [c]
theorem eq_tupI {l r : List Int} (hl : ∀ x ∈ l, -1000 ≤ x ∧ x ≤ 1000) (hr : ∀ x ∈ r, -1000 ≤ x ∧ x ≤ 1000) : Ok (eqM (tupI l) (tupI r) s) QR = QR (.val (.bl (decide (l = r)))) s := by
  have e1 := (Pl.tupI hl).shaped (by decide)
  have e2 := (Pl.tupI hr).shaped (by decide)
  show Ok ((if SeqAt.shaped (toP (tupI l)) && SeqAt.shaped (toP (tupI r)) then M.pure (.val (.bl (PyData.eqv (toP (tupI l)) (toP (tupI r))))) else M.bad : M R) s) QR = _
  rw [e1, e2, toP_tupI, toP_tupI, PyData.eqv, eqv_ints]
  rfl
theorem ne_tupI {l r : List Int} (hl : ∀ x ∈ l, -1000 ≤ x ∧ x ≤ 1000) (hr : ∀ x ∈ r, -1000 ≤ x ∧ x ≤ 1000) : Ok (neM (tupI l) (tupI r) s) QR = QR (.val (.bl (!decide (l = r)))) s := by
  have e1 := (Pl.tupI hl).shaped (by decide)
  have e2 := (Pl.tupI hr).shaped (by decide)
  show Ok ((if SeqAt.shaped (toP (tupI l)) && SeqAt.shaped (toP (tupI r)) then M.pure (.val (.bl (!PyData.eqv (toP (tupI l)) (toP (tupI r))))) else M.bad : M R) s) QR = _
  rw [e1, e2, toP_tupI, toP_tupI, PyData.eqv, eqv_ints]
  rfl
theorem ne_str {x y : Str} : Ok (neM (.str x) (.str y) s) QR = QR (.val (.bl (!decide (x = y)))) s := rfl
theorem ne_nil : Ok (neM (.lst []) (.lst []) s) QR = QR (.val (.bl false)) s := rfl
theorem w_callK0 {a b : Nat} {g : List D → List D} {φ : List D → M R} {ks : M (List D)} : Ok (sCallK0 a b g φ ks s) QR = Ok (ks s) fun es s1 => es.length = b ∧ (g es).length = a ∧ Ok (φ (g es) s1) QR := by
  unfold sCallK0
  rw [w_bind]
  congr 1
  funext es s1
  by_cases c : es.length = b
  · rw [if_pos c]
    by_cases c2 : (g es).length = a
    · rw [if_pos c2]; exact propext ⟨fun h => ⟨c, c2, h⟩, fun h => h.2.2⟩
    · rw [if_neg c2]; exact propext ⟨fun h => h.elim, fun h => (c2 h.2.1).elim⟩
  · rw [if_neg c]; exact propext ⟨fun h => h.elim, fun h => (c h.1).elim⟩
theorem mul_t0 {k : Nat} (h0 : 1 ≤ k) (h : k ≤ 1000) : Ok (mulM (.tup [.int 0]) (.int (k : Int)) s) QR = QR (.val (tupI (List.replicate k 0))) s := by
  have c : ([D.int 0] : List D) ≠ [] ∧ 1 ≤ (k : Int) ∧ (k : Int) ≤ 1000 ∧ ([D.int 0] : List D).length ≤ 1000 := ⟨List.cons_ne_nil _ _, by omega, by omega, by decide⟩
  unfold mulM
  simp only [if_pos c]
  rw [rep0]; rfl
end
end L06

namespace L06
open PySem DL L2
/-- small enough for all that is done here -/
def SmI (n : Int) (b : Nat) : Prop := n.natAbs < 2 ^ b
theorem SmI.lg {n : Int} {b : Nat} (h : SmI n b) (hb : 0 < b) : n.natAbs.log2 < b := by
  by_cases c : n.natAbs = 0
  · rw [c]; exact hb
  · exact (Nat.log2_lt c).mpr h
theorem SmI.mul {n m : Int} {a b : Nat} (h : SmI n a) (g : SmI m b) : SmI (n * m) (a + b) := by
  unfold SmI at *
  rw [Int.natAbs_mul, Nat.pow_add]
  exact Nat.mul_lt_mul'' h g
theorem SmI.add {n m : Int} {a b : Nat} (h : SmI n a) (g : SmI m b) : SmI (n + m) (a + b + 1) := by
  unfold SmI at *
  have p1 : 0 < 2 ^ a := Nat.two_pow_pos a
  have p2 : 0 < 2 ^ b := Nat.two_pow_pos b
  have e : 2 ^ (a + b + 1) = 2 * (2 ^ a * 2 ^ b) := by rw [Nat.pow_succ, Nat.pow_add, Nat.mul_comm]
  have k1 : 2 ^ a ≤ 2 ^ a * 2 ^ b := Nat.le_mul_of_pos_right _ p2
  have k2 : 2 ^ b ≤ 2 ^ a * 2 ^ b := Nat.le_mul_of_pos_left _ p1
  have := Int.natAbs_add_le n m
  omega
theorem SmI.mono {n : Int} {a b : Nat} (h : SmI n a) (hb : a ≤ b) : SmI n b := Nat.lt_of_lt_of_le h (Nat.pow_le_pow_right (by decide) hb)
theorem SmI.le {n m : Int} {a : Nat} (h : SmI m a) (hb : n.natAbs ≤ m.natAbs) : SmI n a := Nat.lt_of_le_of_lt hb h
theorem SmI.of {n : Int} (h1 : -1000000 ≤ n) (h2 : n ≤ 1000000) : SmI n 100 := by
  have : (2:Nat)^100 = 1267650600228229401496703205376 := by decide
  unfold SmI; omega
/-! ### what can be shown: with great numbers -/
structure PG (d : PyData) (k b : Nat) : Prop where
  c : d.canLay0 = true
  s : d.showable = true
  l : d.leavesShort 700 = true
  dp : d.depth ≤ k
  bk : d.bulk ≤ b
structure PGAll (ds : List PyData) (k b : Nat) : Prop where
  c : PyData.canLayAll0 ds = true
  s : PyData.showableAll ds = true
  l : PyData.leavesShortAll 700 ds = true
  dp : PyData.depthAll ds ≤ k
  bk : PyData.bulkAll ds ≤ b
theorem shown_nat {n : Nat} {k : Nat} (hk : 0 < k) (h : n < 10 ^ k) : (Str.ofString (toString ((n : Nat) : Int))).length ≤ k :=
  PyProof.Rows.toString_length_le (by omega) hk (by
    have : ((10 ^ k : Nat) : Int) = (10 : Int) ^ k := by simp
    rw [← this]; omega)
theorem shown_big {i : Int} (h : SmI i 1500) : (PyData.shown (.int i)).length ≤ 700 := by
  have h10 : (2 : Nat) ^ 1500 ≤ 10 ^ 600 := by decide +kernel
  have hn : i.natAbs < 10 ^ 600 := Nat.lt_of_lt_of_le h h10
  cases i with
  | ofNat n => exact Nat.le_trans (shown_nat (n := n) (k := 600) (by decide) hn) (by decide)
  | negSucc n =>
    have e : (PyData.shown (.int (Int.negSucc n))) = Str.ofString ("-" ++ toString (n + 1)) := rfl
    rw [e, PyProof.Rows.ofString_length, String.toList_append, List.length_append, ← PyProof.Rows.ofString_length (toString (n + 1))]
    have := shown_nat (n := n + 1) (k := 600) (by decide) hn
    have e2 : Str.ofString (toString (((n + 1 : Nat) : Nat) : Int)) = Str.ofString (toString (n + 1)) := rfl
    rw [e2] at this
    have e3 : ("-" : String).toList.length = 1 := rfl
    omega
theorem PG.int {i : Int} (h : SmI i 1500) : PG (.int i) 0 0 where
  c := rfl
  s := decide_eq_true (by have := h.lg (by decide); omega)
  l := decide_eq_true (shown_big h)
  dp := Nat.le_refl _
  bk := Nat.le_refl _
theorem PGAll.nil {k : Nat} : PGAll [] k 0 := ⟨rfl, rfl, rfl, Nat.zero_le _, Nat.le_refl _⟩
theorem PGAll.cons {d : PyData} {ds : List PyData} {k b b' : Nat} (h : PG d k b) (g : PGAll ds k b') : PGAll (d :: ds) k (b + 1 + b') where
  c := by rw [PyData.canLayAll0, h.c, g.c]; rfl
  s := by rw [PyData.showableAll, h.s, g.s]; rfl
  l := by rw [PyData.leavesShortAll, h.l, g.l]; rfl
  dp := by rw [PyData.depthAll]; exact Nat.max_le.mpr ⟨h.dp, g.dp⟩
  bk := by
    rw [PyData.bulkAll]
    have := h.bk
    have := g.bk
    omega
theorem PG.tuple {ds : List PyData} {k b : Nat} (h : PGAll ds k b) : PG (.tuple ds) (k + 1) b where
  c := by rw [PyData.canLay0]; exact h.c
  s := by rw [PyData.showable]; exact h.s
  l := by rw [PyData.leavesShort]; exact h.l
  dp := by rw [PyData.depth]; exact Nat.succ_le_succ h.dp
  bk := by rw [PyData.bulk]; exact h.bk
theorem PG.list {ds : List PyData} {k b : Nat} (h : PGAll ds k b) : PG (.list ds) (k + 1) b where
  c := by rw [PyData.canLay0]; exact h.c
  s := by rw [PyData.showable]; exact h.s
  l := by rw [PyData.leavesShort]; exact h.l
  dp := by rw [PyData.depth]; exact Nat.succ_le_succ h.dp
  bk := by rw [PyData.bulk]; exact h.bk
theorem PG.mono {d : PyData} {k b k' b' : Nat} (h : PG d k b) (hk : k ≤ k') (hb : b ≤ b') : PG d k' b' := ⟨h.c, h.s, h.l, Nat.le_trans h.dp hk, Nat.le_trans h.bk hb⟩
theorem PGAll.map {α : Type} {f : α → PyData} {k b : Nat} : ∀ {l : List α}, (∀ x ∈ l, PG (f x) k b) → PGAll (l.map f) k ((b + 1) * l.length)
  | [], _ => .nil
  | x :: l, h => by
    rw [List.map_cons, List.length_cons, show (b + 1) * (l.length + 1) = b + 1 + (b + 1) * l.length by rw [Nat.mul_succ]; omega]
    exact .cons (h x (List.mem_cons_self ..)) (PGAll.map fun y hy => h y (List.mem_cons_of_mem _ hy))
theorem can_tints : ∀ ns : List Int, PyData.canLay0 (.tuple (ns.map PyData.int)) = true := fun ns => by rw [PyData.canLay0]; exact can_ints ns
theorem shaped_tints (ns : List Int) : SeqAt.shaped (.tuple (ns.map PyData.int)) = true := by
  simp [SeqAt.shaped, PyData.canLay0, can_ints, PyData.depth, depth_ints]
section
variable {s : DS} {QR : R → DS → Prop} {QL : List D → DS → Prop} {QU : Unit → DS → Prop} {QC : Ctl → DS → Prop} {n m b : Int} {d : D} {ds : List D} {e : List Slot} {tt : List D} {N : Net} {ns st go ps v mo il : List Int} {i j k : Nat} {t : Int}
theorem repr_pg {k b : Nat} (h : PG (toP d) k b) (hk : k ≤ 64) (hb : 702 * b + 700 ≤ 1000000) : Ok (reprM d s) QR = QR (.val (.str (toP d).shown)) s := by
  have q := PyData.shown_le_bulk 700 (by decide) (toP d) h.l
  have z : (toP d).shown.length ≤ lim := by
    have := h.bk
    show _ ≤ 1000000
    omega
  have sh : SeqAt.shaped (toP d) = true := by
    unfold SeqAt.shaped
    rw [h.c, decide_eq_true (Nat.le_trans h.dp hk)]; rfl
  unfold reprM
  rw [sh, h.s, decide_eq_true z]
  rfl
theorem neTI {l r : List Int} : Ok (neM (tupI l) (tupI r) s) QR = QR (.val (.bl (!decide (l = r)))) s := by
  have e1 := shaped_tints l
  have e2 := shaped_tints r
  show Ok ((if SeqAt.shaped (toP (tupI l)) && SeqAt.shaped (toP (tupI r)) then M.pure (.val (.bl (!PyData.eqv (toP (tupI l)) (toP (tupI r))))) else M.bad : M R) s) QR = _
  rw [toP_tupI, toP_tupI, e1, e2, PyData.eqv, eqv_ints]
  rfl
theorem eqTI {l r : List Int} : Ok (eqM (tupI l) (tupI r) s) QR = QR (.val (.bl (decide (l = r)))) s := by
  have e1 := shaped_tints l
  have e2 := shaped_tints r
  show Ok ((if SeqAt.shaped (toP (tupI l)) && SeqAt.shaped (toP (tupI r)) then M.pure (.val (.bl (PyData.eqv (toP (tupI l)) (toP (tupI r))))) else M.bad : M R) s) QR = _
  rw [toP_tupI, toP_tupI, e1, e2, PyData.eqv, eqv_ints]
  rfl
theorem eq_str {x y : Str} : Ok (eqM (.str x) (.str y) s) QR = QR (.val (.bl (decide (x = y)))) s := rfl
theorem in_intsT {neg : Bool} {x : Int} {js : List Int} : Ok (inM neg (.int x) (.tup (js.map D.int)) s) QR = QR (.val (.bl (if neg then !decide (x ∈ js) else decide (x ∈ js)))) s := by
  have h1 : (js.map D.int).all flatD = true := by
    rw [List.all_eq_true]
    intro y hy
    obtain ⟨z, _, rfl⟩ := List.mem_map.mp hy
    rfl
  have h2 : inF (.int x) (js.map D.int) = decide (x ∈ js) := by
    unfold inF
    induction js with
    | nil => rfl
    | cons y js ih =>
      have ih := ih (by rw [List.map_cons, List.all_cons, Bool.and_eq_true] at h1; exact h1.2)
      rw [List.map_cons, List.any_cons, ih]
      show (decide (y = x) || decide (x ∈ js)) = _
      by_cases c : y = x
      · subst c; simp
      · rw [decide_eq_false c, Bool.false_or]
        congr 1
        rw [List.mem_cons]
        exact propext ⟨.inr, fun h => h.resolve_left fun z => c z.symm⟩
  unfold inM
  simp only [h1, h2, flatD, Bool.and_self, if_true]
  cases neg <;> rfl
theorem w_addL {x y : List D} : Ok (addD (.lst x) (.lst y) s) QR = (x.length + y.length ≤ lim ∧ QR (.own (.lst (x ++ y))) s) := by
  unfold addD
  by_cases c : x.length + y.length ≤ lim
  · simp only [if_pos c]; exact propext ⟨fun h => ⟨c, h⟩, fun h => h.2⟩
  · simp only [if_neg c]; exact propext ⟨fun h => h.elim, fun h => (c h.1).elim⟩
theorem look_tupI {l : List Int} : lookAt tt (tupI l) = some (tupI l) := rfl
theorem PG.tupI {l : List Int} (h : ∀ x ∈ l, SmI x 1500) : PG (toP (tupI l)) 1 l.length := by
  rw [toP_tupI]
  refine (PG.tuple (PGAll.map (k := 0) (b := 0) fun x hx => PG.int (h x hx))).mono (Nat.le_refl _) (by omega)
theorem PG.wire {w : Int × Int × Int} (h0 : 0 ≤ w.1 ∧ w.1 ≤ 1000) (h1 : 0 ≤ w.2.1 ∧ w.2.1 ≤ 1000) (h2 : -100 ≤ w.2.2 ∧ w.2.2 ≤ 100) : PG (toP (wireD w)) 1 3 :=
  have f : ∀ {x : Int}, -1000 ≤ x → x ≤ 1000 → SmI x 1500 := fun a b => SmI.mono (SmI.of (by omega) (by omega)) (by decide : 100 ≤ 1500)
  PG.tuple (.cons (.int (f (by omega) (by omega))) (.cons (.int (f (by omega) (by omega))) (.cons (.int (f (by omega) (by omega))) .nil)))
theorem Net.Ok.pg (h : N.Ok) : PG (toP N.d) 3 600 := by
  have hm2 := h.mo2
  have hwl := h.wlen
  have hil := inp_len h.in1 (fun i hi => by have := h.in2 i hi; omega) (by decide)
  have f : ∀ {x : Int}, -1000 ≤ x → x ≤ 1000 → SmI x 1500 := fun a b => SmI.mono (SmI.of (by omega) (by omega)) (by decide : 100 ≤ 1500)
  have p1 : PG (toP (L06.tupI N.mo)) 2 10 := (PG.tupI fun x hx => by have := h.mo3 x hx; exact f (by omega) (by omega)).mono (by decide) hm2
  have p3 : PG (toP (L06.tupI N.inp)) 2 10 := (PG.tupI fun x hx => by have := h.in2 x hx; exact f (by omega) (by omega)).mono (by decide) (by omega)
  have p2 : PG (toP (.tup (N.wi.map wireD))) 2 400 := by
    rw [toP, toPs_map]
    refine (PG.tuple (PGAll.map (k := 1) (b := 3) fun w hw => PG.wire ?_ ?_ ?_)).mono (Nat.le_refl _) (by omega)
    all_goals have := h.wi1 w hw; omega
  exact (PG.tuple (.cons p1 (.cons p2 (.cons p3 .nil)))).mono (by decide) (by decide)
end
end L06

namespace L06
open PySem DL L2
/-! ### states and tick vectors -/
structure TicksOk (N : Net) (v : List Int) : Prop where
  len : v.length = N.mo.length
  lo : ∀ (i : Nat) (x : Int), v[i]? = some x → -10000000000000000000000000000000000000000 ≤ x ∧ x ≤ 10000000000000000000000000000000000000000
  at_ : ∀ (i : Nat) (x : Int), v[i]? = some x → x ≠ 0 → (i : Int) ∈ N.inp
section
variable {s : DS} {QR : R → DS → Prop} {QL : List D → DS → Prop} {QU : Unit → DS → Prop} {QC : Ctl → DS → Prop} {n m b : Int} {d : D} {ds : List D} {e : List Slot} {tt : List D} {N : Net} {ns st go ps v mo il : List Int} {i j k : Nat} {t : Int}
theorem ne_lenT {l : List Int} (h : l.length = N.mo.length) : (!decide (((l.map D.int).length : Int) = ((N.mo.map D.int).length : Int))) = false := by
  rw [List.length_map, List.length_map, h, decide_eq_true rfl]; rfl
theorem phases_eq (h : N.Ok) (hp : StateOk N ps) : r_validate_phases [N.d, tupI ps] ⟨e, tt⟩ = .ok (.val .non) ⟨e, tt⟩ := by
  apply Ok.eq
  unfold r_validate_phases m_validate_phases
  simp -implicitDefEqProofs only [w_fn, w_seq, w_if, w_sB, w_tru, w_s2, w_s1, w_rd1, w_rd2, w_var, w_C, w_lookV, w_lookO, w_lookS, w_set, w_putV, w_putO, w_asg, w_gSub, w_gN, w_gT, w_gsN, w_gsC, w_toDV, w_toDO, w_toDS, w_updR, w_updS, w_ret, w_moveV, w_moveO, w_moveS, w_skip, w_and, w_or, w_not, w_andV, w_orV, w_notV, w_chain, w_lst, w_tup, w_nil, w_cons, w_call, w_drop, w_augS, w_M, w_app, w_par, w_putAll0, w_putAll1, w_kNil, w_kCons, w_keepV, w_keepO, w_for, w_lc, w_it, w_itK, w_enum, w_zip, w_callS, w_zipX, w_rng1, w_rng2, w_pure, w_cell, w_no, w_part, w_sl, w_slT, w_slL, ok_ok,
    List.map_cons, List.map_nil, List.length_cons, List.length_nil, List.replicate, List.cons_append, List.nil_append, List.getElem?_cons_zero, List.getElem?_cons_succ, List.set_cons_zero, List.set_cons_succ, look_int, look_bl, look_non, look_str, look_tup, look_lst, look_dic, look_scr, look_ty, look_ref,
    w_gtI, w_modI, w_divI, w_addI, w_subI, w_mulI, w_geI, w_ltI, w_leI, w_eqI, w_neI, validate_eq h, look_net, d0, tupI, isi_tt, len_tup, tru_bl, ne_lenT hp.1, Bool.not_true, Bool.false_eq_true, if_false, true_and, Nat.reduceAdd, Nat.reduceSub]
  refine Ok.forL (k := 0) (fun k s => ∃ x2 x3, s = ⟨[.val N.d, .val (.tup (ps.map D.int)), x2, x3], tt⟩) ⟨_, _, rfl⟩ ?_ ?_
  · rintro i x _ hx ⟨x2, x3, rfl⟩
    obtain ⟨d, hd, rfl⟩ := enum_at hx
    obtain ⟨m, em, rfl⟩ := int_at hd
    rw [Nat.zero_add]
    have hi : i < N.mo.length := (List.getElem?_eq_some_iff.mp em).1
    have hr := hp.2 i m em
    have ix := fun (s : DS) (QR : R → DS → Prop) => ixT (s := s) (QR := QR) (l := ps) (k := (i : Int)) (by omega) (by rw [hp.1]; omega)
    rw [Int.toNat_natCast] at ix
    have c1 : decide ((0 : Int) ≤ ps.getD i 0) = true := decide_eq_true hr.1
    have c2 : decide (ps.getD i 0 ≤ m - 1) = true := decide_eq_true (by omega)
    simp -implicitDefEqProofs only [w_fn, w_seq, w_if, w_sB, w_tru, w_s2, w_s1, w_rd1, w_rd2, w_var, w_C, w_lookV, w_lookO, w_lookS, w_set, w_putV, w_putO, w_asg, w_gSub, w_gN, w_gT, w_gsN, w_gsC, w_toDV, w_toDO, w_toDS, w_updR, w_updS, w_ret, w_moveV, w_moveO, w_moveS, w_skip, w_and, w_or, w_not, w_andV, w_orV, w_notV, w_chain, w_lst, w_tup, w_nil, w_cons, w_call, w_drop, w_augS, w_M, w_app, w_par, w_putAll0, w_putAll1, w_kNil, w_kCons, w_keepV, w_keepO, w_for, w_lc, w_it, w_itK, w_enum, w_zip, w_callS, w_zipX, w_rng1, w_rng2, w_pure, w_cell, w_no, w_part, w_sl, w_slT, w_slL, ok_ok,
    List.map_cons, List.map_nil, List.length_cons, List.length_nil, List.replicate, List.cons_append, List.nil_append, List.getElem?_cons_zero, List.getElem?_cons_succ, List.set_cons_zero, List.set_cons_succ, look_int, look_bl, look_non, look_str, look_tup, look_lst, look_dic, look_scr, look_ty, look_ref,
    w_gtI, w_modI, w_divI, w_addI, w_subI, w_mulI, w_geI, w_ltI, w_leI, w_eqI, w_neI, ix, is_between_i, c1, c2, Bool.and_self, tru_bl, Bool.not_true, Bool.false_eq_true, if_false, true_and, Nat.reduceAdd, Nat.reduceSub]
    exact ⟨_, _, rfl⟩
  · rintro s1 ⟨x2, x3, rfl⟩
    simp -implicitDefEqProofs only [w_fn, w_seq, w_if, w_sB, w_tru, w_s2, w_s1, w_rd1, w_rd2, w_var, w_C, w_lookV, w_lookO, w_lookS, w_set, w_putV, w_putO, w_asg, w_gSub, w_gN, w_gT, w_gsN, w_gsC, w_toDV, w_toDO, w_toDS, w_updR, w_updS, w_ret, w_moveV, w_moveO, w_moveS, w_skip, w_and, w_or, w_not, w_andV, w_orV, w_notV, w_chain, w_lst, w_tup, w_nil, w_cons, w_call, w_drop, w_augS, w_M, w_app, w_par, w_putAll0, w_putAll1, w_kNil, w_kCons, w_keepV, w_keepO, w_for, w_lc, w_it, w_itK, w_enum, w_zip, w_callS, w_zipX, w_rng1, w_rng2, w_pure, w_cell, w_no, w_part, w_sl, w_slT, w_slL, ok_ok,
    List.map_cons, List.map_nil, List.length_cons, List.length_nil, List.replicate, List.cons_append, List.nil_append, List.getElem?_cons_zero, List.getElem?_cons_succ, List.set_cons_zero, List.set_cons_succ, look_int, look_bl, look_non, look_str, look_tup, look_lst, look_dic, look_scr, look_ty, look_ref,
    w_gtI, w_modI, w_divI, w_addI, w_subI, w_mulI, w_geI, w_ltI, w_leI, w_eqI, w_neI, true_and]
end
end L06

namespace L06
open PySem DL L2
section
variable {s : DS} {QR : R → DS → Prop} {QL : List D → DS → Prop} {QU : Unit → DS → Prop} {QC : Ctl → DS → Prop} {n m b : Int} {d : D} {ds : List D} {e : List Slot} {tt : List D} {N : Net} {ns st go ps v mo il : List Int} {i j k : Nat} {t : Int}
theorem ticks_eq (h : N.Ok) (hv : TicksOk N v) : r_validate_ticks [N.d, tupI v] ⟨e, tt⟩ = .ok (.val .non) ⟨e, tt⟩ := by
  apply Ok.eq
  unfold r_validate_ticks m_validate_ticks
  simp -implicitDefEqProofs only [w_fn, w_seq, w_if, w_sB, w_tru, w_s2, w_s1, w_rd1, w_rd2, w_var, w_C, w_lookV, w_lookO, w_lookS, w_set, w_putV, w_putO, w_asg, w_gSub, w_gN, w_gT, w_gsN, w_gsC, w_toDV, w_toDO, w_toDS, w_updR, w_updS, w_ret, w_moveV, w_moveO, w_moveS, w_skip, w_and, w_or, w_not, w_andV, w_orV, w_notV, w_chain, w_lst, w_tup, w_nil, w_cons, w_call, w_drop, w_augS, w_M, w_app, w_par, w_putAll0, w_putAll1, w_kNil, w_kCons, w_keepV, w_keepO, w_for, w_lc, w_it, w_itK, w_enum, w_zip, w_callS, w_zipX, w_rng1, w_rng2, w_pure, w_cell, w_no, w_part, w_sl, w_slT, w_slL, ok_ok,
    List.map_cons, List.map_nil, List.length_cons, List.length_nil, List.replicate, List.cons_append, List.nil_append, List.getElem?_cons_zero, List.getElem?_cons_succ, List.set_cons_zero, List.set_cons_succ, look_int, look_bl, look_non, look_str, look_tup, look_lst, look_dic, look_scr, look_ty, look_ref,
    w_gtI, w_modI, w_divI, w_addI, w_subI, w_mulI, w_geI, w_ltI, w_leI, w_eqI, w_neI, validate_eq h, look_net, d0, tupI, isi_tt, len_tup, tru_bl, ne_lenT hv.len, Bool.not_true, Bool.false_eq_true, if_false, true_and, Nat.reduceAdd, Nat.reduceSub]
  refine Ok.forL (k := 0) (fun k s => ∃ x2 x3, s = ⟨[.val N.d, .val (.tup (v.map D.int)), x2, x3], tt⟩) ⟨_, _, rfl⟩ ?_ ?_
  · rintro i x _ hx ⟨x2, x3, rfl⟩
    obtain ⟨d, hd, rfl⟩ := enum_at hx
    obtain ⟨m, em, rfl⟩ := int_at hd
    rw [Nat.zero_add]
    obtain ⟨hr1, hr2⟩ := hv.lo i m em
    have ha := hv.at_ i m em
    have c1 : decide ((-10000000000000000000000000000000000000000 : Int) ≤ m) = true := decide_eq_true hr1
    have c2 : decide (m ≤ 10000000000000000000000000000000000000000) = true := decide_eq_true hr2
    simp -implicitDefEqProofs only [w_fn, w_seq, w_if, w_sB, w_tru, w_s2, w_s1, w_rd1, w_rd2, w_var, w_C, w_lookV, w_lookO, w_lookS, w_set, w_putV, w_putO, w_asg, w_gSub, w_gN, w_gT, w_gsN, w_gsC, w_toDV, w_toDO, w_toDS, w_updR, w_updS, w_ret, w_moveV, w_moveO, w_moveS, w_skip, w_and, w_or, w_not, w_andV, w_orV, w_notV, w_chain, w_lst, w_tup, w_nil, w_cons, w_call, w_drop, w_augS, w_M, w_app, w_par, w_putAll0, w_putAll1, w_kNil, w_kCons, w_keepV, w_keepO, w_for, w_lc, w_it, w_itK, w_enum, w_zip, w_callS, w_zipX, w_rng1, w_rng2, w_pure, w_cell, w_no, w_part, w_sl, w_slT, w_slL, ok_ok,
    List.map_cons, List.map_nil, List.length_cons, List.length_nil, List.replicate, List.cons_append, List.nil_append, List.getElem?_cons_zero, List.getElem?_cons_succ, List.set_cons_zero, List.set_cons_succ, look_int, look_bl, look_non, look_str, look_tup, look_lst, look_dic, look_scr, look_ty, look_ref,
    w_gtI, w_modI, w_divI, w_addI, w_subI, w_mulI, w_geI, w_ltI, w_leI, w_eqI, w_neI, neg_int, is_between_i, c1, c2, Bool.and_self, tru_bl, Bool.not_true, Bool.false_eq_true, if_false, true_and, Nat.reduceAdd, Nat.reduceSub]
    by_cases c : m = 0
    · simp only [c, decide_true, Bool.not_true, Bool.false_eq_true, if_false]
      exact ⟨_, _, rfl⟩
    · have c3 : decide ((i : Int) ∈ N.inp) = true := decide_eq_true (ha c)
      simp only [c, decide_false, Bool.not_false, if_true, look_net, d2, tupI, w_fn, w_seq, w_if, w_sB, w_tru, w_s2, w_s1, w_rd1, w_rd2, w_var, w_C, w_lookV, w_lookO, w_lookS, w_set, w_putV, w_putO, w_asg, w_gSub, w_gN, w_gT, w_gsN, w_gsC, w_toDV, w_toDO, w_toDS, w_updR, w_updS, w_ret, w_moveV, w_moveO, w_moveS, w_skip, w_and, w_or, w_not, w_andV, w_orV, w_notV, w_chain, w_lst, w_tup, w_nil, w_cons, w_call, w_drop, w_augS, w_M, w_app, w_par, w_putAll0, w_putAll1, w_kNil, w_kCons, w_keepV, w_keepO, w_for, w_lc, w_it, w_itK, w_enum, w_zip, w_callS, w_zipX, w_rng1, w_rng2, w_pure, w_cell, w_no, w_part, w_sl, w_slT, w_slL, ok_ok,
    List.map_cons, List.map_nil, List.length_cons, List.length_nil, List.replicate, List.cons_append, List.nil_append, List.getElem?_cons_zero, List.getElem?_cons_succ, List.set_cons_zero, List.set_cons_succ, look_int, look_bl, look_non, look_str, look_tup, look_lst, look_dic, look_scr, look_ty, look_ref,
    w_gtI, w_modI, w_divI, w_addI, w_subI, w_mulI, w_geI, w_ltI, w_leI, w_eqI, w_neI, in_intsT, c3, Bool.not_true, Bool.false_eq_true, if_false]
      exact ⟨_, _, rfl⟩
  · rintro s1 ⟨x2, x3, rfl⟩
    simp -implicitDefEqProofs only [w_fn, w_seq, w_if, w_sB, w_tru, w_s2, w_s1, w_rd1, w_rd2, w_var, w_C, w_lookV, w_lookO, w_lookS, w_set, w_putV, w_putO, w_asg, w_gSub, w_gN, w_gT, w_gsN, w_gsC, w_toDV, w_toDO, w_toDS, w_updR, w_updS, w_ret, w_moveV, w_moveO, w_moveS, w_skip, w_and, w_or, w_not, w_andV, w_orV, w_notV, w_chain, w_lst, w_tup, w_nil, w_cons, w_call, w_drop, w_augS, w_M, w_app, w_par, w_putAll0, w_putAll1, w_kNil, w_kCons, w_keepV, w_keepO, w_for, w_lc, w_it, w_itK, w_enum, w_zip, w_callS, w_zipX, w_rng1, w_rng2, w_pure, w_cell, w_no, w_part, w_sl, w_slT, w_slL, ok_ok,
    List.map_cons, List.map_nil, List.length_cons, List.length_nil, List.replicate, List.cons_append, List.nil_append, List.getElem?_cons_zero, List.getElem?_cons_succ, List.set_cons_zero, List.set_cons_succ, look_int, look_bl, look_non, look_str, look_tup, look_lst, look_dic, look_scr, look_ty, look_ref,
    w_gtI, w_modI, w_divI, w_addI, w_subI, w_mulI, w_geI, w_ltI, w_leI, w_eqI, w_neI, true_and]
end
end L06

namespace L06
open PySem DL L2
theorem rng_at {a : Int} {n i : Nat} {x : D} (h : (rangeD a n)[i]? = some x) : i < n ∧ x = .int (a + (i : Int)) := by
  unfold rangeD at h
  rw [List.getElem?_map] at h
  by_cases c : i < n
  · rw [List.getElem?_range c] at h
    cases h
    exact ⟨c, rfl⟩
  · rw [List.getElem?_eq_none (by rw [List.length_range]; omega)] at h
    cases h
theorem rng_len {a b : Int} : (rangeD a b.toNat).length = b.toNat := by unfold rangeD; rw [List.length_map, List.length_range]
def lastW : Int × Int → List (Int × Int × Int) → Int × Int
  | b, [] => b
  | _, w :: r => lastW (w.1, w.2.1) r
theorem sorted_app : ∀ {ls : List (Int × Int × Int)} {b : Int × Int} {w : Int × Int × Int}, sortedW b ls → ((lastW b ls).1 < w.1 ∨ ((lastW b ls).1 = w.1 ∧ (lastW b ls).2 < w.2.1)) → sortedW b (ls ++ [w])
  | [], b, w, _, h => ⟨h, trivial⟩
  | x :: r, b, w, h, g => ⟨h.1, sorted_app h.2 g⟩
theorem last_app : ∀ {ls : List (Int × Int × Int)} {b : Int × Int} {w : Int × Int × Int}, lastW b (ls ++ [w]) = (w.1, w.2.1)
  | [], b, w => rfl
  | x :: r, b, w => last_app (ls := r)
theorem sortedI_app : ∀ {l : List Int} {b k : Int}, sortedI b l → (∀ i ∈ l, i < k) → b ≤ k → sortedI b (l ++ [k])
  | [], b, k, _, _, h => ⟨h, trivial⟩
  | x :: r, b, k, h, g, _ => ⟨h.1, sortedI_app h.2 (fun i hi => g i (List.mem_cons_of_mem _ hi)) (by have := g x (List.mem_cons_self ..); omega)⟩
def WireOk (k : Nat) (w : Int × Int × Int) : Prop := 0 ≤ w.1 ∧ w.1 < w.2.1 ∧ w.2.1 < k ∧ -100 ≤ w.2.2 ∧ w.2.2 ≤ 100 ∧ w.2.2 ≠ 0
/-- all weights are positive, if asked -/
def Posi (ip : Bool) (ls : List (Int × Int × Int)) : Prop := ip = true → ∀ w ∈ ls, 0 < w.2.2
section
variable {s : DS} {QR : R → DS → Prop} {QU : Unit → DS → Prop} {QC : Ctl → DS → Prop} {n m b : Int} {d : D} {ds : List D} {e : List Slot} {t : List D} {N : Net} {ns st go ps v mo il : List Int} {i j : Nat}
theorem w_min : Ok (intD minG (.int n) (.int m) s) QR = QR (.val (.int (if m < n then m else n))) s := rfl
theorem appW {l : List (Int × Int × Int)} {u v w : Int} (h : l.length < lim) : appU (.tup [.int u, .int v, .int w]) (.lst (l.map wireD)) = some (.lst ((l ++ [(u, v, w)]).map wireD), .non) := by
  simp only [appU, List.length_map, if_pos h, List.map_append, List.map_cons, List.map_nil]
  rfl
theorem ix_mem {l : List Int} {k : Int} (h0 : 0 ≤ k) (h1 : k < l.length) : ∃ x, x ∈ l ∧ ∀ (s : DS) (QR : R → DS → Prop), Ok (ixD (.lst (l.map D.int)) (.int k) s) QR = QR (.val (.int x)) s := by
  refine ⟨l.getD k.toNat 0, ?_, fun s QR => ixL h0 h1⟩
  have hk : k.toNat < l.length := by omega
  rw [List.getD_eq_getElem?_getD, List.getElem?_eq_getElem hk]
  exact List.getElem_mem hk
end
end L06

namespace L06
open PySem DL L2
/-! ### the flow: what comes in, what crosses, what stays -/
def cmF (N : Net) (st v : List Int) : Nat → List Int
  | 0 => v
  | k + 1 => spread (k : Int) ((st.getD k 0 + (cmF N st v k).getD k 0) / N.mo.getD k 1) N.wi (cmF N st v k)
def qF (N : Net) (st v : List Int) (k : Nat) : Int := (st.getD k 0 + (cmF N st v k).getD k 0) / N.mo.getD k 1
def lF (N : Net) (st v : List Int) (k : Nat) : Int := (st.getD k 0 + (cmF N st v k).getD k 0) % N.mo.getD k 1
def upF (f : Nat → Int) (n : Nat) : List Int := (List.range n).map f
theorem upF_len {f : Nat → Int} {n : Nat} : (upF f n).length = n := by unfold upF; rw [List.length_map, List.length_range]
theorem upF_snoc {f : Nat → Int} {n : Nat} : upF f n ++ [f n] = upF f (n + 1) := by unfold upF; rw [List.range_succ, List.map_append]; rfl
theorem upF_get {f : Nat → Int} {n i : Nat} (h : i < n) : (upF f n).getD i 0 = f i := by
  unfold upF; rw [List.getD_eq_getElem?_getD, List.getElem?_map, List.getElem?_range h]; rfl
theorem spread_le {c q B C : Int} : ∀ {ws : List (Int × Int × Int)} {l : List Int}, (∀ w ∈ ws, -100 ≤ w.2.2 ∧ w.2.2 ≤ 100) → Le l B → 0 ≤ B → (-C ≤ q ∧ q ≤ C) → Le (spread c q ws l) (B + (ws.length : Int) * (100 * C))
  | [], l, _, h, _, _ => by simpa [spread] using h
  | w :: r, l, hw, h, hB, hq => by
    have hC : 0 ≤ C := by omega
    unfold spread
    obtain ⟨w1, w2⟩ := hw w (List.mem_cons_self ..)
    have hm := mul_le w1 w2 hq.1 hq.2
    have e : ((w :: r).length : Int) * (100 * C) = 100 * C + (r.length : Int) * (100 * C) := by
      rw [List.length_cons, Int.natCast_add, Int.add_mul]; omega
    rw [e, ← Int.add_assoc]
    refine spread_le (fun x hx => hw x (List.mem_cons_of_mem _ hx)) ?_ (by omega) hq
    by_cases k : w.1 = c
    · rw [if_pos k]; exact h.addAt hB hm
    · rw [if_neg k]; exact h.mono (by omega)
def sm (P : Int × Int × Int → Bool) (g : Int × Int × Int → Int) : List (Int × Int × Int) → Int
  | [] => 0
  | w :: r => (if P w then g w else 0) + sm P g r
theorem sm_congr {P P' : Int × Int × Int → Bool} {g g' : Int × Int × Int → Int} : ∀ {ws : List (Int × Int × Int)}, (∀ w ∈ ws, P w = P' w ∧ (P w = true → g w = g' w)) → sm P g ws = sm P' g' ws
  | [], _ => rfl
  | w :: r, h => by
    obtain ⟨h1, h2⟩ := h w (List.mem_cons_self ..)
    unfold sm
    rw [sm_congr fun x hx => h x (List.mem_cons_of_mem _ hx), ← h1]
    by_cases c : P w = true
    · rw [if_pos c, if_pos c, h2 c]
    · rw [if_neg c, if_neg c]
theorem sm_add {P P1 P2 : Int × Int × Int → Bool} {g : Int × Int × Int → Int} : ∀ {ws : List (Int × Int × Int)}, (∀ w ∈ ws, (P w = (P1 w || P2 w)) ∧ (P1 w && P2 w) = false) → sm P g ws = sm P1 g ws + sm P2 g ws
  | [], _ => rfl
  | w :: r, h => by
    obtain ⟨h1, h2⟩ := h w (List.mem_cons_self ..)
    unfold sm
    rw [sm_add fun x hx => h x (List.mem_cons_of_mem _ hx), h1]
    cases c1 : P1 w with
    | true =>
      have c2 : P2 w = false := by rw [c1, Bool.true_and] at h2; exact h2
      simp only [c2, Bool.or_false, if_true, Bool.false_eq_true, if_false]; omega
    | false =>
      cases c2 : P2 w with
      | true => simp only [Bool.false_or, if_true, Bool.false_eq_true, if_false]; omega
      | false => simp only [Bool.false_or, Bool.false_eq_true, if_false]; omega
theorem sm_sum {P : Int × Int × Int → Bool} {g : Int × Int × Int → Int} : ∀ {ws : List (Int × Int × Int)}, ((ws.filter P).map g).sum = sm P g ws
  | [] => rfl
  | w :: r => by
    unfold sm
    rw [← sm_sum (ws := r)]
    by_cases c : P w = true
    · rw [List.filter_cons_of_pos c, List.map_cons, List.sum_cons, if_pos c]
    · rw [List.filter_cons_of_neg c, if_neg c]; omega
theorem addAt_getD {l : List Int} {i j : Nat} {x : Int} (hi : i < l.length) : (addAt l i x).getD j 0 = if i = j then l.getD j 0 + x else l.getD j 0 := by
  unfold addAt
  by_cases c : i = j
  · subst c
    rw [if_pos rfl, List.getD_eq_getElem?_getD, List.getElem?_set_self hi]; rfl
  · rw [if_neg c, List.getD_eq_getElem?_getD, List.getElem?_set_ne c, ← List.getD_eq_getElem?_getD]
theorem spread_getD {c q : Int} {j : Nat} : ∀ {ws : List (Int × Int × Int)} {l : List Int}, (∀ w ∈ ws, 0 ≤ w.2.1 ∧ w.2.1 < l.length) → (spread c q ws l).getD j 0 = l.getD j 0 + sm (fun w => decide (w.1 = c) && decide (w.2.1 = (j : Int))) (fun w => w.2.2 * q) ws
  | [], l, _ => by simp [spread, sm]
  | w :: r, l, h => by
    obtain ⟨h1, h2⟩ := h w (List.mem_cons_self ..)
    unfold spread sm
    by_cases k : w.1 = c
    · rw [if_pos k, spread_getD fun x hx => by rw [addAt_length]; exact h x (List.mem_cons_of_mem _ hx), addAt_getD (by omega)]
      by_cases kj : w.2.1 = (j : Int)
      · rw [if_pos (by omega), if_pos (by rw [decide_eq_true k, decide_eq_true kj]; rfl)]; omega
      · rw [if_neg (by omega), if_neg (by rw [decide_eq_false kj, Bool.and_false]; exact Bool.false_ne_true)]; omega
    · rw [if_neg k, spread_getD fun x hx => h x (List.mem_cons_of_mem _ hx), if_neg (by rw [decide_eq_false k]; exact Bool.false_ne_true)]; omega
section
variable {n m b : Int} {N : Net} {ns st go ps v v' mo il cs : List Int} {i j k : Nat}
theorem cmF_len : (cmF N st v k).length = v.length := by
  induction k with
  | zero => rfl
  | succ k ih => unfold cmF; rw [spread_length, ih]
theorem mo_at (h : N.Ok) (hk : k < N.mo.length) : 2 ≤ N.mo.getD k 1 ∧ N.mo.getD k 1 ≤ 1000 := by
  rw [List.getD_eq_getElem?_getD, List.getElem?_eq_getElem hk]
  exact h.mo3 _ (List.getElem_mem hk)
theorem cmF_getD (h : N.Ok) (hl : v.length = N.mo.length) {j : Nat} : ∀ k, (cmF N st v k).getD j 0 = v.getD j 0 + sm (fun w => decide (w.1 < (k : Int)) && decide (w.2.1 = (j : Int))) (fun w => w.2.2 * qF N st v w.1.toNat) N.wi
  | 0 => by
    have : sm (fun w => decide (w.1 < ((0 : Nat) : Int)) && decide (w.2.1 = (j : Int))) (fun w => w.2.2 * qF N st v w.1.toNat) N.wi = sm (fun _ => false) (fun _ => 0) N.wi := sm_congr fun w hw => by
      have := h.wi1 w hw
      have e : decide (w.1 < ((0 : Nat) : Int)) = false := decide_eq_false (by omega)
      rw [e]; exact ⟨rfl, fun z => nomatch z⟩
    have z : ∀ ws : List (Int × Int × Int), sm (fun _ => false) (fun _ => 0) ws = 0 := fun ws => by
      induction ws with
      | nil => rfl
      | cons w r ih => unfold sm; rw [ih]; rfl
    rw [this, z]
    show v.getD j 0 = _
    omega
  | k + 1 => by
    unfold cmF
    rw [spread_getD fun w hw => by have := h.wi1 w hw; rw [cmF_len, hl]; omega, cmF_getD h hl k]
    rw [sm_add (P := fun w => decide (w.1 < ((k + 1 : Nat) : Int)) && decide (w.2.1 = (j : Int))) (P1 := fun w => decide (w.1 < (k : Int)) && decide (w.2.1 = (j : Int))) (P2 := fun w => decide (w.1 = (k : Int)) && decide (w.2.1 = (j : Int))) fun w hw => by
      have := h.wi1 w hw
      by_cases c1 : w.1 < (k : Int)
      · have c2 : w.1 < ((k + 1 : Nat) : Int) := by omega
        have c3 : ¬ w.1 = (k : Int) := by omega
        rw [decide_eq_true c1, decide_eq_true c2, decide_eq_false c3]
        cases decide (w.2.1 = (j : Int)) <;> exact ⟨rfl, rfl⟩
      · by_cases c3 : w.1 = (k : Int)
        · have c2 : w.1 < ((k + 1 : Nat) : Int) := by omega
          rw [decide_eq_false c1, decide_eq_true c2, decide_eq_true c3]
          cases decide (w.2.1 = (j : Int)) <;> exact ⟨rfl, rfl⟩
        · have c2 : ¬ w.1 < ((k + 1 : Nat) : Int) := by omega
          rw [decide_eq_false c1, decide_eq_false c2, decide_eq_false c3]
          cases decide (w.2.1 = (j : Int)) <;> exact ⟨rfl, rfl⟩]
    rw [Int.add_assoc]
    congr 2
    exact sm_congr fun w hw => ⟨rfl, fun hp => by
      have hk : w.1 = (k : Int) := by
        have := (Bool.and_eq_true _ _ ▸ hp).1
        exact of_decide_eq_true this
      show w.2.2 * ((st.getD k 0 + (cmF N st v k).getD k 0) / N.mo.getD k 1) = w.2.2 * qF N st v w.1.toNat
      rw [hk, Int.toNat_natCast]; rfl⟩
def arrF (N : Net) (st v : List Int) (j : Nat) : Int := v.getD j 0 + sm (fun w => decide (w.2.1 = (j : Int))) (fun w => w.2.2 * qF N st v w.1.toNat) N.wi
theorem cmF_arr (h : N.Ok) (hl : v.length = N.mo.length) (hk : j ≤ k) : (cmF N st v k).getD j 0 = arrF N st v j := by
  rw [cmF_getD h hl]
  unfold arrF
  congr 1
  exact sm_congr fun w hw => by
    have := h.wi1 w hw
    by_cases c : w.2.1 = (j : Int)
    · have c2 : w.1 < (k : Int) := by omega
      exact ⟨by rw [decide_eq_true c, decide_eq_true c2]; rfl, fun _ => rfl⟩
    · exact ⟨by rw [decide_eq_false c, Bool.and_false], fun _ => rfl⟩
theorem cmF_all (h : N.Ok) (hl : v.length = N.mo.length) : cmF N st v N.mo.length = upF (arrF N st v) N.mo.length := by
  refine List.ext_getElem (by rw [cmF_len, upF_len, hl]) fun i h1 h2 => ?_
  rw [upF_len] at h2
  have e1 := cmF_arr (st := st) h hl (j := i) (k := N.mo.length) (by omega)
  have e2 := upF_get (f := arrF N st v) h2
  rw [List.getD_eq_getElem?_getD, List.getElem?_eq_getElem h1] at e1
  rw [List.getD_eq_getElem?_getD, List.getElem?_eq_getElem (by rw [upF_len]; exact h2)] at e2
  exact e1.trans e2.symm
theorem q_arr (h : N.Ok) (hl : v.length = N.mo.length) : qF N st v k = (st.getD k 0 + arrF N st v k) / N.mo.getD k 1 := by
  unfold qF; rw [cmF_arr h hl (Nat.le_refl k)]
theorem l_arr (h : N.Ok) (hl : v.length = N.mo.length) : lF N st v k = (st.getD k 0 + arrF N st v k) % N.mo.getD k 1 := by
  unfold lF; rw [cmF_arr h hl (Nat.le_refl k)]
/-! ### bounds from any start on -/
def bg (B : Int) : Nat → Int
  | 0 => B
  | k + 1 => bg B k * 100000
theorem bg_pos {B : Int} (hB : 1000 ≤ B) : ∀ k, 1000 ≤ bg B k
  | 0 => hB
  | k + 1 => by have := bg_pos hB k; unfold bg; omega
theorem bg_le {B : Int} (hB : 1000 ≤ B) : ∀ {i j : Nat}, i ≤ j → bg B i ≤ bg B j := by
  intro i j h
  induction h with
  | refl => exact Int.le_refl _
  | step h ih =>
    rename_i j
    have q := bg_pos hB j
    show bg B i ≤ bg B j * 100000
    omega
theorem cmF_bg (h : N.Ok) (hs : StateOk N st) {B : Int} (hB : 1000 ≤ B) (hv : Le v B) : ∀ k, k ≤ N.mo.length → Le (cmF N st v k) (bg B k)
  | 0, _ => hv
  | k + 1, hk => by
    have ih := cmF_bg h hs hB hv k (by omega)
    have p := bg_pos hB k
    have g := ih.get (by omega) k
    have s0 := hs.le h k (by omega)
    have m0 := mo_at h (show k < N.mo.length by omega)
    have q0 := div_le (x := st.getD k 0 + (cmF N st v k).getD k 0) (m := N.mo.getD k 1) (b := bg B k + 1000) m0.1 (by omega) (by omega) (by omega)
    have wl := h.wlen
    unfold cmF
    refine (spread_le (C := bg B k + 1001) (fun w hw => by have := h.wi1 w hw; omega) ih (by omega) (by omega)).mono ?_
    have : (N.wi.length : Int) * (100 * (bg B k + 1001)) ≤ 99 * (100 * (bg B k + 1001)) := Int.mul_le_mul_of_nonneg_right wl (by omega)
    show _ ≤ bg B k * 100000
    omega
theorem qF_bg (h : N.Ok) (hs : StateOk N st) {B : Int} (hB : 1000 ≤ B) (hv : Le v B) (hk : k < N.mo.length) : -(bg B k + 1001) ≤ qF N st v k ∧ qF N st v k ≤ bg B k + 1001 := by
  have p := bg_pos hB k
  have g := (cmF_bg h hs hB hv k (by omega)).get (by omega) k
  have s0 := hs.le h k (by omega)
  have m0 := mo_at h hk
  have q0 := div_le (x := st.getD k 0 + (cmF N st v k).getD k 0) (m := N.mo.getD k 1) (b := bg B k + 1000) m0.1 (by omega) (by omega) (by omega)
  unfold qF
  omega
/-! ### the state equation, and that it has one answer -/
def inS (N : Net) (c : Nat → Int) (j : Nat) : Int := sm (fun w => decide (w.2.1 = (j : Int))) (fun w => w.2.2 * c w.1.toNat) N.wi
theorem arr_in : arrF N st v j = v.getD j 0 + inS N (qF N st v) j := rfl
theorem inS_congr (h : N.Ok) {c c' : Nat → Int} (hc : ∀ i, i < j → c i = c' i) : inS N c j = inS N c' j := by
  unfold inS
  exact sm_congr fun w hw => ⟨rfl, fun hp => by
    have hj : w.2.1 = (j : Int) := of_decide_eq_true hp
    have := h.wi1 w hw
    show w.2.2 * c w.1.toNat = w.2.2 * c' w.1.toNat
    rw [hc w.1.toNat (by omega)]⟩
theorem inS_add {c c' : Nat → Int} : inS N (fun i => c i + c' i) j = inS N c j + inS N c' j := by
  unfold inS
  induction N.wi with
  | nil => rfl
  | cons w r ih =>
    unfold sm
    rw [ih]
    split
    · rw [Int.mul_add]; omega
    · omega
theorem state_eq (h : N.Ok) (hl : v.length = N.mo.length) : lF N st v k + N.mo.getD k 1 * qF N st v k = st.getD k 0 + v.getD k 0 + inS N (qF N st v) k := by
  rw [q_arr h hl, l_arr h hl, Int.emod_add_mul_ediv, arr_in]
  omega
theorem flow_unique (h : N.Ok) (hl : v.length = N.mo.length) {s c : Nat → Int} (hr : ∀ j, j < N.mo.length → 0 ≤ s j ∧ s j < N.mo.getD j 1) (he : ∀ j, j < N.mo.length → s j + N.mo.getD j 1 * c j = st.getD j 0 + v.getD j 0 + inS N c j) : ∀ j, j < N.mo.length → c j = qF N st v j ∧ s j = lF N st v j := by
  intro j
  induction j using Nat.strongRecOn with
  | _ j ih =>
    intro hj
    have e := he j hj
    rw [inS_congr h fun i hi => (ih i hi (by omega)).1] at e
    have m0 := mo_at h hj
    obtain ⟨r0, r1⟩ := hr j hj
    have e2 : st.getD j 0 + arrF N st v j = s j + N.mo.getD j 1 * c j := by rw [arr_in]; omega
    rw [q_arr h hl, l_arr h hl, e2]
    constructor
    · rw [Int.add_mul_ediv_left _ _ (by omega), Int.ediv_eq_zero_of_lt r0 r1]; omega
    · rw [Int.add_mul_emod_self_left, Int.emod_eq_of_lt r0 r1]
theorem l_rng (h : N.Ok) (hk : k < N.mo.length) : 0 ≤ lF N st v k ∧ lF N st v k < N.mo.getD k 1 := by
  have m0 := mo_at h hk
  exact ⟨Int.emod_nonneg _ (by omega), Int.emod_lt_of_pos _ (by omega)⟩
/-- first v, then v' -/
theorem flow_add (h : N.Ok) (hl : v.length = N.mo.length) (hl' : v'.length = N.mo.length) {u : List Int} (hu : u.length = N.mo.length) (ha : ∀ j, u.getD j 0 = v.getD j 0 + v'.getD j 0) (hj : j < N.mo.length) :
    qF N st v j + qF N (upF (lF N st v) N.mo.length) v' j = qF N st u j ∧ lF N (upF (lF N st v) N.mo.length) v' j = lF N st u j := by
  refine flow_unique h hu (s := lF N (upF (lF N st v) N.mo.length) v') (c := fun i => qF N st v i + qF N (upF (lF N st v) N.mo.length) v' i) (fun i hi => l_rng h hi) (fun i hi => ?_) j hj
  have e1 := state_eq (st := st) (k := i) h hl
  have e2 := state_eq (st := upF (lF N st v) N.mo.length) (k := i) h hl'
  rw [upF_get hi] at e2
  show _ + N.mo.getD i 1 * (qF N st v i + qF N (upF (lF N st v) N.mo.length) v' i) = _
  rw [Int.mul_add, inS_add, ha i]
  omega
/-! ### more ticks, more carries -/
theorem inS_mono (h : N.Ok) (hp : ∀ w ∈ N.wi, 0 < w.2.2) {c c' : Nat → Int} (hc : ∀ i, i < j → c i ≤ c' i) : inS N c j ≤ inS N c' j := by
  have go : ∀ ws : List (Int × Int × Int), (∀ w ∈ ws, w ∈ N.wi) → sm (fun w => decide (w.2.1 = (j : Int))) (fun w => w.2.2 * c w.1.toNat) ws ≤ sm (fun w => decide (w.2.1 = (j : Int))) (fun w => w.2.2 * c' w.1.toNat) ws := by
    intro ws
    induction ws with
    | nil => intro _; exact Int.le_refl _
    | cons w r ih =>
      intro hw
      have i1 := ih fun x hx => hw x (List.mem_cons_of_mem _ hx)
      have hwm := hw w (List.mem_cons_self ..)
      have a := h.wi1 w hwm
      have p := hp w hwm
      unfold sm
      by_cases k : w.2.1 = (j : Int)
      · rw [if_pos (decide_eq_true k), if_pos (decide_eq_true k)]
        have := Int.mul_le_mul_of_nonneg_left (hc w.1.toNat (by omega)) (show 0 ≤ w.2.2 by omega)
        omega
      · rw [if_neg (by simpa using k), if_neg (by simpa using k)]; omega
  exact go N.wi fun w hw => hw
theorem qF_mono (h : N.Ok) (hp : ∀ w ∈ N.wi, 0 < w.2.2) (hl : v.length = N.mo.length) (hl' : v'.length = N.mo.length) (hv : ∀ j, v.getD j 0 ≤ v'.getD j 0) : ∀ j, j < N.mo.length → qF N st v j ≤ qF N st v' j := by
  intro j
  induction j using Nat.strongRecOn with
  | _ j ih =>
    intro hj
    have m0 := mo_at h hj
    rw [q_arr h hl, q_arr h hl', arr_in, arr_in]
    have := inS_mono (j := j) h hp fun i hi => ih i hi (by omega)
    exact Int.ediv_le_ediv (by omega) (by have := hv j; omega)
end
end L06

namespace L06
open PySem DL L2
/-- the greatest entry that is allowed here -/
def big : Int := 100000000000000000000000000000000000000000000000000000000000000000000000000000000000000000000000000000000000000000000000000000000000000000000000000000000000000000000000000000000000000000000000000000000
theorem bg_sm {k : Nat} {n B : Int} (hB : 1000 ≤ B) (hB2 : B ≤ big) (hk : k ≤ 10) (h : -(bg B k + 5000) ≤ n ∧ n ≤ bg B k + 5000) : SmI n 1000 := by
  have q := bg_le hB hk
  have e10 : bg B 10 = B * 100000 * 100000 * 100000 * 100000 * 100000 * 100000 * 100000 * 100000 * 100000 * 100000 := rfl
  rw [e10] at q
  unfold big at hB2
  have e : (10000000000000000000000000000000000000000000000000000000000000000000000000000000000000000000000000000000000000000000000000000000000000000000000000000000000000000000000000000000000000000000000000000000000000000000000000000000000000000000000000000000000 + 5001 : Nat) < 2 ^ 1000 := by decide +kernel
  show n.natAbs < 2 ^ 1000
  refine Nat.lt_of_le_of_lt ?_ e
  omega
section
variable {s : DS} {QR : R → DS → Prop} {QU : Unit → DS → Prop} {QC : Ctl → DS → Prop} {n m b : Int} {d : D} {ds : List D} {e : List Slot} {t : List D} {N : Net} {ns st go ps v mo il cs : List Int} {i j k : Nat}
theorem w_dm : Ok (dmM (.int n) (.int m) s) QR = ((0 < m ∧ m < 1073741824) ∧ QR (.val (.tup [.int (n / m), .int (n % m)])) s) := by
  unfold dmM
  by_cases c : 0 < m ∧ m < 1073741824
  · simp only [if_pos c]; exact propext ⟨fun h => ⟨c, h⟩, fun h => h.2⟩
  · simp only [if_neg c]; exact propext ⟨fun h => h.elim, fun h => (c h.1).elim⟩
theorem flow_run (h : N.Ok) (hs : StateOk N st) {B : Int} (hB : 1000 ≤ B) (hB2 : B ≤ big) (hl0 : v.length = N.mo.length) (hv : Le v B) : r_flow [N.d, tupI st, tupI v] ⟨e, t⟩ = .ok (.val (.tup [tupI (cmF N st v N.mo.length), tupI (upF (qF N st v) N.mo.length), tupI (upF (lF N st v) N.mo.length)])) ⟨e, t⟩ := by
  apply Ok.eq
  have hm2 := h.mo2
  unfold r_flow m_flow
  simp -implicitDefEqProofs only [w_fn, w_seq, w_if, w_sB, w_tru, w_s2, w_s1, w_rd1, w_rd2, w_var, w_C, w_lookV, w_lookO, w_lookS, w_set, w_putV, w_putO, w_asg, w_gSub, w_gN, w_gT, w_gsN, w_gsC, w_toDV, w_toDO, w_toDS, w_updR, w_updS, w_ret, w_moveV, w_moveO, w_moveS, w_skip, w_and, w_or, w_not, w_andV, w_orV, w_notV, w_chain, w_lst, w_tup, w_nil, w_cons, w_call, w_drop, w_augS, w_M, w_app, w_par, w_putAll0, w_putAll1, w_kNil, w_kCons, w_keepV, w_keepO, w_for, w_lc, w_it, w_itK, w_enum, w_zip, w_callS, w_zipX, w_rng1, w_rng2, w_pure, w_cell, w_no, w_part, w_sl, w_slT, w_slL, ok_ok,
    List.map_cons, List.map_nil, List.length_cons, List.length_nil, List.replicate, List.cons_append, List.nil_append, List.getElem?_cons_zero, List.getElem?_cons_succ, List.set_cons_zero, List.set_cons_succ, look_int, look_bl, look_non, look_str, look_tup, look_lst, look_dic, look_scr, look_ty, look_ref,
    w_gtI, w_modI, w_divI, w_addI, w_subI, w_mulI, w_geI, w_ltI, w_leI, w_eqI, w_neI, look_net, d0, d1, tupI, listM, true_and, Nat.reduceAdd, Nat.reduceSub]
  refine ⟨by decide, by decide, ?_⟩
  refine Ok.forL (k := 0) (fun k s => k ≤ N.mo.length ∧ ∃ x6 x7 x8 x9 x10 x11 x12, s = ⟨[.val N.d, .val (.tup (st.map D.int)), .val (.tup (v.map D.int)), .own (.lst ((cmF N st v k).map D.int)), .own (.lst ((upF (qF N st v) k).map D.int)), .own (.lst ((upF (lF N st v) k).map D.int)), x6, x7, x8, x9, x10, x11, x12], t⟩) ⟨Nat.zero_le _, _, _, _, _, _, _, _, rfl⟩ ?_ ?_
  · rintro i x _ hx ⟨_, x6, x7, x8, x9, x10, x11, x12, rfl⟩
    rw [Nat.zero_add]
    obtain ⟨d, hd, rfl⟩ := enum_at hx
    obtain ⟨m, em, rfl⟩ := int_at hd
    rw [Nat.zero_add]
    have hi : i < N.mo.length := (List.getElem?_eq_some_iff.mp em).1
    obtain ⟨hm3, hm4⟩ := h.mo3 m (List.mem_of_getElem? em)
    have emd : N.mo.getD i 1 = m := by rw [List.getD_eq_getElem?_getD, em]; rfl
    have ix1 := fun (s : DS) (QR : R → DS → Prop) => ixT (s := s) (QR := QR) (l := st) (k := (i : Int)) (by omega) (by rw [hs.1]; omega)
    have ix3 := fun (s : DS) (QR : R → DS → Prop) => ixL (s := s) (QR := QR) (l := cmF N st v i) (k := (i : Int)) (by omega) (by rw [cmF_len, hl0]; omega)
    rw [Int.toNat_natCast] at ix1 ix3
    have hlg : m.natAbs.log2 < 9000 := by have := lgS (n := m) (by omega) (by omega); omega
    have ap1 := appL (l := upF (qF N st v) i) (v := (st.getD i 0 + (cmF N st v i).getD i 0) / m) (by rw [upF_len]; show _ < 1000000; omega)
    have ap2 := appL (l := upF (lF N st v) i) (v := (st.getD i 0 + (cmF N st v i).getD i 0) % m) (by rw [upF_len]; show _ < 1000000; omega)
    have hq : (st.getD i 0 + (cmF N st v i).getD i 0) / m = qF N st v i := by unfold qF; rw [emd]
    have hl : (st.getD i 0 + (cmF N st v i).getD i 0) % m = lF N st v i := by unfold lF; rw [emd]
    simp -implicitDefEqProofs only [w_fn, w_seq, w_if, w_sB, w_tru, w_s2, w_s1, w_rd1, w_rd2, w_var, w_C, w_lookV, w_lookO, w_lookS, w_set, w_putV, w_putO, w_asg, w_gSub, w_gN, w_gT, w_gsN, w_gsC, w_toDV, w_toDO, w_toDS, w_updR, w_updS, w_ret, w_moveV, w_moveO, w_moveS, w_skip, w_and, w_or, w_not, w_andV, w_orV, w_notV, w_chain, w_lst, w_tup, w_nil, w_cons, w_call, w_drop, w_augS, w_M, w_app, w_par, w_putAll0, w_putAll1, w_kNil, w_kCons, w_keepV, w_keepO, w_for, w_lc, w_it, w_itK, w_enum, w_zip, w_callS, w_zipX, w_rng1, w_rng2, w_pure, w_cell, w_no, w_part, w_sl, w_slT, w_slL, ok_ok,
    List.map_cons, List.map_nil, List.length_cons, List.length_nil, List.replicate, List.cons_append, List.nil_append, List.getElem?_cons_zero, List.getElem?_cons_succ, List.set_cons_zero, List.set_cons_succ, look_int, look_bl, look_non, look_str, look_tup, look_lst, look_dic, look_scr, look_ty, look_ref,
    w_gtI, w_modI, w_divI, w_addI, w_subI, w_mulI, w_geI, w_ltI, w_leI, w_eqI, w_neI, look_net, d0, d1, tupI, ix1, ix3, w_dm, isL, ap1, ap2, if_true, true_and, Nat.reduceAdd, Nat.reduceSub]
    refine ⟨⟨by omega, by omega⟩, ?_⟩
    rw [hq, hl, upF_snoc, upF_snoc]
    have hqb := qF_bg h hs hB hv hi
    refine Ok.forL (k := 0) (fun j s => j ≤ N.wi.length ∧ ∃ cm' y10 y11 y12, s = ⟨[.val N.d, .val (.tup (st.map D.int)), .val (.tup (v.map D.int)), .own (.lst (cm'.map D.int)), .own (.lst ((upF (qF N st v) (i + 1)).map D.int)), .own (.lst ((upF (lF N st v) (i + 1)).map D.int)), .val (.int (i : Int)), .val (.int m), .val (.int (qF N st v i)), .val (.int (lF N st v i)), y10, y11, y12], t⟩ ∧ cm'.length = N.mo.length ∧ spread (i : Int) (qF N st v i) (N.wi.drop j) cm' = cmF N st v (i + 1)) ⟨Nat.zero_le _, cmF N st v i, _, _, _, rfl, by rw [cmF_len, hl0], rfl⟩ ?_ ?_
    · rintro j x _ hx ⟨_, cm', y10, y11, y12, rfl, hlc, hsp⟩
      rw [Nat.zero_add] at hsp ⊢
      obtain ⟨w, ew, rfl⟩ := wire_at hx
      obtain ⟨w1, w2, w3, w4, w5, w6⟩ := h.wi1 w (List.mem_of_getElem? ew)
      have hjl : j < N.wi.length := (List.getElem?_eq_some_iff.mp ew).1
      rw [drop_at ew] at hsp
      simp only [spread] at hsp
      simp -implicitDefEqProofs only [w_fn, w_seq, w_if, w_sB, w_tru, w_s2, w_s1, w_rd1, w_rd2, w_var, w_C, w_lookV, w_lookO, w_lookS, w_set, w_putV, w_putO, w_asg, w_gSub, w_gN, w_gT, w_gsN, w_gsC, w_toDV, w_toDO, w_toDS, w_updR, w_updS, w_ret, w_moveV, w_moveO, w_moveS, w_skip, w_and, w_or, w_not, w_andV, w_orV, w_notV, w_chain, w_lst, w_tup, w_nil, w_cons, w_call, w_drop, w_augS, w_M, w_app, w_par, w_putAll0, w_putAll1, w_kNil, w_kCons, w_keepV, w_keepO, w_for, w_lc, w_it, w_itK, w_enum, w_zip, w_callS, w_zipX, w_rng1, w_rng2, w_pure, w_cell, w_no, w_part, w_sl, w_slT, w_slL, ok_ok,
    List.map_cons, List.map_nil, List.length_cons, List.length_nil, List.replicate, List.cons_append, List.nil_append, List.getElem?_cons_zero, List.getElem?_cons_succ, List.set_cons_zero, List.set_cons_succ, look_int, look_bl, look_non, look_str, look_tup, look_lst, look_dic, look_scr, look_ty, look_ref,
    w_gtI, w_modI, w_divI, w_addI, w_subI, w_mulI, w_geI, w_ltI, w_leI, w_eqI, w_neI, Nat.reduceAdd, true_and]
      by_cases c : w.1 = (i : Int)
      · have hgl := fun (s : DS) (QR : R → DS → Prop) => getL (l := cm') (k := w.2.1) (by omega) (by omega)
        have hgl := getL (l := cm') (k := w.2.1) (by omega) (by omega)
        have hsl := fun v : Int => setL (l := cm') (k := w.2.1) (v := v) (by omega) (by omega)
        have sq := (bg_sm (k := i) (n := qF N st v i) hB hB2 (by omega) (by omega)).lg (by decide)
        have sw := (SmI.of (n := w.2.2) (by omega) (by omega)).lg (by decide)
        have hmu : w.2.2.natAbs.log2 + (qF N st v i).natAbs.log2 < 1000000 := by omega
        simp only [c, decide_true, if_true, w_fn, w_seq, w_if, w_sB, w_tru, w_s2, w_s1, w_rd1, w_rd2, w_var, w_C, w_lookV, w_lookO, w_lookS, w_set, w_putV, w_putO, w_asg, w_gSub, w_gN, w_gT, w_gsN, w_gsC, w_toDV, w_toDO, w_toDS, w_updR, w_updS, w_ret, w_moveV, w_moveO, w_moveS, w_skip, w_and, w_or, w_not, w_andV, w_orV, w_notV, w_chain, w_lst, w_tup, w_nil, w_cons, w_call, w_drop, w_augS, w_M, w_app, w_par, w_putAll0, w_putAll1, w_kNil, w_kCons, w_keepV, w_keepO, w_for, w_lc, w_it, w_itK, w_enum, w_zip, w_callS, w_zipX, w_rng1, w_rng2, w_pure, w_cell, w_no, w_part, w_sl, w_slT, w_slL, ok_ok,
    List.map_cons, List.map_nil, List.length_cons, List.length_nil, List.replicate, List.cons_append, List.nil_append, List.getElem?_cons_zero, List.getElem?_cons_succ, List.set_cons_zero, List.set_cons_succ, look_int, look_bl, look_non, look_str, look_tup, look_lst, look_dic, look_scr, look_ty, look_ref,
    w_gtI, w_modI, w_divI, w_addI, w_subI, w_mulI, w_geI, w_ltI, w_leI, w_eqI, w_neI, hgl, hsl, w_iadd, hmu, true_and]
        rw [if_pos c] at hsp
        exact ⟨by omega, _, _, _, _, rfl, by rw [List.length_set]; exact hlc, hsp⟩
      · simp only [c, decide_false, Bool.false_eq_true, if_false, w_fn, w_seq, w_if, w_sB, w_tru, w_s2, w_s1, w_rd1, w_rd2, w_var, w_C, w_lookV, w_lookO, w_lookS, w_set, w_putV, w_putO, w_asg, w_gSub, w_gN, w_gT, w_gsN, w_gsC, w_toDV, w_toDO, w_toDS, w_updR, w_updS, w_ret, w_moveV, w_moveO, w_moveS, w_skip, w_and, w_or, w_not, w_andV, w_orV, w_notV, w_chain, w_lst, w_tup, w_nil, w_cons, w_call, w_drop, w_augS, w_M, w_app, w_par, w_putAll0, w_putAll1, w_kNil, w_kCons, w_keepV, w_keepO, w_for, w_lc, w_it, w_itK, w_enum, w_zip, w_callS, w_zipX, w_rng1, w_rng2, w_pure, w_cell, w_no, w_part, w_sl, w_slT, w_slL, ok_ok,
    List.map_cons, List.map_nil, List.length_cons, List.length_nil, List.replicate, List.cons_append, List.nil_append, List.getElem?_cons_zero, List.getElem?_cons_succ, List.set_cons_zero, List.set_cons_succ, look_int, look_bl, look_non, look_str, look_tup, look_lst, look_dic, look_scr, look_ty, look_ref,
    w_gtI, w_modI, w_divI, w_addI, w_subI, w_mulI, w_geI, w_ltI, w_leI, w_eqI, w_neI]
        rw [if_neg c] at hsp
        exact ⟨by omega, cm', _, _, _, rfl, hlc, hsp⟩
    · rintro s1 ⟨_, cm', y10, y11, y12, rfl, hlc, hsp⟩
      rw [List.length_map, Nat.zero_add, List.drop_length] at hsp
      simp only [spread] at hsp
      rw [hsp]
      exact ⟨by omega, _, _, _, _, _, _, _, rfl⟩
  · rintro s1 ⟨_, x6, x7, x8, x9, x10, x11, x12, rfl⟩
    rw [enumD_length, List.length_map, Nat.zero_add]
    simp -implicitDefEqProofs only [w_fn, w_seq, w_if, w_sB, w_tru, w_s2, w_s1, w_rd1, w_rd2, w_var, w_C, w_lookV, w_lookO, w_lookS, w_set, w_putV, w_putO, w_asg, w_gSub, w_gN, w_gT, w_gsN, w_gsC, w_toDV, w_toDO, w_toDS, w_updR, w_updS, w_ret, w_moveV, w_moveO, w_moveS, w_skip, w_and, w_or, w_not, w_andV, w_orV, w_notV, w_chain, w_lst, w_tup, w_nil, w_cons, w_call, w_drop, w_augS, w_M, w_app, w_par, w_putAll0, w_putAll1, w_kNil, w_kCons, w_keepV, w_keepO, w_for, w_lc, w_it, w_itK, w_enum, w_zip, w_callS, w_zipX, w_rng1, w_rng2, w_pure, w_cell, w_no, w_part, w_sl, w_slT, w_slL, ok_ok,
    List.map_cons, List.map_nil, List.length_cons, List.length_nil, List.replicate, List.cons_append, List.nil_append, List.getElem?_cons_zero, List.getElem?_cons_succ, List.set_cons_zero, List.set_cons_succ, look_int, look_bl, look_non, look_str, look_tup, look_lst, look_dic, look_scr, look_ty, look_ref,
    w_gtI, w_modI, w_divI, w_addI, w_subI, w_mulI, w_geI, w_ltI, w_leI, w_eqI, w_neI, tupM, true_and, Nat.reduceAdd]
    exact ⟨by decide, trivial⟩
end
end L06

namespace L06
open PySem DL L2
/-! ### the dice of k01 to k06: _law_source, _law_draw, _law_pick -/
def sdic (cs : List Int) (nx rs ct : Int) : D := .dic [.inr "cells", .inr "next", .inr "rest", .inr "count"] [.lst (cs.map D.int), .int nx, .int rs, .int ct]
def At (cs : List Int) (t : List D) (b : Int) : Prop := ∃ (nx rs ct : Int), t = [sdic cs nx rs ct] ∧ (0 ≤ nx ∧ nx ≤ b) ∧ (0 ≤ ct ∧ ct ≤ b)
theorem At.mono {cs : List Int} {t : List D} {b b' : Int} (h : At cs t b) (hb : b ≤ b') : At cs t b' := by
  obtain ⟨nx, rs, ct, e, h0, h1⟩ := h
  exact ⟨nx, rs, ct, e, by omega, by omega⟩
theorem n1 : (("cells" : PySem.Str) = "next") = False := eq_false (by decide +kernel)
theorem n2 : (("cells" : PySem.Str) = "rest") = False := eq_false (by decide +kernel)
theorem n3 : (("cells" : PySem.Str) = "count") = False := eq_false (by decide +kernel)
theorem n4 : (("next" : PySem.Str) = "rest") = False := eq_false (by decide +kernel)
theorem n5 : (("next" : PySem.Str) = "count") = False := eq_false (by decide +kernel)
theorem n6 : (("rest" : PySem.Str) = "count") = False := eq_false (by decide +kernel)
theorem n4' : (("rest" : PySem.Str) = "next") = False := eq_false (by decide +kernel)
theorem n5' : (("count" : PySem.Str) = "next") = False := eq_false (by decide +kernel)
theorem n6' : (("count" : PySem.Str) = "rest") = False := eq_false (by decide +kernel)
section
variable {s : DS} {QR : R → DS → Prop} {QU : Unit → DS → Prop} {QC : Ctl → DS → Prop} {n m b a v k nx rs ct L : Int} {d : D} {ds : List D} {e : List Slot} {t : List D} {cs gs ns : List Int}
theorem look_sdic : lookAt t (sdic cs nx rs ct) = some (sdic cs nx rs ct) := rfl
theorem ix_cells : Ok (ixD (sdic cs nx rs ct) (.str "cells") s) QR = QR (.val (.lst (cs.map D.int))) s := by simp [ixD, sdic, keyD, getK, M.ofOpt, Ok, M.pure]
theorem ix_next : Ok (ixD (sdic cs nx rs ct) (.str "next") s) QR = QR (.val (.int nx)) s := by simp [ixD, sdic, keyD, getK, M.ofOpt, n1, Ok, M.pure]
theorem ix_rest : Ok (ixD (sdic cs nx rs ct) (.str "rest") s) QR = QR (.val (.int rs)) s := by simp [ixD, sdic, keyD, getK, M.ofOpt, n1, n2, n4, Ok, M.pure]
theorem ix_count : Ok (ixD (sdic cs nx rs ct) (.str "count") s) QR = QR (.val (.int ct)) s := by simp [ixD, sdic, keyD, getK, M.ofOpt, n1, n2, n3, n4, n5, n6, Ok, M.pure]
theorem set_next : setU (.str "next") (.int v) (sdic cs nx rs ct) = some (sdic cs v rs ct, ()) := by simp [setU, setD, sdic, keyD, putKD, hasK, setK, n1, n2, n3, n4, n5, n6, n4', n5', n6', lim]
theorem set_rest : setU (.str "rest") (.int v) (sdic cs nx rs ct) = some (sdic cs nx v ct, ()) := by simp [setU, setD, sdic, keyD, putKD, hasK, setK, n1, n2, n3, n4, n5, n6, n4', n5', n6', lim]
theorem set_count : setU (.str "count") (.int v) (sdic cs nx rs ct) = some (sdic cs nx rs v, ()) := by simp [setU, setD, sdic, keyD, putKD, hasK, setK, n1, n2, n3, n4, n5, n6, n4', n5', n6', lim]
theorem draw_at (hc : cs ≠ []) (h : At cs t b) (hb : b ≤ 1000000) (hL : 0 < L) (hL2 : L ≤ 1000000000) : Ok (r__law_draw [.ref 0, .int L] ⟨e, t⟩) fun r s => ∃ v t', r = .val (.int v) ∧ 0 ≤ v ∧ v < L ∧ s = ⟨e, t'⟩ ∧ At cs t' (b + 1) := by
  obtain ⟨nx, rs, ct, rfl, h0, h1⟩ := h
  have hlen : 0 < (cs.length : Int) := by
    have := List.length_pos_iff.mpr hc
    omega
  have m0 := Int.emod_nonneg nx (show (cs.length : Int) ≠ 0 by omega)
  have m1 := Int.emod_lt_of_pos nx hlen
  have ix := fun (s : DS) (QR : R → DS → Prop) => ixL (s := s) (QR := QR) (l := cs) (k := nx % (cs.length : Int)) m0 m1
  have lL : L.natAbs.log2 < 9000 := by have := lgS (n := L) (by omega) (by omega); omega
  unfold r__law_draw m__law_draw
  simp -implicitDefEqProofs only [w_fn, w_seq, w_if, w_sB, w_tru, w_s2, w_s1, w_rd1, w_rd2, w_var, w_C, w_lookV, w_lookO, w_lookS, w_set, w_putV, w_putO, w_asg, w_gSub, w_gN, w_gT, w_gsN, w_gsC, w_toDV, w_toDO, w_toDS, w_updR, w_updS, w_ret, w_moveV, w_moveO, w_moveS, w_skip, w_and, w_or, w_not, w_andV, w_orV, w_notV, w_chain, w_lst, w_tup, w_nil, w_cons, w_call, w_drop, w_augS, w_M, w_app, w_par, w_putAll0, w_putAll1, w_kNil, w_kCons, w_keepV, w_keepO, w_for, w_lc, w_it, w_itK, w_enum, w_zip, w_callS, w_zipX, w_rng1, w_rng2, w_pure, w_cell, w_no, w_part, w_sl, w_slT, w_slL, ok_ok,
    List.map_cons, List.map_nil, List.length_cons, List.length_nil, List.replicate, List.cons_append, List.nil_append, List.getElem?_cons_zero, List.getElem?_cons_succ, List.set_cons_zero, List.set_cons_succ, look_int, look_bl, look_non, look_str, look_tup, look_lst, look_dic, look_scr, look_ty, look_ref,
    w_gtI, w_modI, w_divI, w_addI, w_subI, w_mulI, w_geI, w_ltI, w_leI, w_eqI, w_neI, look_sdic, ix_rest, Nat.reduceAdd, Nat.reduceSub, true_and]
  have fin : ∀ (nx rs ct : Int), (0 ≤ nx ∧ nx ≤ b + 1) → (0 ≤ ct ∧ ct ≤ b + 1) → ∃ v t', R.val (D.int (rs % L)) = R.val (D.int v) ∧ 0 ≤ v ∧ v < L ∧ (⟨e, [sdic cs nx (rs / L) ct]⟩ : DS) = ⟨e, t'⟩ ∧ At cs t' (b + 1) := fun nx rs ct a1 a2 => ⟨_, _, rfl, Int.emod_nonneg _ (by omega), Int.emod_lt_of_pos _ hL, rfl, nx, rs / L, ct, rfl, a1, a2⟩
  by_cases c : rs = 0
  · simp only [c, decide_true, if_true, w_fn, w_seq, w_if, w_sB, w_tru, w_s2, w_s1, w_rd1, w_rd2, w_var, w_C, w_lookV, w_lookO, w_lookS, w_set, w_putV, w_putO, w_asg, w_gSub, w_gN, w_gT, w_gsN, w_gsC, w_toDV, w_toDO, w_toDS, w_updR, w_updS, w_ret, w_moveV, w_moveO, w_moveS, w_skip, w_and, w_or, w_not, w_andV, w_orV, w_notV, w_chain, w_lst, w_tup, w_nil, w_cons, w_call, w_drop, w_augS, w_M, w_app, w_par, w_putAll0, w_putAll1, w_kNil, w_kCons, w_keepV, w_keepO, w_for, w_lc, w_it, w_itK, w_enum, w_zip, w_callS, w_zipX, w_rng1, w_rng2, w_pure, w_cell, w_no, w_part, w_sl, w_slT, w_slL, ok_ok,
    List.map_cons, List.map_nil, List.length_cons, List.length_nil, List.replicate, List.cons_append, List.nil_append, List.getElem?_cons_zero, List.getElem?_cons_succ, List.set_cons_zero, List.set_cons_succ, look_int, look_bl, look_non, look_str, look_tup, look_lst, look_dic, look_scr, look_ty, look_ref,
    w_gtI, w_modI, w_divI, w_addI, w_subI, w_mulI, w_geI, w_ltI, w_leI, w_eqI, w_neI, ix_cells, ix_next, ix_rest, ix_count, look_sdic, len_lst, List.length_map, ix, set_next, pow_1018, true_and, Nat.reduceAdd, Nat.reduceSub]
    generalize cs.getD (nx % (cs.length : Int)).toNat 0 = cell
    refine ⟨hlen, ?_⟩
    have k1 : 0 ≤ cell % 2147483629 := Int.emod_nonneg _ (by decide)
    have k2 : cell % 2147483629 < 2147483629 := Int.emod_lt_of_pos _ (by decide)
    have s1 := mulS (n := 7919) (m := ct + 1) (by decide) (by decide) (by omega) (by omega)
    have s2 := mulS (n := ct + 1) (m := ct + 1) (by omega) (by omega) (by omega) (by omega)
    have cc : 0 ≤ (ct + 1) * (ct + 1) ∧ (ct + 1) * (ct + 1) ≤ 1000001 * 1000001 := by
      have a1 := Int.mul_le_mul_of_nonneg_right (show ct + 1 ≤ 1000001 by omega) (show 0 ≤ ct + 1 by omega)
      have a2 := Int.mul_le_mul_of_nonneg_left (show ct + 1 ≤ 1000001 by omega) (show (0 : Int) ≤ 1000001 by decide)
      have a3 := Int.mul_nonneg (show 0 ≤ ct + 1 by omega) (show 0 ≤ ct + 1 by omega)
      omega
    have s3 := mulS (n := cell % 2147483629 + 7919 * (ct + 1)) (m := (ct + 1) * (ct + 1) + 48271) (by omega) (by omega) (by omega) (by omega)
    generalize hA : (cell % 2147483629 + 7919 * (ct + 1)) * ((ct + 1) * (ct + 1) + 48271) % 2147483647 = A
    have A0 : 0 ≤ A := by rw [← hA]; exact Int.emod_nonneg _ (by decide)
    have A1 : A < 2147483647 := by rw [← hA]; exact Int.emod_lt_of_pos _ (by decide)
    have s4 := mulS (n := A) (m := 16777619) (by omega) (by omega) (by decide) (by decide)
    have B0 : 0 ≤ A * 16777619 % 2147483563 := Int.emod_nonneg _ (by decide)
    have B1 : A * 16777619 % 2147483563 < 2147483563 := Int.emod_lt_of_pos _ (by decide)
    have s5 := mulS (n := A * 16777619 % 2147483563) (m := 2147483647) (by omega) (by omega) (by decide) (by decide)
    have s6 := mulS (n := A) (m := A) (by omega) (by omega) (by omega) (by omega)
    by_cases c1 : 1000000000000000000 ≤ cell
    · by_cases c2 : nx + 1 ≤ (cs.length : Int)
      · simp -implicitDefEqProofs only [w_fn, w_seq, w_if, w_sB, w_tru, w_s2, w_s1, w_rd1, w_rd2, w_var, w_C, w_lookV, w_lookO, w_lookS, w_set, w_putV, w_putO, w_asg, w_gSub, w_gN, w_gT, w_gsN, w_gsC, w_toDV, w_toDO, w_toDS, w_updR, w_updS, w_ret, w_moveV, w_moveO, w_moveS, w_skip, w_and, w_or, w_not, w_andV, w_orV, w_notV, w_chain, w_lst, w_tup, w_nil, w_cons, w_call, w_drop, w_augS, w_M, w_app, w_par, w_putAll0, w_putAll1, w_kNil, w_kCons, w_keepV, w_keepO, w_for, w_lc, w_it, w_itK, w_enum, w_zip, w_callS, w_zipX, w_rng1, w_rng2, w_pure, w_cell, w_no, w_part, w_sl, w_slT, w_slL, ok_ok,
    List.map_cons, List.map_nil, List.length_cons, List.length_nil, List.replicate, List.cons_append, List.nil_append, List.getElem?_cons_zero, List.getElem?_cons_succ, List.set_cons_zero, List.set_cons_succ, look_int, look_bl, look_non, look_str, look_tup, look_lst, look_dic, look_scr, look_ty, look_ref,
    w_gtI, w_modI, w_divI, w_addI, w_subI, w_mulI, w_geI, w_ltI, w_leI, w_eqI, w_neI, c1, c2, decide_true, if_true, set_rest, ix_rest, look_sdic, true_and]
        exact ⟨hL, ⟨hL, lL⟩, ⟨_, _, rfl, Int.emod_nonneg _ (by omega), Int.emod_lt_of_pos _ hL, rfl, nx + 1, cell / L, ct, rfl, by omega, by omega⟩⟩
      · simp -implicitDefEqProofs only [w_fn, w_seq, w_if, w_sB, w_tru, w_s2, w_s1, w_rd1, w_rd2, w_var, w_C, w_lookV, w_lookO, w_lookS, w_set, w_putV, w_putO, w_asg, w_gSub, w_gN, w_gT, w_gsN, w_gsC, w_toDV, w_toDO, w_toDS, w_updR, w_updS, w_ret, w_moveV, w_moveO, w_moveS, w_skip, w_and, w_or, w_not, w_andV, w_orV, w_notV, w_chain, w_lst, w_tup, w_nil, w_cons, w_call, w_drop, w_augS, w_M, w_app, w_par, w_putAll0, w_putAll1, w_kNil, w_kCons, w_keepV, w_keepO, w_for, w_lc, w_it, w_itK, w_enum, w_zip, w_callS, w_zipX, w_rng1, w_rng2, w_pure, w_cell, w_no, w_part, w_sl, w_slT, w_slL, ok_ok,
    List.map_cons, List.map_nil, List.length_cons, List.length_nil, List.replicate, List.cons_append, List.nil_append, List.getElem?_cons_zero, List.getElem?_cons_succ, List.set_cons_zero, List.set_cons_succ, look_int, look_bl, look_non, look_str, look_tup, look_lst, look_dic, look_scr, look_ty, look_ref,
    w_gtI, w_modI, w_divI, w_addI, w_subI, w_mulI, w_geI, w_ltI, w_leI, w_eqI, w_neI, c1, c2, decide_true, decide_false, if_true, Bool.false_eq_true, if_false, set_rest, set_count, ix_rest, ix_count, look_sdic, hA, true_and]
        exact ⟨by decide, s1, s2, s3, by decide, s4, by decide, s5, s6, by decide, hL, ⟨hL, lL⟩, _, _, rfl, Int.emod_nonneg _ (by omega), Int.emod_lt_of_pos _ hL, rfl, nx + 1, _, ct + 1, rfl, by omega, by omega⟩
    · simp -implicitDefEqProofs only [w_fn, w_seq, w_if, w_sB, w_tru, w_s2, w_s1, w_rd1, w_rd2, w_var, w_C, w_lookV, w_lookO, w_lookS, w_set, w_putV, w_putO, w_asg, w_gSub, w_gN, w_gT, w_gsN, w_gsC, w_toDV, w_toDO, w_toDS, w_updR, w_updS, w_ret, w_moveV, w_moveO, w_moveS, w_skip, w_and, w_or, w_not, w_andV, w_orV, w_notV, w_chain, w_lst, w_tup, w_nil, w_cons, w_call, w_drop, w_augS, w_M, w_app, w_par, w_putAll0, w_putAll1, w_kNil, w_kCons, w_keepV, w_keepO, w_for, w_lc, w_it, w_itK, w_enum, w_zip, w_callS, w_zipX, w_rng1, w_rng2, w_pure, w_cell, w_no, w_part, w_sl, w_slT, w_slL, ok_ok,
    List.map_cons, List.map_nil, List.length_cons, List.length_nil, List.replicate, List.cons_append, List.nil_append, List.getElem?_cons_zero, List.getElem?_cons_succ, List.set_cons_zero, List.set_cons_succ, look_int, look_bl, look_non, look_str, look_tup, look_lst, look_dic, look_scr, look_ty, look_ref,
    w_gtI, w_modI, w_divI, w_addI, w_subI, w_mulI, w_geI, w_ltI, w_leI, w_eqI, w_neI, c1, decide_false, Bool.false_eq_true, if_false, set_rest, set_count, ix_rest, ix_count, look_sdic, hA, true_and]
      exact ⟨by decide, s1, s2, s3, by decide, s4, by decide, s5, s6, by decide, hL, ⟨hL, lL⟩, _, _, rfl, Int.emod_nonneg _ (by omega), Int.emod_lt_of_pos _ hL, rfl, nx + 1, _, ct + 1, rfl, by omega, by omega⟩
  · simp only [c, decide_false, Bool.false_eq_true, if_false, w_fn, w_seq, w_if, w_sB, w_tru, w_s2, w_s1, w_rd1, w_rd2, w_var, w_C, w_lookV, w_lookO, w_lookS, w_set, w_putV, w_putO, w_asg, w_gSub, w_gN, w_gT, w_gsN, w_gsC, w_toDV, w_toDO, w_toDS, w_updR, w_updS, w_ret, w_moveV, w_moveO, w_moveS, w_skip, w_and, w_or, w_not, w_andV, w_orV, w_notV, w_chain, w_lst, w_tup, w_nil, w_cons, w_call, w_drop, w_augS, w_M, w_app, w_par, w_putAll0, w_putAll1, w_kNil, w_kCons, w_keepV, w_keepO, w_for, w_lc, w_it, w_itK, w_enum, w_zip, w_callS, w_zipX, w_rng1, w_rng2, w_pure, w_cell, w_no, w_part, w_sl, w_slT, w_slL, ok_ok,
    List.map_cons, List.map_nil, List.length_cons, List.length_nil, List.replicate, List.cons_append, List.nil_append, List.getElem?_cons_zero, List.getElem?_cons_succ, List.set_cons_zero, List.set_cons_succ, look_int, look_bl, look_non, look_str, look_tup, look_lst, look_dic, look_scr, look_ty, look_ref,
    w_gtI, w_modI, w_divI, w_addI, w_subI, w_mulI, w_geI, w_ltI, w_leI, w_eqI, w_neI, ix_rest, look_sdic, set_rest, true_and]
    exact ⟨hL, ⟨hL, lL⟩, fin nx rs ct (by omega) (by omega)⟩
theorem pick_at {l : List Int} (hc : cs ≠ []) (h : At cs t b) (hb : b ≤ 1000000) (h1 : 1 ≤ l.length) (h2 : l.length ≤ 1000000) : Ok (r__law_pick [.ref 0, .lst (l.map D.int)] ⟨e, t⟩) fun r s => ∃ v t', r = .val (.int v) ∧ v ∈ l ∧ s = ⟨e, t'⟩ ∧ At cs t' (b + 1) := by
  unfold r__law_pick m__law_pick
  have lp : ((l.map D.int).length : Int) = (l.length : Int) := by rw [List.length_map]
  simp -implicitDefEqProofs only [w_fn, w_seq, w_if, w_sB, w_tru, w_s2, w_s1, w_rd1, w_rd2, w_var, w_C, w_lookV, w_lookO, w_lookS, w_set, w_putV, w_putO, w_asg, w_gSub, w_gN, w_gT, w_gsN, w_gsC, w_toDV, w_toDO, w_toDS, w_updR, w_updS, w_ret, w_moveV, w_moveO, w_moveS, w_skip, w_and, w_or, w_not, w_andV, w_orV, w_notV, w_chain, w_lst, w_tup, w_nil, w_cons, w_call, w_drop, w_augS, w_M, w_app, w_par, w_putAll0, w_putAll1, w_kNil, w_kCons, w_keepV, w_keepO, w_for, w_lc, w_it, w_itK, w_enum, w_zip, w_callS, w_zipX, w_rng1, w_rng2, w_pure, w_cell, w_no, w_part, w_sl, w_slT, w_slL, ok_ok,
    List.map_cons, List.map_nil, List.length_cons, List.length_nil, List.replicate, List.cons_append, List.nil_append, List.getElem?_cons_zero, List.getElem?_cons_succ, List.set_cons_zero, List.set_cons_succ, look_int, look_bl, look_non, look_str, look_tup, look_lst, look_dic, look_scr, look_ty, look_ref,
    w_gtI, w_modI, w_divI, w_addI, w_subI, w_mulI, w_geI, w_ltI, w_leI, w_eqI, w_neI, len_lst, lp, true_and, Nat.reduceAdd, Nat.reduceSub]
  refine (draw_at hc h hb (L := (l.length : Int)) (by omega) (by omega)).imp ?_
  rintro r s ⟨v, t2, rfl, v0, v1, rfl, hat2⟩
  have ix := fun (s : DS) (QR : R → DS → Prop) => ixL (s := s) (QR := QR) (l := l) (k := v) v0 v1
  simp -implicitDefEqProofs only [w_fn, w_seq, w_if, w_sB, w_tru, w_s2, w_s1, w_rd1, w_rd2, w_var, w_C, w_lookV, w_lookO, w_lookS, w_set, w_putV, w_putO, w_asg, w_gSub, w_gN, w_gT, w_gsN, w_gsC, w_toDV, w_toDO, w_toDS, w_updR, w_updS, w_ret, w_moveV, w_moveO, w_moveS, w_skip, w_and, w_or, w_not, w_andV, w_orV, w_notV, w_chain, w_lst, w_tup, w_nil, w_cons, w_call, w_drop, w_augS, w_M, w_app, w_par, w_putAll0, w_putAll1, w_kNil, w_kCons, w_keepV, w_keepO, w_for, w_lc, w_it, w_itK, w_enum, w_zip, w_callS, w_zipX, w_rng1, w_rng2, w_pure, w_cell, w_no, w_part, w_sl, w_slT, w_slL, ok_ok,
    List.map_cons, List.map_nil, List.length_cons, List.length_nil, List.replicate, List.cons_append, List.nil_append, List.getElem?_cons_zero, List.getElem?_cons_succ, List.set_cons_zero, List.set_cons_succ, look_int, look_bl, look_non, look_str, look_tup, look_lst, look_dic, look_scr, look_ty, look_ref,
    w_gtI, w_modI, w_divI, w_addI, w_subI, w_mulI, w_geI, w_ltI, w_leI, w_eqI, w_neI, ix]
  refine ⟨_, t2, rfl, ?_, rfl, hat2⟩
  rw [List.getD_eq_getElem?_getD, List.getElem?_eq_getElem (by omega)]
  exact List.getElem_mem _
end
end L06

namespace L06
open PySem DL L2
section
variable {s : DS} {QR : R → DS → Prop} {QU : Unit → DS → Prop} {QC : Ctl → DS → Prop} {n m b : Int} {d : D} {ds : List D} {e : List Slot} {t : List D} {N : Net} {ns st go ps v mo il cs : List Int} {i j : Nat}
theorem net_at {most wide : Int} (hc : cs ≠ []) (hm1 : 1 ≤ most) (hm2 : most ≤ 5) (hw1 : 2 ≤ wide) (hw2 : wide ≤ 1000) (h : At cs t b) (hb : b ≤ 900000) :
    Ok (r__law_net [.ref 0, .int most, .int wide] ⟨e, t⟩) fun r s => ∃ N t', r = .val (Net.d N) ∧ N.Ok ∧ (N.mo.length : Int) ≤ most ∧ s = ⟨e, t'⟩ ∧ At cs t' (b + 300) := by
  unfold r__law_net m__law_net
  simp -implicitDefEqProofs only [w_fn, w_seq, w_if, w_sB, w_tru, w_s2, w_s1, w_rd1, w_rd2, w_var, w_C, w_lookV, w_lookO, w_lookS, w_set, w_putV, w_putO, w_asg, w_gSub, w_gN, w_gT, w_gsN, w_gsC, w_toDV, w_toDO, w_toDS, w_updR, w_updS, w_ret, w_moveV, w_moveO, w_moveS, w_skip, w_and, w_or, w_not, w_andV, w_orV, w_notV, w_chain, w_lst, w_tup, w_nil, w_cons, w_call, w_drop, w_augS, w_M, w_app, w_par, w_putAll0, w_putAll1, w_kNil, w_kCons, w_keepV, w_keepO, w_for, w_lc, w_it, w_itK, w_enum, w_zip, w_callS, w_zipX, w_rng1, w_rng2, w_pure, w_cell, w_no, w_part, w_sl, w_slT, w_slL, ok_ok,
    List.map_cons, List.map_nil, List.length_cons, List.length_nil, List.replicate, List.cons_append, List.nil_append, List.getElem?_cons_zero, List.getElem?_cons_succ, List.set_cons_zero, List.set_cons_succ, look_int, look_bl, look_non, look_str, look_tup, look_lst, look_dic, look_scr, look_ty, look_ref,
    w_gtI, w_modI, w_divI, w_addI, w_subI, w_mulI, w_geI, w_ltI, w_leI, w_eqI, w_neI, Nat.reduceAdd, Nat.reduceSub, true_and]
  refine (draw_at hc h (by omega) (by omega) (by omega)).imp ?_
  rintro r s ⟨mn, t1, rfl, mn0, mn1, rfl, hat1⟩
  obtain ⟨many, hmany⟩ : ∃ many : Nat, (many : Int) = 1 + mn := ⟨(1 + mn).toNat, by omega⟩
  have hmt : ((many : Int)).toNat = many := Int.toNat_natCast many
  have hml : many ≤ 5 := by omega
  have hm1' : 1 ≤ many := by omega
  have hrl : (rangeD 0 many).length = many := by unfold rangeD; rw [List.length_map, List.length_range]
  simp -implicitDefEqProofs only [w_fn, w_seq, w_if, w_sB, w_tru, w_s2, w_s1, w_rd1, w_rd2, w_var, w_C, w_lookV, w_lookO, w_lookS, w_set, w_putV, w_putO, w_asg, w_gSub, w_gN, w_gT, w_gsN, w_gsC, w_toDV, w_toDO, w_toDS, w_updR, w_updS, w_ret, w_moveV, w_moveO, w_moveS, w_skip, w_and, w_or, w_not, w_andV, w_orV, w_notV, w_chain, w_lst, w_tup, w_nil, w_cons, w_call, w_drop, w_augS, w_M, w_app, w_par, w_putAll0, w_putAll1, w_kNil, w_kCons, w_keepV, w_keepO, w_for, w_lc, w_it, w_itK, w_enum, w_zip, w_callS, w_zipX, w_rng1, w_rng2, w_pure, w_cell, w_no, w_part, w_sl, w_slT, w_slL, ok_ok,
    List.map_cons, List.map_nil, List.length_cons, List.length_nil, List.replicate, List.cons_append, List.nil_append, List.getElem?_cons_zero, List.getElem?_cons_succ, List.set_cons_zero, List.set_cons_succ, look_int, look_bl, look_non, look_str, look_tup, look_lst, look_dic, look_scr, look_ty, look_ref,
    w_gtI, w_modI, w_divI, w_addI, w_subI, w_mulI, w_geI, w_ltI, w_leI, w_eqI, w_neI, ints1, ← hmany, hmt, Nat.reduceAdd, Nat.reduceSub, true_and]
  refine ⟨by decide, by decide, by unfold rlim; omega, ?_⟩
  refine Ok.forL (k := 0) (fun i s => ∃ (mo : List Int) (x6 : DL.Slot) (t' : List D), s = ⟨[.val (.ref 0), .val (.int most), .val (.int wide), .val (.int (many : Int)), .own (.lst (mo.map D.int)), .own (.lst []), x6, .un, .un, .un, .un], t'⟩ ∧ mo.length = i ∧ i ≤ many ∧ (∀ m ∈ mo, 2 ≤ m ∧ m ≤ 1000) ∧ At cs t' (b + 1 + 2 * i)) ⟨[], _, _, rfl, rfl, Nat.zero_le _, (fun _ z => nomatch z), hat1.mono (by omega)⟩ ?_ ?_
  · rintro i x _ hx ⟨mo, x6, t', rfl, hl, hi, hr, hat⟩
    rw [Nat.zero_add] at hl hi hat
    obtain ⟨hi2, rfl⟩ := rng_at hx
    simp -implicitDefEqProofs only [w_fn, w_seq, w_if, w_sB, w_tru, w_s2, w_s1, w_rd1, w_rd2, w_var, w_C, w_lookV, w_lookO, w_lookS, w_set, w_putV, w_putO, w_asg, w_gSub, w_gN, w_gT, w_gsN, w_gsC, w_toDV, w_toDO, w_toDS, w_updR, w_updS, w_ret, w_moveV, w_moveO, w_moveS, w_skip, w_and, w_or, w_not, w_andV, w_orV, w_notV, w_chain, w_lst, w_tup, w_nil, w_cons, w_call, w_drop, w_augS, w_M, w_app, w_par, w_putAll0, w_putAll1, w_kNil, w_kCons, w_keepV, w_keepO, w_for, w_lc, w_it, w_itK, w_enum, w_zip, w_callS, w_zipX, w_rng1, w_rng2, w_pure, w_cell, w_no, w_part, w_sl, w_slT, w_slL, ok_ok,
    List.map_cons, List.map_nil, List.length_cons, List.length_nil, List.replicate, List.cons_append, List.nil_append, List.getElem?_cons_zero, List.getElem?_cons_succ, List.set_cons_zero, List.set_cons_succ, look_int, look_bl, look_non, look_str, look_tup, look_lst, look_dic, look_scr, look_ty, look_ref,
    w_gtI, w_modI, w_divI, w_addI, w_subI, w_mulI, w_geI, w_ltI, w_leI, w_eqI, w_neI, isL, w_min, Nat.reduceAdd, Nat.reduceSub, true_and]
    refine ⟨by decide, ?_⟩
    have hm4 : 1 ≤ (if wide - 1 < 4 then wide - 1 else 4) ∧ (if wide - 1 < 4 then wide - 1 else 4) ≤ wide - 1 := by split <;> omega
    generalize (if wide - 1 < 4 then wide - 1 else 4) = m4 at hm4 ⊢
    refine (pick_at (l := [1, m4, wide - 1]) hc hat (by omega) (by show 1 ≤ 3; decide) (by show 3 ≤ 1000000; decide)).imp ?_
    rintro r s ⟨v, t2, rfl, hv, rfl, hat2⟩
    simp only [List.mem_cons, List.not_mem_nil, or_false] at hv
    simp -implicitDefEqProofs only [w_fn, w_seq, w_if, w_sB, w_tru, w_s2, w_s1, w_rd1, w_rd2, w_var, w_C, w_lookV, w_lookO, w_lookS, w_set, w_putV, w_putO, w_asg, w_gSub, w_gN, w_gT, w_gsN, w_gsC, w_toDV, w_toDO, w_toDS, w_updR, w_updS, w_ret, w_moveV, w_moveO, w_moveS, w_skip, w_and, w_or, w_not, w_andV, w_orV, w_notV, w_chain, w_lst, w_tup, w_nil, w_cons, w_call, w_drop, w_augS, w_M, w_app, w_par, w_putAll0, w_putAll1, w_kNil, w_kCons, w_keepV, w_keepO, w_for, w_lc, w_it, w_itK, w_enum, w_zip, w_callS, w_zipX, w_rng1, w_rng2, w_pure, w_cell, w_no, w_part, w_sl, w_slT, w_slL, ok_ok,
    List.map_cons, List.map_nil, List.length_cons, List.length_nil, List.replicate, List.cons_append, List.nil_append, List.getElem?_cons_zero, List.getElem?_cons_succ, List.set_cons_zero, List.set_cons_succ, look_int, look_bl, look_non, look_str, look_tup, look_lst, look_dic, look_scr, look_ty, look_ref,
    w_gtI, w_modI, w_divI, w_addI, w_subI, w_mulI, w_geI, w_ltI, w_leI, w_eqI, w_neI, Nat.reduceAdd, Nat.reduceSub, true_and]
    refine (draw_at hc hat2 (by omega) (by omega) (by omega)).imp ?_
    rintro r s ⟨v2, t3, rfl, v20, v21, rfl, hat3⟩
    have ap := appL (l := mo) (v := 2 + v2) (by show _ < 1000000; omega)
    simp -implicitDefEqProofs only [w_fn, w_seq, w_if, w_sB, w_tru, w_s2, w_s1, w_rd1, w_rd2, w_var, w_C, w_lookV, w_lookO, w_lookS, w_set, w_putV, w_putO, w_asg, w_gSub, w_gN, w_gT, w_gsN, w_gsC, w_toDV, w_toDO, w_toDS, w_updR, w_updS, w_ret, w_moveV, w_moveO, w_moveS, w_skip, w_and, w_or, w_not, w_andV, w_orV, w_notV, w_chain, w_lst, w_tup, w_nil, w_cons, w_call, w_drop, w_augS, w_M, w_app, w_par, w_putAll0, w_putAll1, w_kNil, w_kCons, w_keepV, w_keepO, w_for, w_lc, w_it, w_itK, w_enum, w_zip, w_callS, w_zipX, w_rng1, w_rng2, w_pure, w_cell, w_no, w_part, w_sl, w_slT, w_slL, ok_ok,
    List.map_cons, List.map_nil, List.length_cons, List.length_nil, List.replicate, List.cons_append, List.nil_append, List.getElem?_cons_zero, List.getElem?_cons_succ, List.set_cons_zero, List.set_cons_succ, look_int, look_bl, look_non, look_str, look_tup, look_lst, look_dic, look_scr, look_ty, look_ref,
    w_gtI, w_modI, w_divI, w_addI, w_subI, w_mulI, w_geI, w_ltI, w_leI, w_eqI, w_neI, isL, ap, Nat.reduceAdd, Nat.reduceSub, true_and]
    refine ⟨mo ++ [2 + v2], _, t3, rfl, by rw [List.length_append, hl, Nat.zero_add]; rfl, by omega, ?_, hat3.mono (by omega)⟩
    intro m hm
    rcases List.mem_append.mp hm with z | z
    · exact hr m z
    · rw [List.mem_singleton.mp z]; omega
  · rintro s1 ⟨mo, x6, t', rfl, hl, hi, hr, hat⟩
    rw [hrl, Nat.zero_add] at hl hi hat
    simp -implicitDefEqProofs only [w_fn, w_seq, w_if, w_sB, w_tru, w_s2, w_s1, w_rd1, w_rd2, w_var, w_C, w_lookV, w_lookO, w_lookS, w_set, w_putV, w_putO, w_asg, w_gSub, w_gN, w_gT, w_gsN, w_gsC, w_toDV, w_toDO, w_toDS, w_updR, w_updS, w_ret, w_moveV, w_moveO, w_moveS, w_skip, w_and, w_or, w_not, w_andV, w_orV, w_notV, w_chain, w_lst, w_tup, w_nil, w_cons, w_call, w_drop, w_augS, w_M, w_app, w_par, w_putAll0, w_putAll1, w_kNil, w_kCons, w_keepV, w_keepO, w_for, w_lc, w_it, w_itK, w_enum, w_zip, w_callS, w_zipX, w_rng1, w_rng2, w_pure, w_cell, w_no, w_part, w_sl, w_slT, w_slL, ok_ok,
    List.map_cons, List.map_nil, List.length_cons, List.length_nil, List.replicate, List.cons_append, List.nil_append, List.getElem?_cons_zero, List.getElem?_cons_succ, List.set_cons_zero, List.set_cons_succ, look_int, look_bl, look_non, look_str, look_tup, look_lst, look_dic, look_scr, look_ty, look_ref,
    w_gtI, w_modI, w_divI, w_addI, w_subI, w_mulI, w_geI, w_ltI, w_leI, w_eqI, w_neI, ints1, hmt, true_and]
    refine ⟨by unfold rlim; omega, ?_⟩
    refine Ok.forL (k := 0) (fun u s => ∃ ls y7 y8 y9 t', s = ⟨[.val (.ref 0), .val (.int most), .val (.int wide), .val (.int (many : Int)), .own (.lst (mo.map D.int)), .own (.lst (ls.map wireD)), x6, y7, y8, y9, .un], t'⟩ ∧ (∀ w ∈ ls, WireOk many w) ∧ sortedW (0, 0) ls ∧ ls.length ≤ 10 * u ∧ u ≤ many ∧
      ((lastW (0, 0) ls).1 < u ∨ ((lastW (0, 0) ls).1 = u ∧ (lastW (0, 0) ls).2 < u + 1)) ∧ At cs t' (b + 20 + 30 * u)) ⟨[], _, _, _, _, rfl, (fun _ z => nomatch z), trivial, Nat.zero_le _, Nat.zero_le _, .inr ⟨rfl, by decide⟩, hat.mono (by omega)⟩ ?_ ?_
    · rintro u x _ hx ⟨ls, y7, y8, y9, t', rfl, hw, hso, hll, hu, hla, hat⟩
      obtain ⟨hu2, rfl⟩ := rng_at hx
      rw [Nat.zero_add] at hll hu hla hat
      have e1 : (0 : Int) + ((u : Nat) : Int) = ((u : Nat) : Int) := by omega
      simp only [e1, w_fn, w_seq, w_if, w_sB, w_tru, w_s2, w_s1, w_rd1, w_rd2, w_var, w_C, w_lookV, w_lookO, w_lookS, w_set, w_putV, w_putO, w_asg, w_gSub, w_gN, w_gT, w_gsN, w_gsC, w_toDV, w_toDO, w_toDS, w_updR, w_updS, w_ret, w_moveV, w_moveO, w_moveS, w_skip, w_and, w_or, w_not, w_andV, w_orV, w_notV, w_chain, w_lst, w_tup, w_nil, w_cons, w_call, w_drop, w_augS, w_M, w_app, w_par, w_putAll0, w_putAll1, w_kNil, w_kCons, w_keepV, w_keepO, w_for, w_lc, w_it, w_itK, w_enum, w_zip, w_callS, w_zipX, w_rng1, w_rng2, w_pure, w_cell, w_no, w_part, w_sl, w_slT, w_slL, ok_ok,
    List.map_cons, List.map_nil, List.length_cons, List.length_nil, List.replicate, List.cons_append, List.nil_append, List.getElem?_cons_zero, List.getElem?_cons_succ, List.set_cons_zero, List.set_cons_succ, look_int, look_bl, look_non, look_str, look_tup, look_lst, look_dic, look_scr, look_ty, look_ref,
    w_gtI, w_modI, w_divI, w_addI, w_subI, w_mulI, w_geI, w_ltI, w_leI, w_eqI, w_neI, true_and, ints2, Nat.reduceAdd, Nat.reduceSub]
      refine ⟨by unfold rlim; omega, ?_⟩
      refine Ok.forL (k := 0) (fun j s => ∃ ls y8 y9 t', s = ⟨[.val (.ref 0), .val (.int most), .val (.int wide), .val (.int (many : Int)), .own (.lst (mo.map D.int)), .own (.lst (ls.map wireD)), x6, .val (.int (u : Int)), y8, y9, .un], t'⟩ ∧ (∀ w ∈ ls, WireOk many w) ∧ sortedW (0, 0) ls ∧ ls.length ≤ 10 * u + j ∧ u + j < many ∧
        ((lastW (0, 0) ls).1 < u ∨ ((lastW (0, 0) ls).1 = u ∧ (lastW (0, 0) ls).2 < u + 1 + j)) ∧ At cs t' (b + 20 + 30 * u + 5 * j)) ⟨ls, _, _, _, rfl, hw, hso, by omega, by omega, by omega, hat.mono (by omega)⟩ ?_ ?_
      · rintro j x _ hx ⟨ls, y8, y9, t', rfl, hw, hso, hll, hu, hla, hat⟩
        obtain ⟨hj2, rfl⟩ := rng_at hx
        rw [Nat.zero_add] at hll hla hat hu
        have hj3 : u + j + 1 < many := by omega
        simp -implicitDefEqProofs only [w_fn, w_seq, w_if, w_sB, w_tru, w_s2, w_s1, w_rd1, w_rd2, w_var, w_C, w_lookV, w_lookO, w_lookS, w_set, w_putV, w_putO, w_asg, w_gSub, w_gN, w_gT, w_gsN, w_gsC, w_toDV, w_toDO, w_toDS, w_updR, w_updS, w_ret, w_moveV, w_moveO, w_moveS, w_skip, w_and, w_or, w_not, w_andV, w_orV, w_notV, w_chain, w_lst, w_tup, w_nil, w_cons, w_call, w_drop, w_augS, w_M, w_app, w_par, w_putAll0, w_putAll1, w_kNil, w_kCons, w_keepV, w_keepO, w_for, w_lc, w_it, w_itK, w_enum, w_zip, w_callS, w_zipX, w_rng1, w_rng2, w_pure, w_cell, w_no, w_part, w_sl, w_slT, w_slL, ok_ok,
    List.map_cons, List.map_nil, List.length_cons, List.length_nil, List.replicate, List.cons_append, List.nil_append, List.getElem?_cons_zero, List.getElem?_cons_succ, List.set_cons_zero, List.set_cons_succ, look_int, look_bl, look_non, look_str, look_tup, look_lst, look_dic, look_scr, look_ty, look_ref,
    w_gtI, w_modI, w_divI, w_addI, w_subI, w_mulI, w_geI, w_ltI, w_leI, w_eqI, w_neI, true_and, Nat.reduceAdd, Nat.reduceSub]
        refine (draw_at hc hat (by omega) (by decide) (by decide)).imp ?_
        rintro r s ⟨v, t2, rfl, v0, v1, rfl, hat2⟩
        simp -implicitDefEqProofs only [w_fn, w_seq, w_if, w_sB, w_tru, w_s2, w_s1, w_rd1, w_rd2, w_var, w_C, w_lookV, w_lookO, w_lookS, w_set, w_putV, w_putO, w_asg, w_gSub, w_gN, w_gT, w_gsN, w_gsC, w_toDV, w_toDO, w_toDS, w_updR, w_updS, w_ret, w_moveV, w_moveO, w_moveS, w_skip, w_and, w_or, w_not, w_andV, w_orV, w_notV, w_chain, w_lst, w_tup, w_nil, w_cons, w_call, w_drop, w_augS, w_M, w_app, w_par, w_putAll0, w_putAll1, w_kNil, w_kCons, w_keepV, w_keepO, w_for, w_lc, w_it, w_itK, w_enum, w_zip, w_callS, w_zipX, w_rng1, w_rng2, w_pure, w_cell, w_no, w_part, w_sl, w_slT, w_slL, ok_ok,
    List.map_cons, List.map_nil, List.length_cons, List.length_nil, List.replicate, List.cons_append, List.nil_append, List.getElem?_cons_zero, List.getElem?_cons_succ, List.set_cons_zero, List.set_cons_succ, look_int, look_bl, look_non, look_str, look_tup, look_lst, look_dic, look_scr, look_ty, look_ref,
    w_gtI, w_modI, w_divI, w_addI, w_subI, w_mulI, w_geI, w_ltI, w_leI, w_eqI, w_neI, true_and, Nat.reduceAdd, Nat.reduceSub]
        by_cases c : v = 0
        · simp only [c, decide_true, if_true, w_fn, w_seq, w_if, w_sB, w_tru, w_s2, w_s1, w_rd1, w_rd2, w_var, w_C, w_lookV, w_lookO, w_lookS, w_set, w_putV, w_putO, w_asg, w_gSub, w_gN, w_gT, w_gsN, w_gsC, w_toDV, w_toDO, w_toDS, w_updR, w_updS, w_ret, w_moveV, w_moveO, w_moveS, w_skip, w_and, w_or, w_not, w_andV, w_orV, w_notV, w_chain, w_lst, w_tup, w_nil, w_cons, w_call, w_drop, w_augS, w_M, w_app, w_par, w_putAll0, w_putAll1, w_kNil, w_kCons, w_keepV, w_keepO, w_for, w_lc, w_it, w_itK, w_enum, w_zip, w_callS, w_zipX, w_rng1, w_rng2, w_pure, w_cell, w_no, w_part, w_sl, w_slT, w_slL, ok_ok,
    List.map_cons, List.map_nil, List.length_cons, List.length_nil, List.replicate, List.cons_append, List.nil_append, List.getElem?_cons_zero, List.getElem?_cons_succ, List.set_cons_zero, List.set_cons_succ, look_int, look_bl, look_non, look_str, look_tup, look_lst, look_dic, look_scr, look_ty, look_ref,
    w_gtI, w_modI, w_divI, w_addI, w_subI, w_mulI, w_geI, w_ltI, w_leI, w_eqI, w_neI, neg_int, true_and, Nat.reduceAdd, Nat.reduceSub]
          refine (draw_at hc hat2 (by omega) (by decide) (by decide)).imp ?_
          rintro r s ⟨v2, t3, rfl, v20, v21, rfl, hat3⟩
          simp -implicitDefEqProofs only [w_fn, w_seq, w_if, w_sB, w_tru, w_s2, w_s1, w_rd1, w_rd2, w_var, w_C, w_lookV, w_lookO, w_lookS, w_set, w_putV, w_putO, w_asg, w_gSub, w_gN, w_gT, w_gsN, w_gsC, w_toDV, w_toDO, w_toDS, w_updR, w_updS, w_ret, w_moveV, w_moveO, w_moveS, w_skip, w_and, w_or, w_not, w_andV, w_orV, w_notV, w_chain, w_lst, w_tup, w_nil, w_cons, w_call, w_drop, w_augS, w_M, w_app, w_par, w_putAll0, w_putAll1, w_kNil, w_kCons, w_keepV, w_keepO, w_for, w_lc, w_it, w_itK, w_enum, w_zip, w_callS, w_zipX, w_rng1, w_rng2, w_pure, w_cell, w_no, w_part, w_sl, w_slT, w_slL, ok_ok,
    List.map_cons, List.map_nil, List.length_cons, List.length_nil, List.replicate, List.cons_append, List.nil_append, List.getElem?_cons_zero, List.getElem?_cons_succ, List.set_cons_zero, List.set_cons_succ, look_int, look_bl, look_non, look_str, look_tup, look_lst, look_dic, look_scr, look_ty, look_ref,
    w_gtI, w_modI, w_divI, w_addI, w_subI, w_mulI, w_geI, w_ltI, w_leI, w_eqI, w_neI, neg_int, true_and, Nat.reduceAdd, Nat.reduceSub]
          refine (draw_at hc hat3 (by omega) (by decide) (by decide)).imp ?_
          rintro r s ⟨v3, t4, rfl, v30, v31, rfl, hat4⟩
          simp -implicitDefEqProofs only [w_fn, w_seq, w_if, w_sB, w_tru, w_s2, w_s1, w_rd1, w_rd2, w_var, w_C, w_lookV, w_lookO, w_lookS, w_set, w_putV, w_putO, w_asg, w_gSub, w_gN, w_gT, w_gsN, w_gsC, w_toDV, w_toDO, w_toDS, w_updR, w_updS, w_ret, w_moveV, w_moveO, w_moveS, w_skip, w_and, w_or, w_not, w_andV, w_orV, w_notV, w_chain, w_lst, w_tup, w_nil, w_cons, w_call, w_drop, w_augS, w_M, w_app, w_par, w_putAll0, w_putAll1, w_kNil, w_kCons, w_keepV, w_keepO, w_for, w_lc, w_it, w_itK, w_enum, w_zip, w_callS, w_zipX, w_rng1, w_rng2, w_pure, w_cell, w_no, w_part, w_sl, w_slT, w_slL, ok_ok,
    List.map_cons, List.map_nil, List.length_cons, List.length_nil, List.replicate, List.cons_append, List.nil_append, List.getElem?_cons_zero, List.getElem?_cons_succ, List.set_cons_zero, List.set_cons_succ, look_int, look_bl, look_non, look_str, look_tup, look_lst, look_dic, look_scr, look_ty, look_ref,
    w_gtI, w_modI, w_divI, w_addI, w_subI, w_mulI, w_geI, w_ltI, w_leI, w_eqI, w_neI, isL, true_and, Nat.reduceAdd, Nat.reduceSub]
          refine ⟨by decide, ?_⟩
          refine (pick_at (l := [1, -1, 1 + v2, -1 - v3]) hc hat4 (by omega) (by show 1 ≤ 4; decide) (by show 4 ≤ 1000000; decide)).imp ?_
          rintro r s ⟨w, t5, rfl, hz, rfl, hat5⟩
          simp only [List.mem_cons, List.not_mem_nil, or_false] at hz
          have ap := appW (l := ls) (u := (u : Int)) (v := (u : Int) + 1 + (j : Int)) (w := w) (by show _ < 1000000; omega)
          simp -implicitDefEqProofs only [w_fn, w_seq, w_if, w_sB, w_tru, w_s2, w_s1, w_rd1, w_rd2, w_var, w_C, w_lookV, w_lookO, w_lookS, w_set, w_putV, w_putO, w_asg, w_gSub, w_gN, w_gT, w_gsN, w_gsC, w_toDV, w_toDO, w_toDS, w_updR, w_updS, w_ret, w_moveV, w_moveO, w_moveS, w_skip, w_and, w_or, w_not, w_andV, w_orV, w_notV, w_chain, w_lst, w_tup, w_nil, w_cons, w_call, w_drop, w_augS, w_M, w_app, w_par, w_putAll0, w_putAll1, w_kNil, w_kCons, w_keepV, w_keepO, w_for, w_lc, w_it, w_itK, w_enum, w_zip, w_callS, w_zipX, w_rng1, w_rng2, w_pure, w_cell, w_no, w_part, w_sl, w_slT, w_slL, ok_ok,
    List.map_cons, List.map_nil, List.length_cons, List.length_nil, List.replicate, List.cons_append, List.nil_append, List.getElem?_cons_zero, List.getElem?_cons_succ, List.set_cons_zero, List.set_cons_succ, look_int, look_bl, look_non, look_str, look_tup, look_lst, look_dic, look_scr, look_ty, look_ref,
    w_gtI, w_modI, w_divI, w_addI, w_subI, w_mulI, w_geI, w_ltI, w_leI, w_eqI, w_neI, isL, ap, true_and, Nat.reduceAdd, Nat.reduceSub]
          refine ⟨by decide, ls ++ [((u : Int), (u : Int) + 1 + (j : Int), w)], _, _, t5, rfl, ?_, sorted_app hso (by simp only; omega), by rw [List.length_append, List.length_singleton]; omega, by omega, ?_, hat5.mono (by omega)⟩
          · intro x hx
            rcases List.mem_append.mp hx with y | y
            · exact hw x y
            · rw [List.mem_singleton.mp y]
              exact ⟨by show (0 : Int) ≤ u; omega, by show (u : Int) < u + 1 + j; omega, by show (u : Int) + 1 + j < many; omega, by show -100 ≤ w; omega, by show w ≤ 100; omega, by show w ≠ 0; omega⟩
          · rw [last_app]; right; exact ⟨rfl, by show (u : Int) + 1 + (j : Int) < _; omega⟩
        · simp only [c, decide_false, Bool.false_eq_true, if_false, w_fn, w_seq, w_if, w_sB, w_tru, w_s2, w_s1, w_rd1, w_rd2, w_var, w_C, w_lookV, w_lookO, w_lookS, w_set, w_putV, w_putO, w_asg, w_gSub, w_gN, w_gT, w_gsN, w_gsC, w_toDV, w_toDO, w_toDS, w_updR, w_updS, w_ret, w_moveV, w_moveO, w_moveS, w_skip, w_and, w_or, w_not, w_andV, w_orV, w_notV, w_chain, w_lst, w_tup, w_nil, w_cons, w_call, w_drop, w_augS, w_M, w_app, w_par, w_putAll0, w_putAll1, w_kNil, w_kCons, w_keepV, w_keepO, w_for, w_lc, w_it, w_itK, w_enum, w_zip, w_callS, w_zipX, w_rng1, w_rng2, w_pure, w_cell, w_no, w_part, w_sl, w_slT, w_slL, ok_ok,
    List.map_cons, List.map_nil, List.length_cons, List.length_nil, List.replicate, List.cons_append, List.nil_append, List.getElem?_cons_zero, List.getElem?_cons_succ, List.set_cons_zero, List.set_cons_succ, look_int, look_bl, look_non, look_str, look_tup, look_lst, look_dic, look_scr, look_ty, look_ref,
    w_gtI, w_modI, w_divI, w_addI, w_subI, w_mulI, w_geI, w_ltI, w_leI, w_eqI, w_neI]
          exact ⟨ls, _, _, t2, rfl, hw, hso, by omega, by omega, by omega, hat2.mono (by omega)⟩
      · rintro s1 ⟨ls, y8, y9, t', rfl, hw, hso, hll, hu, hla, hat⟩
        have hrl2 : (rangeD ((u : Int) + 1) ((many : Int) - ((u : Int) + 1)).toNat).length = many - (u + 1) := by
          unfold rangeD
          rw [List.length_map, List.length_range]
          omega
        rw [hrl2] at hll hu hla hat
        exact ⟨ls, _, _, _, t', rfl, hw, hso, by omega, by omega, by omega, hat.mono (by omega)⟩
    · rintro s1 ⟨ls, y7, y8, y9, t', rfl, hw, hso, hll, hu, hla, hat⟩
      rw [hrl, Nat.zero_add] at hat
      simp -implicitDefEqProofs only [w_fn, w_seq, w_if, w_sB, w_tru, w_s2, w_s1, w_rd1, w_rd2, w_var, w_C, w_lookV, w_lookO, w_lookS, w_set, w_putV, w_putO, w_asg, w_gSub, w_gN, w_gT, w_gsN, w_gsC, w_toDV, w_toDO, w_toDS, w_updR, w_updS, w_ret, w_moveV, w_moveO, w_moveS, w_skip, w_and, w_or, w_not, w_andV, w_orV, w_notV, w_chain, w_lst, w_tup, w_nil, w_cons, w_call, w_drop, w_augS, w_M, w_app, w_par, w_putAll0, w_putAll1, w_kNil, w_kCons, w_keepV, w_keepO, w_for, w_lc, w_it, w_itK, w_enum, w_zip, w_callS, w_zipX, w_rng1, w_rng2, w_pure, w_cell, w_no, w_part, w_sl, w_slT, w_slL, ok_ok,
    List.map_cons, List.map_nil, List.length_cons, List.length_nil, List.replicate, List.cons_append, List.nil_append, List.getElem?_cons_zero, List.getElem?_cons_succ, List.set_cons_zero, List.set_cons_succ, look_int, look_bl, look_non, look_str, look_tup, look_lst, look_dic, look_scr, look_ty, look_ref,
    w_gtI, w_modI, w_divI, w_addI, w_subI, w_mulI, w_geI, w_ltI, w_leI, w_eqI, w_neI, ints1, hmt, true_and]
      refine ⟨by unfold rlim; omega, ?_⟩
      refine Ok.lcL (k := 0) (fun i ac s => ∃ il x6 t', ac = il.map D.int ∧ s = ⟨[.val (.ref 0), .val (.int most), .val (.int wide), .val (.int (many : Int)), .own (.lst (mo.map D.int)), .own (.lst (ls.map wireD)), x6, y7, y8, y9, .un], t'⟩ ∧ sortedI 0 il ∧ (∀ k ∈ il, 0 ≤ k ∧ k < i) ∧ il.length ≤ i ∧ i ≤ many ∧ At cs t' (b + 200 + i)) ⟨[], _, _, rfl, rfl, trivial, (fun _ z => nomatch z), Nat.le_refl _, Nat.zero_le _, hat.mono (by omega)⟩ ?_ ?_
      · rintro i x ac _ hx ⟨il, z6, t', rfl, rfl, hso2, hin, hil, hi, hat⟩
        rw [Nat.zero_add] at hin hil hi hat ⊢
        obtain ⟨hi2, rfl⟩ := rng_at hx
        simp -implicitDefEqProofs only [w_fn, w_seq, w_if, w_sB, w_tru, w_s2, w_s1, w_rd1, w_rd2, w_var, w_C, w_lookV, w_lookO, w_lookS, w_set, w_putV, w_putO, w_asg, w_gSub, w_gN, w_gT, w_gsN, w_gsC, w_toDV, w_toDO, w_toDS, w_updR, w_updS, w_ret, w_moveV, w_moveO, w_moveS, w_skip, w_and, w_or, w_not, w_andV, w_orV, w_notV, w_chain, w_lst, w_tup, w_nil, w_cons, w_call, w_drop, w_augS, w_M, w_app, w_par, w_putAll0, w_putAll1, w_kNil, w_kCons, w_keepV, w_keepO, w_for, w_lc, w_it, w_itK, w_enum, w_zip, w_callS, w_zipX, w_rng1, w_rng2, w_pure, w_cell, w_no, w_part, w_sl, w_slT, w_slL, ok_ok,
    List.map_cons, List.map_nil, List.length_cons, List.length_nil, List.replicate, List.cons_append, List.nil_append, List.getElem?_cons_zero, List.getElem?_cons_succ, List.set_cons_zero, List.set_cons_succ, look_int, look_bl, look_non, look_str, look_tup, look_lst, look_dic, look_scr, look_ty, look_ref,
    w_gtI, w_modI, w_divI, w_addI, w_subI, w_mulI, w_geI, w_ltI, w_leI, w_eqI, w_neI, Nat.reduceAdd, Nat.reduceSub, true_and]
        refine (draw_at hc hat (by omega) (by decide) (by decide)).imp ?_
        rintro r s ⟨v, t2, rfl, v0, v1, rfl, hat2⟩
        simp -implicitDefEqProofs only [w_fn, w_seq, w_if, w_sB, w_tru, w_s2, w_s1, w_rd1, w_rd2, w_var, w_C, w_lookV, w_lookO, w_lookS, w_set, w_putV, w_putO, w_asg, w_gSub, w_gN, w_gT, w_gsN, w_gsC, w_toDV, w_toDO, w_toDS, w_updR, w_updS, w_ret, w_moveV, w_moveO, w_moveS, w_skip, w_and, w_or, w_not, w_andV, w_orV, w_notV, w_chain, w_lst, w_tup, w_nil, w_cons, w_call, w_drop, w_augS, w_M, w_app, w_par, w_putAll0, w_putAll1, w_kNil, w_kCons, w_keepV, w_keepO, w_for, w_lc, w_it, w_itK, w_enum, w_zip, w_callS, w_zipX, w_rng1, w_rng2, w_pure, w_cell, w_no, w_part, w_sl, w_slT, w_slL, ok_ok,
    List.map_cons, List.map_nil, List.length_cons, List.length_nil, List.replicate, List.cons_append, List.nil_append, List.getElem?_cons_zero, List.getElem?_cons_succ, List.set_cons_zero, List.set_cons_succ, look_int, look_bl, look_non, look_str, look_tup, look_lst, look_dic, look_scr, look_ty, look_ref,
    w_gtI, w_modI, w_divI, w_addI, w_subI, w_mulI, w_geI, w_ltI, w_leI, w_eqI, w_neI]
        by_cases c : 0 < v
        · simp only [c, decide_true, if_true, w_fn, w_seq, w_if, w_sB, w_tru, w_s2, w_s1, w_rd1, w_rd2, w_var, w_C, w_lookV, w_lookO, w_lookS, w_set, w_putV, w_putO, w_asg, w_gSub, w_gN, w_gT, w_gsN, w_gsC, w_toDV, w_toDO, w_toDS, w_updR, w_updS, w_ret, w_moveV, w_moveO, w_moveS, w_skip, w_and, w_or, w_not, w_andV, w_orV, w_notV, w_chain, w_lst, w_tup, w_nil, w_cons, w_call, w_drop, w_augS, w_M, w_app, w_par, w_putAll0, w_putAll1, w_kNil, w_kCons, w_keepV, w_keepO, w_for, w_lc, w_it, w_itK, w_enum, w_zip, w_callS, w_zipX, w_rng1, w_rng2, w_pure, w_cell, w_no, w_part, w_sl, w_slT, w_slL, ok_ok,
    List.map_cons, List.map_nil, List.length_cons, List.length_nil, List.replicate, List.cons_append, List.nil_append, List.getElem?_cons_zero, List.getElem?_cons_succ, List.set_cons_zero, List.set_cons_succ, look_int, look_bl, look_non, look_str, look_tup, look_lst, look_dic, look_scr, look_ty, look_ref,
    w_gtI, w_modI, w_divI, w_addI, w_subI, w_mulI, w_geI, w_ltI, w_leI, w_eqI, w_neI]
          refine ⟨by rw [List.length_map]; show _ < 1000000; omega, il ++ [(i : Int)], _, t2, by rw [List.map_append, Int.zero_add]; rfl, rfl, sortedI_app hso2 (fun k hk => by have := hin k hk; omega) (by omega), ?_, by rw [List.length_append, List.length_singleton]; omega, by omega, hat2.mono (by omega)⟩
          intro k hk
          rcases List.mem_append.mp hk with z | z
          · have := hin k z; omega
          · rw [List.mem_singleton.mp z]; omega
        · simp only [c, decide_false, Bool.false_eq_true, if_false, w_fn, w_seq, w_if, w_sB, w_tru, w_s2, w_s1, w_rd1, w_rd2, w_var, w_C, w_lookV, w_lookO, w_lookS, w_set, w_putV, w_putO, w_asg, w_gSub, w_gN, w_gT, w_gsN, w_gsC, w_toDV, w_toDO, w_toDS, w_updR, w_updS, w_ret, w_moveV, w_moveO, w_moveS, w_skip, w_and, w_or, w_not, w_andV, w_orV, w_notV, w_chain, w_lst, w_tup, w_nil, w_cons, w_call, w_drop, w_augS, w_M, w_app, w_par, w_putAll0, w_putAll1, w_kNil, w_kCons, w_keepV, w_keepO, w_for, w_lc, w_it, w_itK, w_enum, w_zip, w_callS, w_zipX, w_rng1, w_rng2, w_pure, w_cell, w_no, w_part, w_sl, w_slT, w_slL, ok_ok,
    List.map_cons, List.map_nil, List.length_cons, List.length_nil, List.replicate, List.cons_append, List.nil_append, List.getElem?_cons_zero, List.getElem?_cons_succ, List.set_cons_zero, List.set_cons_succ, look_int, look_bl, look_non, look_str, look_tup, look_lst, look_dic, look_scr, look_ty, look_ref,
    w_gtI, w_modI, w_divI, w_addI, w_subI, w_mulI, w_geI, w_ltI, w_leI, w_eqI, w_neI]
          exact ⟨il, _, t2, rfl, rfl, hso2, fun k hk => by have := hin k hk; omega, by omega, by omega, hat2.mono (by omega)⟩
      · rintro ac s1 ⟨il, z6, t', rfl, rfl, hso2, hin, hil, hi, hat⟩
        rw [hrl, Nat.zero_add] at hin hil hat
        simp -implicitDefEqProofs only [w_fn, w_seq, w_if, w_sB, w_tru, w_s2, w_s1, w_rd1, w_rd2, w_var, w_C, w_lookV, w_lookO, w_lookS, w_set, w_putV, w_putO, w_asg, w_gSub, w_gN, w_gT, w_gsN, w_gsC, w_toDV, w_toDO, w_toDS, w_updR, w_updS, w_ret, w_moveV, w_moveO, w_moveS, w_skip, w_and, w_or, w_not, w_andV, w_orV, w_notV, w_chain, w_lst, w_tup, w_nil, w_cons, w_call, w_drop, w_augS, w_M, w_app, w_par, w_putAll0, w_putAll1, w_kNil, w_kCons, w_keepV, w_keepO, w_for, w_lc, w_it, w_itK, w_enum, w_zip, w_callS, w_zipX, w_rng1, w_rng2, w_pure, w_cell, w_no, w_part, w_sl, w_slT, w_slL, ok_ok,
    List.map_cons, List.map_nil, List.length_cons, List.length_nil, List.replicate, List.cons_append, List.nil_append, List.getElem?_cons_zero, List.getElem?_cons_succ, List.set_cons_zero, List.set_cons_succ, look_int, look_bl, look_non, look_str, look_tup, look_lst, look_dic, look_scr, look_ty, look_ref,
    w_gtI, w_modI, w_divI, w_addI, w_subI, w_mulI, w_geI, w_ltI, w_leI, w_eqI, w_neI, restE, tupM]
        refine ⟨by decide, ⟨mo, ls, il⟩, t', rfl, ⟨by show 1 ≤ mo.length; omega, by show mo.length ≤ 10; omega, fun m hm => by have := hr m hm; omega, fun w hw' => by have := hw w hw'; unfold WireOk at this; rw [show (mo.length : Int) = many by omega]; exact this, hso, hso2, fun k hk => by have := hin k hk; show 0 ≤ k ∧ k < (mo.length : Int); omega⟩, by show (mo.length : Int) ≤ most; omega, rfl, hat.mono (by omega)⟩
end
end L06

namespace L06
open PySem DL L2
section
variable {s : DS} {QR : R → DS → Prop} {QU : Unit → DS → Prop} {QC : Ctl → DS → Prop} {n m b : Int} {d : D} {ds : List D} {e : List Slot} {t : List D} {N : Net} {ns st go ps v mo il cs : List Int} {i j : Nat}
theorem wide_at (hc : cs ≠ []) (h : At cs t b) (hb : b ≤ 900000) : Ok (r__law_wide [.ref 0] ⟨e, t⟩) fun r s => ∃ v t', r = .val (.int v) ∧ (-100000000000000000000 ≤ v ∧ v ≤ 100000000000000000000) ∧ s = ⟨e, t'⟩ ∧ At cs t' (b + 6) := by
  unfold r__law_wide m__law_wide
  simp -implicitDefEqProofs only [w_fn, w_seq, w_if, w_sB, w_tru, w_s2, w_s1, w_rd1, w_rd2, w_var, w_C, w_lookV, w_lookO, w_lookS, w_set, w_putV, w_putO, w_asg, w_gSub, w_gN, w_gT, w_gsN, w_gsC, w_toDV, w_toDO, w_toDS, w_updR, w_updS, w_ret, w_moveV, w_moveO, w_moveS, w_skip, w_and, w_or, w_not, w_andV, w_orV, w_notV, w_chain, w_lst, w_tup, w_nil, w_cons, w_call, w_drop, w_augS, w_M, w_app, w_par, w_putAll0, w_putAll1, w_kNil, w_kCons, w_keepV, w_keepO, w_for, w_lc, w_it, w_itK, w_enum, w_zip, w_callS, w_zipX, w_rng1, w_rng2, w_pure, w_cell, w_no, w_part, w_sl, w_slT, w_slL, ok_ok,
    List.map_cons, List.map_nil, List.length_cons, List.length_nil, List.replicate, List.cons_append, List.nil_append, List.getElem?_cons_zero, List.getElem?_cons_succ, List.set_cons_zero, List.set_cons_succ, look_int, look_bl, look_non, look_str, look_tup, look_lst, look_dic, look_scr, look_ty, look_ref,
    w_gtI, w_modI, w_divI, w_addI, w_subI, w_mulI, w_geI, w_ltI, w_leI, w_eqI, w_neI, Nat.reduceAdd, Nat.reduceSub, true_and]
  refine (draw_at hc h (by omega) (by decide) (by decide)).imp ?_
  rintro r s ⟨v, t1, rfl, v0, v1, rfl, hat1⟩
  simp -implicitDefEqProofs only [w_fn, w_seq, w_if, w_sB, w_tru, w_s2, w_s1, w_rd1, w_rd2, w_var, w_C, w_lookV, w_lookO, w_lookS, w_set, w_putV, w_putO, w_asg, w_gSub, w_gN, w_gT, w_gsN, w_gsC, w_toDV, w_toDO, w_toDS, w_updR, w_updS, w_ret, w_moveV, w_moveO, w_moveS, w_skip, w_and, w_or, w_not, w_andV, w_orV, w_notV, w_chain, w_lst, w_tup, w_nil, w_cons, w_call, w_drop, w_augS, w_M, w_app, w_par, w_putAll0, w_putAll1, w_kNil, w_kCons, w_keepV, w_keepO, w_for, w_lc, w_it, w_itK, w_enum, w_zip, w_callS, w_zipX, w_rng1, w_rng2, w_pure, w_cell, w_no, w_part, w_sl, w_slT, w_slL, ok_ok,
    List.map_cons, List.map_nil, List.length_cons, List.length_nil, List.replicate, List.cons_append, List.nil_append, List.getElem?_cons_zero, List.getElem?_cons_succ, List.set_cons_zero, List.set_cons_succ, look_int, look_bl, look_non, look_str, look_tup, look_lst, look_dic, look_scr, look_ty, look_ref,
    w_gtI, w_modI, w_divI, w_addI, w_subI, w_mulI, w_geI, w_ltI, w_leI, w_eqI, w_neI, ints1, Nat.reduceAdd, Nat.reduceSub, true_and]
  refine ⟨by unfold rlim; omega, ?_⟩
  have hrl : (rangeD 0 (1 + v).toNat).length = (1 + v).toNat := rng_len
  refine Ok.forL (k := 0) (fun i s => ∃ (f : Int) (x2 : DL.Slot) (t' : List D), s = ⟨[.val (.ref 0), .val (.int f), x2], t'⟩ ∧ i ≤ 4 ∧ (0 ≤ f ∧ f < 100000 ^ i) ∧ At cs t' (b + 1 + i)) ⟨0, _, t1, rfl, by decide, ⟨by decide, by decide⟩, hat1.mono (by omega)⟩ ?_ ?_
  · rintro i x _ hx ⟨f, x2, t', rfl, hi, hf, hat⟩
    rw [Nat.zero_add] at hi hf hat ⊢
    obtain ⟨hi2, rfl⟩ := rng_at hx
    have hi3 : i < 4 := by omega
    have hp : (100000 : Int) ^ i ≤ 1000000000000000 := by
      rcases (show i = 0 ∨ i = 1 ∨ i = 2 ∨ i = 3 by omega) with h | h | h | h <;> subst h <;> decide
    have sm := mulS (n := f) (m := 100000) (by omega) (by omega) (by decide) (by decide)
    simp -implicitDefEqProofs only [w_fn, w_seq, w_if, w_sB, w_tru, w_s2, w_s1, w_rd1, w_rd2, w_var, w_C, w_lookV, w_lookO, w_lookS, w_set, w_putV, w_putO, w_asg, w_gSub, w_gN, w_gT, w_gsN, w_gsC, w_toDV, w_toDO, w_toDS, w_updR, w_updS, w_ret, w_moveV, w_moveO, w_moveS, w_skip, w_and, w_or, w_not, w_andV, w_orV, w_notV, w_chain, w_lst, w_tup, w_nil, w_cons, w_call, w_drop, w_augS, w_M, w_app, w_par, w_putAll0, w_putAll1, w_kNil, w_kCons, w_keepV, w_keepO, w_for, w_lc, w_it, w_itK, w_enum, w_zip, w_callS, w_zipX, w_rng1, w_rng2, w_pure, w_cell, w_no, w_part, w_sl, w_slT, w_slL, ok_ok,
    List.map_cons, List.map_nil, List.length_cons, List.length_nil, List.replicate, List.cons_append, List.nil_append, List.getElem?_cons_zero, List.getElem?_cons_succ, List.set_cons_zero, List.set_cons_succ, look_int, look_bl, look_non, look_str, look_tup, look_lst, look_dic, look_scr, look_ty, look_ref,
    w_gtI, w_modI, w_divI, w_addI, w_subI, w_mulI, w_geI, w_ltI, w_leI, w_eqI, w_neI, sm, Nat.reduceAdd, Nat.reduceSub, true_and]
    refine (draw_at hc hat (by omega) (by decide) (by decide)).imp ?_
    rintro r s ⟨w, t2, rfl, w0, w1, rfl, hat2⟩
    simp -implicitDefEqProofs only [w_fn, w_seq, w_if, w_sB, w_tru, w_s2, w_s1, w_rd1, w_rd2, w_var, w_C, w_lookV, w_lookO, w_lookS, w_set, w_putV, w_putO, w_asg, w_gSub, w_gN, w_gT, w_gsN, w_gsC, w_toDV, w_toDO, w_toDS, w_updR, w_updS, w_ret, w_moveV, w_moveO, w_moveS, w_skip, w_and, w_or, w_not, w_andV, w_orV, w_notV, w_chain, w_lst, w_tup, w_nil, w_cons, w_call, w_drop, w_augS, w_M, w_app, w_par, w_putAll0, w_putAll1, w_kNil, w_kCons, w_keepV, w_keepO, w_for, w_lc, w_it, w_itK, w_enum, w_zip, w_callS, w_zipX, w_rng1, w_rng2, w_pure, w_cell, w_no, w_part, w_sl, w_slT, w_slL, ok_ok,
    List.map_cons, List.map_nil, List.length_cons, List.length_nil, List.replicate, List.cons_append, List.nil_append, List.getElem?_cons_zero, List.getElem?_cons_succ, List.set_cons_zero, List.set_cons_succ, look_int, look_bl, look_non, look_str, look_tup, look_lst, look_dic, look_scr, look_ty, look_ref,
    w_gtI, w_modI, w_divI, w_addI, w_subI, w_mulI, w_geI, w_ltI, w_leI, w_eqI, w_neI]
    refine ⟨_, _, t2, rfl, by omega, ⟨by omega, ?_⟩, hat2.mono (by omega)⟩
    rw [Int.pow_succ]; omega
  · rintro s1 ⟨f, x2, t', rfl, hi, hf, hat⟩
    rw [hrl, Nat.zero_add] at hi hf hat
    have hp : (100000 : Int) ^ (1 + v).toNat ≤ 100000000000000000000 := by
      rcases (show (1 + v).toNat = 1 ∨ (1 + v).toNat = 2 ∨ (1 + v).toNat = 3 ∨ (1 + v).toNat = 4 by omega) with h | h | h | h <;> rw [h] <;> decide
    simp -implicitDefEqProofs only [w_fn, w_seq, w_if, w_sB, w_tru, w_s2, w_s1, w_rd1, w_rd2, w_var, w_C, w_lookV, w_lookO, w_lookS, w_set, w_putV, w_putO, w_asg, w_gSub, w_gN, w_gT, w_gsN, w_gsC, w_toDV, w_toDO, w_toDS, w_updR, w_updS, w_ret, w_moveV, w_moveO, w_moveS, w_skip, w_and, w_or, w_not, w_andV, w_orV, w_notV, w_chain, w_lst, w_tup, w_nil, w_cons, w_call, w_drop, w_augS, w_M, w_app, w_par, w_putAll0, w_putAll1, w_kNil, w_kCons, w_keepV, w_keepO, w_for, w_lc, w_it, w_itK, w_enum, w_zip, w_callS, w_zipX, w_rng1, w_rng2, w_pure, w_cell, w_no, w_part, w_sl, w_slT, w_slL, ok_ok,
    List.map_cons, List.map_nil, List.length_cons, List.length_nil, List.replicate, List.cons_append, List.nil_append, List.getElem?_cons_zero, List.getElem?_cons_succ, List.set_cons_zero, List.set_cons_succ, look_int, look_bl, look_non, look_str, look_tup, look_lst, look_dic, look_scr, look_ty, look_ref,
    w_gtI, w_modI, w_divI, w_addI, w_subI, w_mulI, w_geI, w_ltI, w_leI, w_eqI, w_neI, Nat.reduceAdd, Nat.reduceSub, true_and]
    refine (draw_at hc hat (by omega) (by decide) (by decide)).imp ?_
    rintro r s ⟨w, t2, rfl, w0, w1, rfl, hat2⟩
    simp -implicitDefEqProofs only [w_fn, w_seq, w_if, w_sB, w_tru, w_s2, w_s1, w_rd1, w_rd2, w_var, w_C, w_lookV, w_lookO, w_lookS, w_set, w_putV, w_putO, w_asg, w_gSub, w_gN, w_gT, w_gsN, w_gsC, w_toDV, w_toDO, w_toDS, w_updR, w_updS, w_ret, w_moveV, w_moveO, w_moveS, w_skip, w_and, w_or, w_not, w_andV, w_orV, w_notV, w_chain, w_lst, w_tup, w_nil, w_cons, w_call, w_drop, w_augS, w_M, w_app, w_par, w_putAll0, w_putAll1, w_kNil, w_kCons, w_keepV, w_keepO, w_for, w_lc, w_it, w_itK, w_enum, w_zip, w_callS, w_zipX, w_rng1, w_rng2, w_pure, w_cell, w_no, w_part, w_sl, w_slT, w_slL, ok_ok,
    List.map_cons, List.map_nil, List.length_cons, List.length_nil, List.replicate, List.cons_append, List.nil_append, List.getElem?_cons_zero, List.getElem?_cons_succ, List.set_cons_zero, List.set_cons_succ, look_int, look_bl, look_non, look_str, look_tup, look_lst, look_dic, look_scr, look_ty, look_ref,
    w_gtI, w_modI, w_divI, w_addI, w_subI, w_mulI, w_geI, w_ltI, w_leI, w_eqI, w_neI]
    by_cases c : w = 0
    · simp only [c, decide_true, if_true, w_fn, w_seq, w_if, w_sB, w_tru, w_s2, w_s1, w_rd1, w_rd2, w_var, w_C, w_lookV, w_lookO, w_lookS, w_set, w_putV, w_putO, w_asg, w_gSub, w_gN, w_gT, w_gsN, w_gsC, w_toDV, w_toDO, w_toDS, w_updR, w_updS, w_ret, w_moveV, w_moveO, w_moveS, w_skip, w_and, w_or, w_not, w_andV, w_orV, w_notV, w_chain, w_lst, w_tup, w_nil, w_cons, w_call, w_drop, w_augS, w_M, w_app, w_par, w_putAll0, w_putAll1, w_kNil, w_kCons, w_keepV, w_keepO, w_for, w_lc, w_it, w_itK, w_enum, w_zip, w_callS, w_zipX, w_rng1, w_rng2, w_pure, w_cell, w_no, w_part, w_sl, w_slT, w_slL, ok_ok,
    List.map_cons, List.map_nil, List.length_cons, List.length_nil, List.replicate, List.cons_append, List.nil_append, List.getElem?_cons_zero, List.getElem?_cons_succ, List.set_cons_zero, List.set_cons_succ, look_int, look_bl, look_non, look_str, look_tup, look_lst, look_dic, look_scr, look_ty, look_ref,
    w_gtI, w_modI, w_divI, w_addI, w_subI, w_mulI, w_geI, w_ltI, w_leI, w_eqI, w_neI]
      exact ⟨f, t2, rfl, by omega, rfl, hat2.mono (by omega)⟩
    · simp only [c, decide_false, Bool.false_eq_true, if_false, w_fn, w_seq, w_if, w_sB, w_tru, w_s2, w_s1, w_rd1, w_rd2, w_var, w_C, w_lookV, w_lookO, w_lookS, w_set, w_putV, w_putO, w_asg, w_gSub, w_gN, w_gT, w_gsN, w_gsC, w_toDV, w_toDO, w_toDS, w_updR, w_updS, w_ret, w_moveV, w_moveO, w_moveS, w_skip, w_and, w_or, w_not, w_andV, w_orV, w_notV, w_chain, w_lst, w_tup, w_nil, w_cons, w_call, w_drop, w_augS, w_M, w_app, w_par, w_putAll0, w_putAll1, w_kNil, w_kCons, w_keepV, w_keepO, w_for, w_lc, w_it, w_itK, w_enum, w_zip, w_callS, w_zipX, w_rng1, w_rng2, w_pure, w_cell, w_no, w_part, w_sl, w_slT, w_slL, ok_ok,
    List.map_cons, List.map_nil, List.length_cons, List.length_nil, List.replicate, List.cons_append, List.nil_append, List.getElem?_cons_zero, List.getElem?_cons_succ, List.set_cons_zero, List.set_cons_succ, look_int, look_bl, look_non, look_str, look_tup, look_lst, look_dic, look_scr, look_ty, look_ref,
    w_gtI, w_modI, w_divI, w_addI, w_subI, w_mulI, w_geI, w_ltI, w_leI, w_eqI, w_neI]
      exact ⟨0 - f, t2, rfl, by omega, rfl, hat2.mono (by omega)⟩
theorem vector_at (hc : cs ≠ []) (hN : N.Ok) (h : At cs t b) (hb : b ≤ 800000) : Ok (r__law_vector [.ref 0, N.d] ⟨e, t⟩) fun r s => ∃ v t', r = .val (tupI v) ∧ TicksOk N v ∧ Le v 100000000000000000000 ∧ s = ⟨e, t'⟩ ∧ At cs t' (b + 60) := by
  have hm2 := hN.mo2
  have lm : (N.mo.map D.int).length = N.mo.length := List.length_map ..
  have hrl : (rangeD 0 (N.mo.length : Int).toNat).length = N.mo.length := by rw [rng_len]; omega
  unfold r__law_vector m__law_vector
  simp -implicitDefEqProofs only [w_fn, w_seq, w_if, w_sB, w_tru, w_s2, w_s1, w_rd1, w_rd2, w_var, w_C, w_lookV, w_lookO, w_lookS, w_set, w_putV, w_putO, w_asg, w_gSub, w_gN, w_gT, w_gsN, w_gsC, w_toDV, w_toDO, w_toDS, w_updR, w_updS, w_ret, w_moveV, w_moveO, w_moveS, w_skip, w_and, w_or, w_not, w_andV, w_orV, w_notV, w_chain, w_lst, w_tup, w_nil, w_cons, w_call, w_drop, w_augS, w_M, w_app, w_par, w_putAll0, w_putAll1, w_kNil, w_kCons, w_keepV, w_keepO, w_for, w_lc, w_it, w_itK, w_enum, w_zip, w_callS, w_zipX, w_rng1, w_rng2, w_pure, w_cell, w_no, w_part, w_sl, w_slT, w_slL, ok_ok,
    List.map_cons, List.map_nil, List.length_cons, List.length_nil, List.replicate, List.cons_append, List.nil_append, List.getElem?_cons_zero, List.getElem?_cons_succ, List.set_cons_zero, List.set_cons_succ, look_int, look_bl, look_non, look_str, look_tup, look_lst, look_dic, look_scr, look_ty, look_ref,
    w_gtI, w_modI, w_divI, w_addI, w_subI, w_mulI, w_geI, w_ltI, w_leI, w_eqI, w_neI, look_net, d0, tupI, len_tup, lm, ints1, Nat.reduceAdd, Nat.reduceSub, true_and]
  refine ⟨by unfold rlim; omega, ?_⟩
  refine Ok.lcL (k := 0) (fun i ac s => ∃ (vs : List Int) (x2 : DL.Slot) (t' : List D), ac = vs.map D.int ∧ s = ⟨[.val (.ref 0), .val N.d, x2], t'⟩ ∧ vs.length = i ∧ i ≤ N.mo.length ∧ (∀ (j : Nat) (x : Int), vs[j]? = some x → (-100000000000000000000 ≤ x ∧ x ≤ 100000000000000000000) ∧ (x ≠ 0 → (j : Int) ∈ N.inp)) ∧ At cs t' (b + 6 * i)) ⟨[], _, _, rfl, rfl, rfl, Nat.zero_le _, (fun j x z => by cases z), h.mono (by omega)⟩ ?_ ?_
  · rintro i x ac _ hx ⟨vs, y2, t', rfl, rfl, hvl, hi, hv, hat'⟩
    rw [Nat.zero_add] at hvl hi hat'
    obtain ⟨hi2, rfl⟩ := rng_at hx
    have hi3 : i < N.mo.length := by omega
    have snoc : ∀ y : Int, (-100000000000000000000 ≤ y ∧ y ≤ 100000000000000000000) → (y ≠ 0 → (i : Int) ∈ N.inp) → ∀ (j : Nat) (x : Int), (vs ++ [y])[j]? = some x → (-100000000000000000000 ≤ x ∧ x ≤ 100000000000000000000) ∧ (x ≠ 0 → (j : Int) ∈ N.inp) := fun y hy1 hy2 j x hj => by
      by_cases cj : j < vs.length
      · rw [List.getElem?_append_left cj] at hj
        exact hv j x hj
      · rw [List.getElem?_append_right (by omega)] at hj
        have hj0 : j - vs.length = 0 := by
          have := (List.getElem?_eq_some_iff.mp hj).1
          rw [List.length_singleton] at this
          omega
        rw [hj0] at hj
        cases hj
        rw [show j = i by omega]
        exact ⟨hy1, hy2⟩
    simp -implicitDefEqProofs only [w_fn, w_seq, w_if, w_sB, w_tru, w_s2, w_s1, w_rd1, w_rd2, w_var, w_C, w_lookV, w_lookO, w_lookS, w_set, w_putV, w_putO, w_asg, w_gSub, w_gN, w_gT, w_gsN, w_gsC, w_toDV, w_toDO, w_toDS, w_updR, w_updS, w_ret, w_moveV, w_moveO, w_moveS, w_skip, w_and, w_or, w_not, w_andV, w_orV, w_notV, w_chain, w_lst, w_tup, w_nil, w_cons, w_call, w_drop, w_augS, w_M, w_app, w_par, w_putAll0, w_putAll1, w_kNil, w_kCons, w_keepV, w_keepO, w_for, w_lc, w_it, w_itK, w_enum, w_zip, w_callS, w_zipX, w_rng1, w_rng2, w_pure, w_cell, w_no, w_part, w_sl, w_slT, w_slL, ok_ok,
    List.map_cons, List.map_nil, List.length_cons, List.length_nil, List.replicate, List.cons_append, List.nil_append, List.getElem?_cons_zero, List.getElem?_cons_succ, List.set_cons_zero, List.set_cons_succ, look_int, look_bl, look_non, look_str, look_tup, look_lst, look_dic, look_scr, look_ty, look_ref,
    w_gtI, w_modI, w_divI, w_addI, w_subI, w_mulI, w_geI, w_ltI, w_leI, w_eqI, w_neI, look_net, d2, tupI, in_intsT, if_true, Nat.reduceAdd, Nat.reduceSub, true_and]
    by_cases c : (0 : Int) + (i : Int) ∈ N.inp
    · simp only [c, decide_true, if_true, w_fn, w_seq, w_if, w_sB, w_tru, w_s2, w_s1, w_rd1, w_rd2, w_var, w_C, w_lookV, w_lookO, w_lookS, w_set, w_putV, w_putO, w_asg, w_gSub, w_gN, w_gT, w_gsN, w_gsC, w_toDV, w_toDO, w_toDS, w_updR, w_updS, w_ret, w_moveV, w_moveO, w_moveS, w_skip, w_and, w_or, w_not, w_andV, w_orV, w_notV, w_chain, w_lst, w_tup, w_nil, w_cons, w_call, w_drop, w_augS, w_M, w_app, w_par, w_putAll0, w_putAll1, w_kNil, w_kCons, w_keepV, w_keepO, w_for, w_lc, w_it, w_itK, w_enum, w_zip, w_callS, w_zipX, w_rng1, w_rng2, w_pure, w_cell, w_no, w_part, w_sl, w_slT, w_slL, ok_ok,
    List.map_cons, List.map_nil, List.length_cons, List.length_nil, List.replicate, List.cons_append, List.nil_append, List.getElem?_cons_zero, List.getElem?_cons_succ, List.set_cons_zero, List.set_cons_succ, look_int, look_bl, look_non, look_str, look_tup, look_lst, look_dic, look_scr, look_ty, look_ref,
    w_gtI, w_modI, w_divI, w_addI, w_subI, w_mulI, w_geI, w_ltI, w_leI, w_eqI, w_neI, Nat.reduceAdd, Nat.reduceSub, true_and]
      refine (wide_at hc hat' (by omega)).imp ?_
      rintro r s ⟨v, t2, rfl, hv2, rfl, ht2⟩
      simp -implicitDefEqProofs only [w_fn, w_seq, w_if, w_sB, w_tru, w_s2, w_s1, w_rd1, w_rd2, w_var, w_C, w_lookV, w_lookO, w_lookS, w_set, w_putV, w_putO, w_asg, w_gSub, w_gN, w_gT, w_gsN, w_gsC, w_toDV, w_toDO, w_toDS, w_updR, w_updS, w_ret, w_moveV, w_moveO, w_moveS, w_skip, w_and, w_or, w_not, w_andV, w_orV, w_notV, w_chain, w_lst, w_tup, w_nil, w_cons, w_call, w_drop, w_augS, w_M, w_app, w_par, w_putAll0, w_putAll1, w_kNil, w_kCons, w_keepV, w_keepO, w_for, w_lc, w_it, w_itK, w_enum, w_zip, w_callS, w_zipX, w_rng1, w_rng2, w_pure, w_cell, w_no, w_part, w_sl, w_slT, w_slL, ok_ok,
    List.map_cons, List.map_nil, List.length_cons, List.length_nil, List.replicate, List.cons_append, List.nil_append, List.getElem?_cons_zero, List.getElem?_cons_succ, List.set_cons_zero, List.set_cons_succ, look_int, look_bl, look_non, look_str, look_tup, look_lst, look_dic, look_scr, look_ty, look_ref,
    w_gtI, w_modI, w_divI, w_addI, w_subI, w_mulI, w_geI, w_ltI, w_leI, w_eqI, w_neI]
      refine ⟨by rw [List.length_map, hvl]; show _ < 1000000; omega, vs ++ [v], _, t2, by rw [List.map_append]; rfl, rfl, by rw [List.length_append, hvl, Nat.zero_add]; rfl, by omega, snoc _ hv2 fun _ => by rw [Int.zero_add] at c; exact c, ht2.mono (by omega)⟩
    · simp only [c, decide_false, Bool.false_eq_true, if_false, w_fn, w_seq, w_if, w_sB, w_tru, w_s2, w_s1, w_rd1, w_rd2, w_var, w_C, w_lookV, w_lookO, w_lookS, w_set, w_putV, w_putO, w_asg, w_gSub, w_gN, w_gT, w_gsN, w_gsC, w_toDV, w_toDO, w_toDS, w_updR, w_updS, w_ret, w_moveV, w_moveO, w_moveS, w_skip, w_and, w_or, w_not, w_andV, w_orV, w_notV, w_chain, w_lst, w_tup, w_nil, w_cons, w_call, w_drop, w_augS, w_M, w_app, w_par, w_putAll0, w_putAll1, w_kNil, w_kCons, w_keepV, w_keepO, w_for, w_lc, w_it, w_itK, w_enum, w_zip, w_callS, w_zipX, w_rng1, w_rng2, w_pure, w_cell, w_no, w_part, w_sl, w_slT, w_slL, ok_ok,
    List.map_cons, List.map_nil, List.length_cons, List.length_nil, List.replicate, List.cons_append, List.nil_append, List.getElem?_cons_zero, List.getElem?_cons_succ, List.set_cons_zero, List.set_cons_succ, look_int, look_bl, look_non, look_str, look_tup, look_lst, look_dic, look_scr, look_ty, look_ref,
    w_gtI, w_modI, w_divI, w_addI, w_subI, w_mulI, w_geI, w_ltI, w_leI, w_eqI, w_neI]
      exact ⟨by rw [List.length_map, hvl]; show _ < 1000000; omega, vs ++ [0], _, t', by rw [List.map_append]; rfl, rfl, by rw [List.length_append, hvl, Nat.zero_add]; rfl, by omega, snoc 0 (by omega) fun z => absurd rfl z, hat'.mono (by omega)⟩
  · rintro ac s1 ⟨vs, y2, t3, rfl, rfl, hvl, hi, hv, hat3⟩
    rw [hrl, Nat.zero_add] at hvl hat3
    simp -implicitDefEqProofs only [w_fn, w_seq, w_if, w_sB, w_tru, w_s2, w_s1, w_rd1, w_rd2, w_var, w_C, w_lookV, w_lookO, w_lookS, w_set, w_putV, w_putO, w_asg, w_gSub, w_gN, w_gT, w_gsN, w_gsC, w_toDV, w_toDO, w_toDS, w_updR, w_updS, w_ret, w_moveV, w_moveO, w_moveS, w_skip, w_and, w_or, w_not, w_andV, w_orV, w_notV, w_chain, w_lst, w_tup, w_nil, w_cons, w_call, w_drop, w_augS, w_M, w_app, w_par, w_putAll0, w_putAll1, w_kNil, w_kCons, w_keepV, w_keepO, w_for, w_lc, w_it, w_itK, w_enum, w_zip, w_callS, w_zipX, w_rng1, w_rng2, w_pure, w_cell, w_no, w_part, w_sl, w_slT, w_slL, ok_ok,
    List.map_cons, List.map_nil, List.length_cons, List.length_nil, List.replicate, List.cons_append, List.nil_append, List.getElem?_cons_zero, List.getElem?_cons_succ, List.set_cons_zero, List.set_cons_succ, look_int, look_bl, look_non, look_str, look_tup, look_lst, look_dic, look_scr, look_ty, look_ref,
    w_gtI, w_modI, w_divI, w_addI, w_subI, w_mulI, w_geI, w_ltI, w_leI, w_eqI, w_neI, restE, tupM]
    refine ⟨vs, t3, rfl, ⟨hvl, fun i x hx => by have := hv i x hx; omega, fun i x hx h0 => (hv i x hx).2 h0⟩, fun x hx => ?_, rfl, hat3.mono (by omega)⟩
    obtain ⟨i, hi, rfl⟩ := List.getElem_of_mem hx
    have := hv i _ (List.getElem?_eq_getElem hi)
    omega
end
end L06

namespace L06
open PySem DL L2
/-! ### two nets side by side, as mathematics -/
def shW (n : Nat) (w : Int × Int × Int) : Int × Int × Int := (w.1 + n, w.2.1 + n, w.2.2)
def jn (A B : Net) : Net := ⟨A.mo ++ B.mo, A.wi ++ B.wi.map (shW A.mo.length), A.inp ++ B.inp.map fun i => i + (A.mo.length : Int)⟩
theorem sortedW_sh {n : Nat} : ∀ {r : List (Int × Int × Int)} {q : Int × Int}, sortedW q r → sortedW (q.1 + n, q.2 + n) (r.map (shW n))
  | [], _, _ => trivial
  | w :: r, q, ⟨h1, h2⟩ => ⟨by show q.1 + (n : Int) < w.1 + n ∨ (q.1 + (n : Int) = w.1 + n ∧ q.2 + (n : Int) < w.2.1 + n); omega, sortedW_sh (q := (w.1, w.2.1)) h2⟩
theorem sortedW_sh0 {n : Nat} {r : List (Int × Int × Int)} {p q : Int × Int} (h : sortedW q r) (h0 : ∀ w ∈ r, 0 ≤ w.1) (hp : p.1 < (n : Int)) : sortedW p (r.map (shW n)) := by
  cases r with
  | nil => trivial
  | cons w r =>
    obtain ⟨_, h2⟩ := h
    have := h0 w (List.mem_cons_self ..)
    exact ⟨.inl (by show p.1 < w.1 + n; omega), sortedW_sh (q := (w.1, w.2.1)) h2⟩
theorem sortedW_app2 {r : List (Int × Int × Int)} : ∀ {l : List (Int × Int × Int)} {p : Int × Int}, sortedW p l → sortedW p r → (∀ w ∈ l, sortedW (w.1, w.2.1) r) → sortedW p (l ++ r)
  | [], _, _, h, _ => h
  | w :: l, p, ⟨h1, h2⟩, _, h3 => ⟨h1, sortedW_app2 h2 (h3 w (List.mem_cons_self ..)) fun x hx => h3 x (List.mem_cons_of_mem _ hx)⟩
theorem sortedI_sh {n : Int} : ∀ {r : List Int} {b : Int}, sortedI b r → sortedI (b + n) (r.map fun i => i + n)
  | [], _, _ => trivial
  | i :: r, b, ⟨h1, h2⟩ => ⟨by show b + n ≤ i + n; omega, by have := sortedI_sh (n := n) h2; rw [show i + 1 + n = i + n + 1 by omega] at this; exact this⟩
theorem sortedI_low {b c : Int} : ∀ {r : List Int}, sortedI c r → b ≤ c → sortedI b r
  | [], _, _ => trivial
  | i :: r, ⟨h1, h2⟩, h => ⟨by omega, h2⟩
theorem sortedI_app2 {n : Int} {r : List Int} : ∀ {l : List Int} {b : Int}, sortedI b l → (∀ i ∈ l, i < n) → b ≤ n → sortedI n r → sortedI b (l ++ r)
  | [], _, _, _, hb, h => sortedI_low h hb
  | i :: l, b, ⟨h1, h2⟩, h3, hb, h => ⟨h1, sortedI_app2 h2 (fun x hx => h3 x (List.mem_cons_of_mem _ hx)) (by have := h3 i (List.mem_cons_self ..); omega) h⟩
theorem jn_ok {A B : Net} (hA : A.Ok) (hB : B.Ok) (h10 : A.mo.length + B.mo.length ≤ 10) : (jn A B).Ok where
  mo1 := by
    have := hA.mo1
    show 1 ≤ (A.mo ++ B.mo).length
    rw [List.length_append]; omega
  mo2 := by
    show (A.mo ++ B.mo).length ≤ 10
    rw [List.length_append]; omega
  mo3 := fun m hm => (List.mem_append.mp hm).elim (hA.mo3 m) (hB.mo3 m)
  wi1 := fun w hw => by
    have el : ((jn A B).mo.length : Int) = A.mo.length + B.mo.length := by
      show (((A.mo ++ B.mo).length : Nat) : Int) = _
      rw [List.length_append]; omega
    rw [el]
    rcases List.mem_append.mp hw with z | z
    · have := hA.wi1 w z; omega
    · obtain ⟨x, hx, rfl⟩ := List.mem_map.mp z
      have := hB.wi1 x hx
      show 0 ≤ x.1 + (A.mo.length : Int) ∧ x.1 + (A.mo.length : Int) < x.2.1 + A.mo.length ∧ x.2.1 + (A.mo.length : Int) < A.mo.length + B.mo.length ∧ -100 ≤ x.2.2 ∧ x.2.2 ≤ 100 ∧ x.2.2 ≠ 0
      omega
  wi2 := by
    have h1 := hA.mo1
    have b0 : ∀ w ∈ B.wi, 0 ≤ w.1 := fun w hw => (hB.wi1 w hw).1
    exact sortedW_app2 hA.wi2 (sortedW_sh0 hB.wi2 b0 (by show (0 : Int) < A.mo.length; omega)) fun w hw => sortedW_sh0 hB.wi2 b0 (by have := hA.wi1 w hw; show w.1 < (A.mo.length : Int); omega)
  in1 := sortedI_app2 (n := (A.mo.length : Int)) hA.in1 (fun i hi => (hA.in2 i hi).2) (by omega) (by have := sortedI_sh (n := (A.mo.length : Int)) hB.in1; rw [Int.zero_add] at this; exact this)
  in2 := fun i hi => by
    have el : ((jn A B).mo.length : Int) = A.mo.length + B.mo.length := by
      show (((A.mo ++ B.mo).length : Nat) : Int) = _
      rw [List.length_append]; omega
    rw [el]
    rcases List.mem_append.mp hi with z | z
    · have := hA.in2 i z; omega
    · obtain ⟨x, hx, rfl⟩ := List.mem_map.mp z
      have := hB.in2 x hx
      omega
theorem app_get {l r : List Int} {j : Nat} {x : Int} : (l ++ r).getD j x = if j < l.length then l.getD j x else r.getD (j - l.length) x := by
  rw [List.getD_eq_getElem?_getD]
  by_cases c : j < l.length
  · rw [if_pos c, List.getElem?_append_left c, ← List.getD_eq_getElem?_getD]
  · rw [if_neg c, List.getElem?_append_right (by omega), ← List.getD_eq_getElem?_getD]
theorem sm_append {P : Int × Int × Int → Bool} {g : Int × Int × Int → Int} {r : List (Int × Int × Int)} : ∀ {l : List (Int × Int × Int)}, sm P g (l ++ r) = sm P g l + sm P g r
  | [] => by show sm P g r = 0 + _; omega
  | w :: l => by
    show (if P w then g w else 0) + sm P g (l ++ r) = (if P w then g w else 0) + sm P g l + sm P g r
    rw [sm_append]; omega
theorem sm_map {P : Int × Int × Int → Bool} {g : Int × Int × Int → Int} {f : Int × Int × Int → Int × Int × Int} : ∀ {l : List (Int × Int × Int)}, sm P g (l.map f) = sm (fun w => P (f w)) (fun w => g (f w)) l
  | [] => rfl
  | w :: l => by
    show (if P (f w) then g (f w) else 0) + sm P g (l.map f) = (if P (f w) then g (f w) else 0) + sm (fun w => P (f w)) (fun w => g (f w)) l
    rw [sm_map]
theorem sm_none {P : Int × Int × Int → Bool} {g : Int × Int × Int → Int} : ∀ {l : List (Int × Int × Int)}, (∀ w ∈ l, P w = false) → sm P g l = 0
  | [], _ => rfl
  | w :: l, h => by
    show (if P w then g w else 0) + sm P g l = 0
    rw [h w (List.mem_cons_self ..), sm_none fun x hx => h x (List.mem_cons_of_mem _ hx)]; rfl
theorem inS_left {A B : Net} (hA : A.Ok) (hB : B.Ok) {c : Nat → Int} {j : Nat} (hj : j < A.mo.length) : inS (jn A B) c j = inS A c j := by
  show sm _ _ (A.wi ++ B.wi.map (shW A.mo.length)) = _
  rw [sm_append, sm_map, sm_none (l := B.wi) fun w hw => ?_, Int.add_zero]
  · rfl
  · have := hB.wi1 w hw
    exact decide_eq_false (by show ¬ w.2.1 + (A.mo.length : Int) = (j : Int); omega)
theorem inS_right {A B : Net} (hA : A.Ok) (hB : B.Ok) {c : Nat → Int} {j : Nat} : inS (jn A B) c (j + A.mo.length) = inS B (fun i => c (i + A.mo.length)) j := by
  show sm _ _ (A.wi ++ B.wi.map (shW A.mo.length)) = _
  rw [sm_append, sm_map, sm_none (l := A.wi) fun w hw => ?_, Int.zero_add]
  · refine sm_congr fun w hw => ?_
    have := hB.wi1 w hw
    refine ⟨?_, fun _ => ?_⟩
    · show decide (w.2.1 + (A.mo.length : Int) = ((j + A.mo.length : Nat) : Int)) = decide (w.2.1 = (j : Int))
      by_cases c : w.2.1 = (j : Int)
      · rw [decide_eq_true c, decide_eq_true (by omega)]
      · rw [decide_eq_false c, decide_eq_false (by omega)]
    · show w.2.2 * c (w.1 + (A.mo.length : Int)).toNat = w.2.2 * c (w.1.toNat + A.mo.length)
      rw [show (w.1 + (A.mo.length : Int)).toNat = w.1.toNat + A.mo.length by omega]
  · have := hA.wi1 w hw
    exact decide_eq_false (by show ¬ w.2.1 = ((j + A.mo.length : Nat) : Int); omega)
section
variable {A B : Net} {s1 s2 v1 v2 : List Int}
theorem jn_len : (jn A B).mo.length = A.mo.length + B.mo.length := by
  show (A.mo ++ B.mo).length = _
  rw [List.length_append]
/-- both parts flow as they do alone -/
theorem jn_flow (hA : A.Ok) (hB : B.Ok) (h10 : A.mo.length + B.mo.length ≤ 10) (l1 : s1.length = A.mo.length) (k1 : v1.length = A.mo.length) (k2 : v2.length = B.mo.length) : ∀ j, j < A.mo.length + B.mo.length →
    (if j < A.mo.length then qF A s1 v1 j else qF B s2 v2 (j - A.mo.length)) = qF (jn A B) (s1 ++ s2) (v1 ++ v2) j ∧ (if j < A.mo.length then lF A s1 v1 j else lF B s2 v2 (j - A.mo.length)) = lF (jn A B) (s1 ++ s2) (v1 ++ v2) j := by
  have hJ := jn_ok hA hB h10
  have mA : ∀ j, j < A.mo.length → (jn A B).mo.getD j 1 = A.mo.getD j 1 := fun j hj => by
    show (A.mo ++ B.mo).getD j 1 = _
    rw [app_get, if_pos hj]
  have mB : ∀ j, ¬ j < A.mo.length → (jn A B).mo.getD j 1 = B.mo.getD (j - A.mo.length) 1 := fun j hj => by
    show (A.mo ++ B.mo).getD j 1 = _
    rw [app_get, if_neg hj]
  intro j hj
  refine flow_unique (st := s1 ++ s2) (v := v1 ++ v2) (c := fun j => if j < A.mo.length then qF A s1 v1 j else qF B s2 v2 (j - A.mo.length)) (s := fun j => if j < A.mo.length then lF A s1 v1 j else lF B s2 v2 (j - A.mo.length)) hJ (by rw [List.length_append, jn_len]; omega) (fun i hi => ?_) (fun i hi => ?_) j (by rw [jn_len]; exact hj)
  · rw [jn_len] at hi
    show 0 ≤ (if i < A.mo.length then lF A s1 v1 i else lF B s2 v2 (i - A.mo.length)) ∧ (if i < A.mo.length then lF A s1 v1 i else lF B s2 v2 (i - A.mo.length)) < _
    by_cases c : i < A.mo.length
    · rw [if_pos c, mA i c]; exact l_rng hA c
    · rw [if_neg c, mB i c]; exact l_rng hB (by omega)
  · rw [jn_len] at hi
    show (if i < A.mo.length then lF A s1 v1 i else lF B s2 v2 (i - A.mo.length)) + (jn A B).mo.getD i 1 * (if i < A.mo.length then qF A s1 v1 i else qF B s2 v2 (i - A.mo.length)) = _
    by_cases c : i < A.mo.length
    · rw [if_pos c, if_pos c, mA i c, inS_left hA hB c, app_get, if_pos (by rw [l1]; exact c), app_get, if_pos (by rw [k1]; exact c), state_eq hA k1]
      congr 1
      exact (inS_congr hA fun k hk => by rw [if_pos (by omega)]).symm
    · obtain ⟨d, rfl⟩ : ∃ d, i = d + A.mo.length := ⟨i - A.mo.length, by omega⟩
      rw [if_neg c, if_neg c, mB _ c, inS_right hA hB, app_get, if_neg (by rw [l1]; exact c), app_get, if_neg (by rw [k1]; exact c), l1, k1, Nat.add_sub_cancel, state_eq hB k2]
      congr 1
      exact (inS_congr hB fun k hk => by rw [if_neg (by omega), Nat.add_sub_cancel]).symm
theorem upF_app {f : Nat → Int} {a b : Nat} : upF f (a + b) = upF f a ++ upF (fun i => f (i + a)) b := by
  induction b with
  | zero => show upF f a = upF f a ++ []; rw [List.append_nil]
  | succ b ih => rw [← Nat.add_assoc, ← upF_snoc, ← upF_snoc, ih, List.append_assoc, show a + b = b + a by omega]
theorem upF_congr {f g : Nat → Int} {n : Nat} (h : ∀ j, j < n → f j = g j) : upF f n = upF g n := List.map_congr_left fun j hj => h j (List.mem_range.mp hj)
theorem up_two {f : Nat → Int} {g h : Nat → Int} (h1 : ∀ j, j < A.mo.length + B.mo.length → (if j < A.mo.length then g j else h (j - A.mo.length)) = f j) : upF f (A.mo.length + B.mo.length) = upF g A.mo.length ++ upF h B.mo.length := by
  rw [upF_app]
  congr 1
  · exact upF_congr fun j hj => by rw [← h1 j (by omega), if_pos hj]
  · exact upF_congr fun j hj => by rw [← h1 (j + A.mo.length) (by omega), if_neg (by omega), Nat.add_sub_cancel]
theorem jn_all (hA : A.Ok) (hB : B.Ok) (h10 : A.mo.length + B.mo.length ≤ 10) (l1 : s1.length = A.mo.length) (k1 : v1.length = A.mo.length) (k2 : v2.length = B.mo.length) :
    upF (qF (jn A B) (s1 ++ s2) (v1 ++ v2)) (jn A B).mo.length = upF (qF A s1 v1) A.mo.length ++ upF (qF B s2 v2) B.mo.length ∧
    upF (lF (jn A B) (s1 ++ s2) (v1 ++ v2)) (jn A B).mo.length = upF (lF A s1 v1) A.mo.length ++ upF (lF B s2 v2) B.mo.length ∧
    upF (arrF (jn A B) (s1 ++ s2) (v1 ++ v2)) (jn A B).mo.length = upF (arrF A s1 v1) A.mo.length ++ upF (arrF B s2 v2) B.mo.length := by
  have f := jn_flow (s2 := s2) hA hB h10 l1 k1 k2
  rw [jn_len]
  refine ⟨up_two fun j hj => (f j hj).1, up_two fun j hj => (f j hj).2, up_two fun j hj => ?_⟩
  have q := fun i (hi : i < A.mo.length + B.mo.length) => (f i hi).1
  rw [arr_in (N := jn A B), app_get]
  by_cases c : j < A.mo.length
  · rw [if_pos c, if_pos (by rw [k1]; exact c), inS_left hA hB c, arr_in]
    congr 1
    exact inS_congr hA fun k hk => by rw [← q k (by omega), if_pos (by omega)]
  · obtain ⟨d, rfl⟩ : ∃ d, j = d + A.mo.length := ⟨j - A.mo.length, by omega⟩
    rw [if_neg c, if_neg (by rw [k1]; exact c), inS_right hA hB, arr_in, k1, Nat.add_sub_cancel]
    congr 1
    exact inS_congr hB fun k hk => by rw [← q (k + A.mo.length) (by omega), if_neg (by omega), Nat.add_sub_cancel]
end
end L06

namespace L06
open PySem DL L2
def ups (n : Nat) : List Int := (List.range n).map fun (k : Nat) => (k : Int)
def Net.opn (N : Net) : Net := ⟨N.mo, N.wi, ups N.mo.length⟩
def nilN : Net := ⟨[], [], []⟩
theorem jn_nil {A : Net} : jn nilN A = A := by
  have h1 : A.wi.map (shW 0) = A.wi := by
    have : shW 0 = id := by
      funext w
      show (w.1 + ((0 : Nat) : Int), w.2.1 + ((0 : Nat) : Int), w.2.2) = w
      obtain ⟨a, b, c⟩ := w
      simp
    rw [this, List.map_id]
  have h2 : (A.inp.map fun i => i + ((0 : Nat) : Int)) = A.inp := by
    have : (fun i : Int => i + ((0 : Nat) : Int)) = id := by funext i; simp
    rw [this, List.map_id]
  show Net.mk ([] ++ A.mo) ([] ++ A.wi.map (shW 0)) ([] ++ A.inp.map fun i => i + ((0 : Nat) : Int)) = A
  rw [h1, h2]; rfl
section
variable {s : DS} {QR : R → DS → Prop} {QU : Unit → DS → Prop} {QC : Ctl → DS → Prop} {n m b a k : Int} {d : D} {ds : List D} {e : List Slot} {t : List D} {N A B : Net} {ns st u S C cs v : List Int} {i j : Nat}
theorem w_aug {f : R → R → M R} {fe : M R} : Ok (sAug i f fe s) QC = match s.env[i]? with | some (.val d) => Ok (fe s) fun re s1 => Ok (f (.val d) re s1) fun rz s2 => Ok (rz.put i s2) fun _ s3 => QC .nx s3 | _ => False := by
  unfold sAug
  cases s.env[i]? with
  | none => rfl
  | some y =>
    cases y with
    | val d =>
      simp only []
      cases fe s with
      | ok re s1 =>
        simp only [ok_ok]
        cases f (.val d) re s1 with
        | ok rz s2 =>
          simp only [ok_ok]
          cases rz.put i s2 <;> rfl
        | _ => rfl
      | _ => rfl
    | _ => rfl
theorem w_addT {x y : List D} : Ok (addT (.tup x) (.tup y) s) QR = (x.length + y.length ≤ lim ∧ QR (.val (.tup (x ++ y))) s) := by
  unfold addT
  by_cases c : x.length + y.length ≤ lim
  · simp only [if_pos c]; exact propext ⟨fun h => ⟨c, h⟩, fun h => h.2⟩
  · simp only [if_neg c]; exact propext ⟨fun h => h.elim, fun h => (c h.1).elim⟩
theorem intsOf_map : ∀ {l : List Int}, intsOf (l.map D.int) = some l
  | [] => rfl
  | x :: l => by
    show (intsOf (l.map D.int)).map (x :: ·) = _
    rw [intsOf_map]; rfl
theorem w_sum {l : List Int} : Ok (sumM (.lst (l.map D.int)) s) QR = QR (.val (.int l.sum)) s := by
  show Ok ((match intsOf (l.map D.int) with | some ns => M.pure (.val (.int ns.sum)) | none => M.bad : M R) s) QR = _
  rw [intsOf_map]; rfl
theorem tri1 {x y z : D} : Ok (ixD (.tup [x, y, z]) (.int 1) s) QR = QR (.val y) s := rfl
theorem tri2 {x y z : D} : Ok (ixD (.tup [x, y, z]) (.int 2) s) QR = QR (.val z) s := rfl
theorem tri0 {x y z : D} : Ok (ixD (.tup [x, y, z]) (.int 0) s) QR = QR (.val x) s := rfl
theorem ticks_le (hv : TicksOk N v) : Le v 10000000000000000000000000000000000000000 := fun x hx => by
  obtain ⟨i, hi, rfl⟩ := List.getElem_of_mem hx
  have := hv.lo i _ (List.getElem?_eq_getElem hi)
  omega
theorem checked_run (h : N.Ok) (hs : StateOk N st) (hv : TicksOk N v) : r_checked_flow [N.d, tupI st, tupI v] ⟨e, t⟩ = .ok (.val (.tup [tupI (upF (arrF N st v) N.mo.length), tupI (upF (qF N st v) N.mo.length), tupI (upF (lF N st v) N.mo.length)])) ⟨e, t⟩ := by
  apply Ok.eq
  have fe := fun e : List Slot => flow_run (e := e) (t := t) h hs (B := 10000000000000000000000000000000000000000) (by decide) (by unfold big; decide) hv.len (ticks_le hv)
  rw [cmF_all h hv.len] at fe
  unfold r_checked_flow m_checked_flow
  simp -implicitDefEqProofs only [w_fn, w_seq, w_if, w_sB, w_tru, w_s2, w_s1, w_rd1, w_rd2, w_var, w_C, w_lookV, w_lookO, w_lookS, w_set, w_putV, w_putO, w_asg, w_gSub, w_gN, w_gT, w_gsN, w_gsC, w_toDV, w_toDO, w_toDS, w_updR, w_updS, w_ret, w_moveV, w_moveO, w_moveS, w_skip, w_and, w_or, w_not, w_andV, w_orV, w_notV, w_chain, w_lst, w_tup, w_nil, w_cons, w_call, w_drop, w_augS, w_M, w_app, w_par, w_putAll0, w_putAll1, w_kNil, w_kCons, w_keepV, w_keepO, w_for, w_lc, w_it, w_itK, w_enum, w_zip, w_callS, w_zipX, w_rng1, w_rng2, w_pure, w_cell, w_no, w_part, w_sl, w_slT, w_slL, ok_ok,
    List.map_cons, List.map_nil, List.length_cons, List.length_nil, List.replicate, List.cons_append, List.nil_append, List.getElem?_cons_zero, List.getElem?_cons_succ, List.set_cons_zero, List.set_cons_succ, look_int, look_bl, look_non, look_str, look_tup, look_lst, look_dic, look_scr, look_ty, look_ref,
    w_gtI, w_modI, w_divI, w_addI, w_subI, w_mulI, w_geI, w_ltI, w_leI, w_eqI, w_neI, look_net, look_tupI, phases_eq h hs, ticks_eq h hv, fe, true_and, Nat.reduceAdd, Nat.reduceSub]
theorem arrivals_run (h : N.Ok) (hs : StateOk N st) (hv : TicksOk N v) : r_arrivals [N.d, tupI st, tupI v] ⟨e, t⟩ = .ok (.val (tupI (upF (arrF N st v) N.mo.length))) ⟨e, t⟩ := by
  apply Ok.eq
  unfold r_arrivals m_arrivals
  simp -implicitDefEqProofs only [w_fn, w_seq, w_if, w_sB, w_tru, w_s2, w_s1, w_rd1, w_rd2, w_var, w_C, w_lookV, w_lookO, w_lookS, w_set, w_putV, w_putO, w_asg, w_gSub, w_gN, w_gT, w_gsN, w_gsC, w_toDV, w_toDO, w_toDS, w_updR, w_updS, w_ret, w_moveV, w_moveO, w_moveS, w_skip, w_and, w_or, w_not, w_andV, w_orV, w_notV, w_chain, w_lst, w_tup, w_nil, w_cons, w_call, w_drop, w_augS, w_M, w_app, w_par, w_putAll0, w_putAll1, w_kNil, w_kCons, w_keepV, w_keepO, w_for, w_lc, w_it, w_itK, w_enum, w_zip, w_callS, w_zipX, w_rng1, w_rng2, w_pure, w_cell, w_no, w_part, w_sl, w_slT, w_slL, ok_ok,
    List.map_cons, List.map_nil, List.length_cons, List.length_nil, List.replicate, List.cons_append, List.nil_append, List.getElem?_cons_zero, List.getElem?_cons_succ, List.set_cons_zero, List.set_cons_succ, look_int, look_bl, look_non, look_str, look_tup, look_lst, look_dic, look_scr, look_ty, look_ref,
    w_gtI, w_modI, w_divI, w_addI, w_subI, w_mulI, w_geI, w_ltI, w_leI, w_eqI, w_neI, look_net, look_tupI, checked_run h hs hv, tri0, true_and, Nat.reduceAdd, Nat.reduceSub]
theorem carries_run (h : N.Ok) (hs : StateOk N st) (hv : TicksOk N v) : r_carries [N.d, tupI st, tupI v] ⟨e, t⟩ = .ok (.val (tupI (upF (qF N st v) N.mo.length))) ⟨e, t⟩ := by
  apply Ok.eq
  unfold r_carries m_carries
  simp -implicitDefEqProofs only [w_fn, w_seq, w_if, w_sB, w_tru, w_s2, w_s1, w_rd1, w_rd2, w_var, w_C, w_lookV, w_lookO, w_lookS, w_set, w_putV, w_putO, w_asg, w_gSub, w_gN, w_gT, w_gsN, w_gsC, w_toDV, w_toDO, w_toDS, w_updR, w_updS, w_ret, w_moveV, w_moveO, w_moveS, w_skip, w_and, w_or, w_not, w_andV, w_orV, w_notV, w_chain, w_lst, w_tup, w_nil, w_cons, w_call, w_drop, w_augS, w_M, w_app, w_par, w_putAll0, w_putAll1, w_kNil, w_kCons, w_keepV, w_keepO, w_for, w_lc, w_it, w_itK, w_enum, w_zip, w_callS, w_zipX, w_rng1, w_rng2, w_pure, w_cell, w_no, w_part, w_sl, w_slT, w_slL, ok_ok,
    List.map_cons, List.map_nil, List.length_cons, List.length_nil, List.replicate, List.cons_append, List.nil_append, List.getElem?_cons_zero, List.getElem?_cons_succ, List.set_cons_zero, List.set_cons_succ, look_int, look_bl, look_non, look_str, look_tup, look_lst, look_dic, look_scr, look_ty, look_ref,
    w_gtI, w_modI, w_divI, w_addI, w_subI, w_mulI, w_geI, w_ltI, w_leI, w_eqI, w_neI, look_net, look_tupI, checked_run h hs hv, tri1, true_and, Nat.reduceAdd, Nat.reduceSub]
theorem after_run (h : N.Ok) (hs : StateOk N st) (hv : TicksOk N v) : r_after [N.d, tupI st, tupI v] ⟨e, t⟩ = .ok (.val (tupI (upF (lF N st v) N.mo.length))) ⟨e, t⟩ := by
  apply Ok.eq
  unfold r_after m_after
  simp -implicitDefEqProofs only [w_fn, w_seq, w_if, w_sB, w_tru, w_s2, w_s1, w_rd1, w_rd2, w_var, w_C, w_lookV, w_lookO, w_lookS, w_set, w_putV, w_putO, w_asg, w_gSub, w_gN, w_gT, w_gsN, w_gsC, w_toDV, w_toDO, w_toDS, w_updR, w_updS, w_ret, w_moveV, w_moveO, w_moveS, w_skip, w_and, w_or, w_not, w_andV, w_orV, w_notV, w_chain, w_lst, w_tup, w_nil, w_cons, w_call, w_drop, w_augS, w_M, w_app, w_par, w_putAll0, w_putAll1, w_kNil, w_kCons, w_keepV, w_keepO, w_for, w_lc, w_it, w_itK, w_enum, w_zip, w_callS, w_zipX, w_rng1, w_rng2, w_pure, w_cell, w_no, w_part, w_sl, w_slT, w_slL, ok_ok,
    List.map_cons, List.map_nil, List.length_cons, List.length_nil, List.replicate, List.cons_append, List.nil_append, List.getElem?_cons_zero, List.getElem?_cons_succ, List.set_cons_zero, List.set_cons_succ, look_int, look_bl, look_non, look_str, look_tup, look_lst, look_dic, look_scr, look_ty, look_ref,
    w_gtI, w_modI, w_divI, w_addI, w_subI, w_mulI, w_geI, w_ltI, w_leI, w_eqI, w_neI, look_net, look_tupI, checked_run h hs hv, tri2, true_and, Nat.reduceAdd, Nat.reduceSub]
/-- what the law asks of a net -/
def toldD (N : Net) (st v : List Int) : D := .lst [tupI (upF (lF N st v) N.mo.length), tupI (upF (arrF N st v) N.mo.length), tupI (upF (qF N st v) N.mo.length)]
theorem told_run (h : N.Ok) (hs : StateOk N st) (hv : TicksOk N v) : r__law_told [N.d, tupI st, tupI v] ⟨e, t⟩ = .ok (.own (toldD N st v)) ⟨e, t⟩ := by
  apply Ok.eq
  have ar := fun e : List Slot => arrivals_run (e := e) (t := t) h hs hv
  have ca := fun e : List Slot => carries_run (e := e) (t := t) h hs hv
  have af := fun e : List Slot => after_run (e := e) (t := t) h hs hv
  unfold r__law_told m__law_told
  simp -implicitDefEqProofs only [w_fn, w_seq, w_if, w_sB, w_tru, w_s2, w_s1, w_rd1, w_rd2, w_var, w_C, w_lookV, w_lookO, w_lookS, w_set, w_putV, w_putO, w_asg, w_gSub, w_gN, w_gT, w_gsN, w_gsC, w_toDV, w_toDO, w_toDS, w_updR, w_updS, w_ret, w_moveV, w_moveO, w_moveS, w_skip, w_and, w_or, w_not, w_andV, w_orV, w_notV, w_chain, w_lst, w_tup, w_nil, w_cons, w_call, w_drop, w_augS, w_M, w_app, w_par, w_putAll0, w_putAll1, w_kNil, w_kCons, w_keepV, w_keepO, w_for, w_lc, w_it, w_itK, w_enum, w_zip, w_callS, w_zipX, w_rng1, w_rng2, w_pure, w_cell, w_no, w_part, w_sl, w_slT, w_slL, ok_ok,
    List.map_cons, List.map_nil, List.length_cons, List.length_nil, List.replicate, List.cons_append, List.nil_append, List.getElem?_cons_zero, List.getElem?_cons_succ, List.set_cons_zero, List.set_cons_succ, look_int, look_bl, look_non, look_str, look_tup, look_lst, look_dic, look_scr, look_ty, look_ref,
    w_gtI, w_modI, w_divI, w_addI, w_subI, w_mulI, w_geI, w_ltI, w_leI, w_eqI, w_neI, look_net, look_tupI, ar, ca, af, true_and, and_true, Nat.reduceAdd, Nat.reduceSub]
  exact ⟨by decide, rfl⟩
theorem opened_run (h : N.Ok) : r_opened [N.d] ⟨e, t⟩ = .ok (.val N.opn.d) ⟨e, t⟩ := by
  apply Ok.eq
  have hm2 := h.mo2
  have lm : (N.mo.map D.int).length = N.mo.length := List.length_map ..
  have rg : ∀ (s : DS) (QR : R → DS → Prop), Ok (rg1 false (.int (N.mo.length : Int)) s) QR = QR (.val (tupI (ups N.mo.length))) s := fun s QR => by
    have c : (-rlim ≤ (0 : Int) ∧ (0 : Int) ≤ rlim) ∧ -rlim ≤ (N.mo.length : Int) ∧ (N.mo.length : Int) ≤ rlim := by unfold rlim; omega
    show Ok (rgM false 0 (N.mo.length : Int) s) QR = _
    unfold rgM
    simp only [if_pos c]
    show QR (.val (.tup (rangeD 0 ((N.mo.length : Int) - 0).toNat))) s = _
    rw [show ((N.mo.length : Int) - 0).toNat = N.mo.length by omega]
    unfold rangeD ups tupI
    rw [List.map_map]
    congr 4
    funext x
    simp
  unfold r_opened m_opened
  simp -implicitDefEqProofs only [w_fn, w_seq, w_if, w_sB, w_tru, w_s2, w_s1, w_rd1, w_rd2, w_var, w_C, w_lookV, w_lookO, w_lookS, w_set, w_putV, w_putO, w_asg, w_gSub, w_gN, w_gT, w_gsN, w_gsC, w_toDV, w_toDO, w_toDS, w_updR, w_updS, w_ret, w_moveV, w_moveO, w_moveS, w_skip, w_and, w_or, w_not, w_andV, w_orV, w_notV, w_chain, w_lst, w_tup, w_nil, w_cons, w_call, w_drop, w_augS, w_M, w_app, w_par, w_putAll0, w_putAll1, w_kNil, w_kCons, w_keepV, w_keepO, w_for, w_lc, w_it, w_itK, w_enum, w_zip, w_callS, w_zipX, w_rng1, w_rng2, w_pure, w_cell, w_no, w_part, w_sl, w_slT, w_slL, ok_ok,
    List.map_cons, List.map_nil, List.length_cons, List.length_nil, List.replicate, List.cons_append, List.nil_append, List.getElem?_cons_zero, List.getElem?_cons_succ, List.set_cons_zero, List.set_cons_succ, look_int, look_bl, look_non, look_str, look_tup, look_lst, look_dic, look_scr, look_ty, look_ref,
    w_gtI, w_modI, w_divI, w_addI, w_subI, w_mulI, w_geI, w_ltI, w_leI, w_eqI, w_neI, look_net, validate_eq h, d0, d1, tupI, len_tup, lm, true_and, and_true, Nat.reduceAdd, Nat.reduceSub]
  simp only [show ∀ l : List Int, D.tup (l.map D.int) = tupI l from fun _ => rfl, rg, ok_ok, w_toDV]
  exact ⟨by decide, rfl, trivial⟩
theorem net_at_k {x : D} {k : Nat} (h : ([A.d, B.d] : List D)[k]? = some x) : (k = 0 ∧ x = A.d) ∨ (k = 1 ∧ x = B.d) := by
  rcases k with _ | _ | k
  · cases h; exact .inl ⟨rfl, rfl⟩
  · cases h; exact .inr ⟨rfl, rfl⟩
  · cases h
def joinB : M Ctl := (sSeq (sSet 5 (DL.s1 (rd1 lenM) (sVar 2)))
  (sSeq (sAug 3 (rd2 addT) (DL.s1 (rd1 tupM) (sLc [6, 7, 8] (sIt (DL.s2 (rd2 ixD) (sVar 1) (sC (.int 1)))) (gT 3 (gsC (gN 6) (gsC (gN 7) (gsC (gN 8) (gsN))))) (M.pure true) (sTup (sCons (DL.s2 (rd2 addD) (sVar 6) (sVar 5)) (sCons (DL.s2 (rd2 addD) (sVar 7) (sVar 5)) (sCons (sVar 8) (sNil))))))))
  (sSeq (sAug 4 (rd2 addT) (DL.s1 (rd1 tupM) (sLc [9] (sIt (DL.s2 (rd2 ixD) (sVar 1) (sC (.int 2)))) (gN 9) (M.pure true) (DL.s2 (rd2 addD) (sVar 9) (sVar 5)))))
  (sAug 2 (rd2 addT) (DL.s2 (rd2 ixD) (sVar 1) (sC (.int 0)))))))
theorem join_step {C X : Net} {x0 x5 : DL.Slot} (hX : X.Ok) (c1 : C.mo.length ≤ 10) (c2 : C.wi.length ≤ 1000) (c3 : C.inp.length ≤ 1000) : Ok (joinB ⟨[x0, .val X.d, .val (tupI C.mo), .val (.tup (C.wi.map wireD)), .val (tupI C.inp), x5, .un, .un, .un, .un], t⟩) fun c s => c = .nx ∧ ∃ x5, s = ⟨[x0, .val X.d, .val (tupI (jn C X).mo), .val (.tup ((jn C X).wi.map wireD)), .val (tupI (jn C X).inp), x5, .un, .un, .un, .un], t⟩ := by
  have hm2 := hX.mo2
  have hw := hX.wlen
  have hi := inp_len hX.in1 (fun i hi => by have := hX.in2 i hi; omega) (by decide)
  have lc : (C.mo.map D.int).length = C.mo.length := List.length_map ..
  have lx : (X.mo.map D.int).length = X.mo.length := List.length_map ..
  unfold joinB
  simp -implicitDefEqProofs only [w_fn, w_seq, w_if, w_sB, w_tru, w_s2, w_s1, w_rd1, w_rd2, w_var, w_C, w_lookV, w_lookO, w_lookS, w_set, w_putV, w_putO, w_asg, w_gSub, w_gN, w_gT, w_gsN, w_gsC, w_toDV, w_toDO, w_toDS, w_updR, w_updS, w_ret, w_moveV, w_moveO, w_moveS, w_skip, w_and, w_or, w_not, w_andV, w_orV, w_notV, w_chain, w_lst, w_tup, w_nil, w_cons, w_call, w_drop, w_augS, w_M, w_app, w_par, w_putAll0, w_putAll1, w_kNil, w_kCons, w_keepV, w_keepO, w_for, w_lc, w_it, w_itK, w_enum, w_zip, w_callS, w_zipX, w_rng1, w_rng2, w_pure, w_cell, w_no, w_part, w_sl, w_slT, w_slL, ok_ok,
    List.map_cons, List.map_nil, List.length_cons, List.length_nil, List.replicate, List.cons_append, List.nil_append, List.getElem?_cons_zero, List.getElem?_cons_succ, List.set_cons_zero, List.set_cons_succ, look_int, look_bl, look_non, look_str, look_tup, look_lst, look_dic, look_scr, look_ty, look_ref,
    w_gtI, w_modI, w_divI, w_addI, w_subI, w_mulI, w_geI, w_ltI, w_leI, w_eqI, w_neI, w_aug, look_net, d1, d2, d0, tupI, len_tup, lc, true_and, Nat.reduceAdd, Nat.reduceSub]
  refine Ok.lcL (k := 0) (fun i ac s => i ≤ X.wi.length ∧ ac = ((X.wi.take i).map (shW C.mo.length)).map wireD ∧ ∃ x6 x7 x8, s = ⟨[x0, .val X.d, .val (.tup (C.mo.map D.int)), .val (.tup (C.wi.map wireD)), .val (.tup (C.inp.map D.int)), .val (.int (C.mo.length : Int)), x6, x7, x8, .un], t⟩) ⟨Nat.zero_le _, rfl, _, _, _, rfl⟩ ?_ ?_
  · rintro i y ac _ hy ⟨_, rfl, x6, x7, x8, rfl⟩
    rw [Nat.zero_add]
    obtain ⟨w, ew, rfl⟩ := wire_at hy
    have hil : i < X.wi.length := (List.getElem?_eq_some_iff.mp ew).1
    simp -implicitDefEqProofs only [w_fn, w_seq, w_if, w_sB, w_tru, w_s2, w_s1, w_rd1, w_rd2, w_var, w_C, w_lookV, w_lookO, w_lookS, w_set, w_putV, w_putO, w_asg, w_gSub, w_gN, w_gT, w_gsN, w_gsC, w_toDV, w_toDO, w_toDS, w_updR, w_updS, w_ret, w_moveV, w_moveO, w_moveS, w_skip, w_and, w_or, w_not, w_andV, w_orV, w_notV, w_chain, w_lst, w_tup, w_nil, w_cons, w_call, w_drop, w_augS, w_M, w_app, w_par, w_putAll0, w_putAll1, w_kNil, w_kCons, w_keepV, w_keepO, w_for, w_lc, w_it, w_itK, w_enum, w_zip, w_callS, w_zipX, w_rng1, w_rng2, w_pure, w_cell, w_no, w_part, w_sl, w_slT, w_slL, ok_ok,
    List.map_cons, List.map_nil, List.length_cons, List.length_nil, List.replicate, List.cons_append, List.nil_append, List.getElem?_cons_zero, List.getElem?_cons_succ, List.set_cons_zero, List.set_cons_succ, look_int, look_bl, look_non, look_str, look_tup, look_lst, look_dic, look_scr, look_ty, look_ref,
    w_gtI, w_modI, w_divI, w_addI, w_subI, w_mulI, w_geI, w_ltI, w_leI, w_eqI, w_neI, if_true, true_and, Nat.reduceAdd]
    exact ⟨by decide, by rw [List.length_map, List.length_map, List.length_take]; show _ < 1000000; omega, by omega, by rw [List.take_succ, ew, List.map_append, List.map_append]; rfl, _, _, _, rfl⟩
  rintro ac s1 ⟨_, rfl, x6, x7, x8, rfl⟩
  rw [Nat.zero_add, List.length_map, List.take_length]
  have ad := fun (s : DS) (QR : R → DS → Prop) => w_addT (s := s) (QR := QR) (x := C.wi.map wireD) (y := (X.wi.map (shW C.mo.length)).map wireD)
  simp -implicitDefEqProofs only [w_fn, w_seq, w_if, w_sB, w_tru, w_s2, w_s1, w_rd1, w_rd2, w_var, w_C, w_lookV, w_lookO, w_lookS, w_set, w_putV, w_putO, w_asg, w_gSub, w_gN, w_gT, w_gsN, w_gsC, w_toDV, w_toDO, w_toDS, w_updR, w_updS, w_ret, w_moveV, w_moveO, w_moveS, w_skip, w_and, w_or, w_not, w_andV, w_orV, w_notV, w_chain, w_lst, w_tup, w_nil, w_cons, w_call, w_drop, w_augS, w_M, w_app, w_par, w_putAll0, w_putAll1, w_kNil, w_kCons, w_keepV, w_keepO, w_for, w_lc, w_it, w_itK, w_enum, w_zip, w_callS, w_zipX, w_rng1, w_rng2, w_pure, w_cell, w_no, w_part, w_sl, w_slT, w_slL, ok_ok,
    List.map_cons, List.map_nil, List.length_cons, List.length_nil, List.replicate, List.cons_append, List.nil_append, List.getElem?_cons_zero, List.getElem?_cons_succ, List.set_cons_zero, List.set_cons_succ, look_int, look_bl, look_non, look_str, look_tup, look_lst, look_dic, look_scr, look_ty, look_ref,
    w_gtI, w_modI, w_divI, w_addI, w_subI, w_mulI, w_geI, w_ltI, w_leI, w_eqI, w_neI, restE, tupM, ad, d2, tupI, Option.getD_some, Nat.reduceAdd, Nat.reduceSub]
  refine ⟨by rw [List.length_map, List.length_map, List.length_map]; show _ ≤ 1000000; omega, ?_⟩
  refine Ok.lcL (k := 0) (fun i ac s => i ≤ X.inp.length ∧ ac = ((X.inp.take i).map fun i => i + (C.mo.length : Int)).map D.int ∧ ∃ x9, s = ⟨[x0, .val X.d, .val (.tup (C.mo.map D.int)), .val (.tup (C.wi.map wireD ++ (X.wi.map (shW C.mo.length)).map wireD)), .val (.tup (C.inp.map D.int)), .val (.int (C.mo.length : Int)), .un, .un, .un, x9], t⟩) ⟨Nat.zero_le _, rfl, _, rfl⟩ ?_ ?_
  · rintro i y ac _ hy ⟨_, rfl, x9, rfl⟩
    rw [Nat.zero_add]
    obtain ⟨m, em, rfl⟩ := int_at hy
    have hil : i < X.inp.length := (List.getElem?_eq_some_iff.mp em).1
    simp -implicitDefEqProofs only [w_fn, w_seq, w_if, w_sB, w_tru, w_s2, w_s1, w_rd1, w_rd2, w_var, w_C, w_lookV, w_lookO, w_lookS, w_set, w_putV, w_putO, w_asg, w_gSub, w_gN, w_gT, w_gsN, w_gsC, w_toDV, w_toDO, w_toDS, w_updR, w_updS, w_ret, w_moveV, w_moveO, w_moveS, w_skip, w_and, w_or, w_not, w_andV, w_orV, w_notV, w_chain, w_lst, w_tup, w_nil, w_cons, w_call, w_drop, w_augS, w_M, w_app, w_par, w_putAll0, w_putAll1, w_kNil, w_kCons, w_keepV, w_keepO, w_for, w_lc, w_it, w_itK, w_enum, w_zip, w_callS, w_zipX, w_rng1, w_rng2, w_pure, w_cell, w_no, w_part, w_sl, w_slT, w_slL, ok_ok,
    List.map_cons, List.map_nil, List.length_cons, List.length_nil, List.replicate, List.cons_append, List.nil_append, List.getElem?_cons_zero, List.getElem?_cons_succ, List.set_cons_zero, List.set_cons_succ, look_int, look_bl, look_non, look_str, look_tup, look_lst, look_dic, look_scr, look_ty, look_ref,
    w_gtI, w_modI, w_divI, w_addI, w_subI, w_mulI, w_geI, w_ltI, w_leI, w_eqI, w_neI, if_true, true_and, Nat.reduceAdd]
    exact ⟨by rw [List.length_map, List.length_map, List.length_take]; show _ < 1000000; omega, by omega, by rw [List.take_succ, em, List.map_append, List.map_append]; rfl, _, rfl⟩
  rintro ac s1 ⟨_, rfl, x9, rfl⟩
  rw [Nat.zero_add, List.length_map, List.take_length]
  have ad2 := fun (s : DS) (QR : R → DS → Prop) => w_addT (s := s) (QR := QR) (x := C.inp.map D.int) (y := (X.inp.map fun i => i + (C.mo.length : Int)).map D.int)
  have ad3 := fun (s : DS) (QR : R → DS → Prop) => w_addT (s := s) (QR := QR) (x := C.mo.map D.int) (y := X.mo.map D.int)
  simp -implicitDefEqProofs only [w_fn, w_seq, w_if, w_sB, w_tru, w_s2, w_s1, w_rd1, w_rd2, w_var, w_C, w_lookV, w_lookO, w_lookS, w_set, w_putV, w_putO, w_asg, w_gSub, w_gN, w_gT, w_gsN, w_gsC, w_toDV, w_toDO, w_toDS, w_updR, w_updS, w_ret, w_moveV, w_moveO, w_moveS, w_skip, w_and, w_or, w_not, w_andV, w_orV, w_notV, w_chain, w_lst, w_tup, w_nil, w_cons, w_call, w_drop, w_augS, w_M, w_app, w_par, w_putAll0, w_putAll1, w_kNil, w_kCons, w_keepV, w_keepO, w_for, w_lc, w_it, w_itK, w_enum, w_zip, w_callS, w_zipX, w_rng1, w_rng2, w_pure, w_cell, w_no, w_part, w_sl, w_slT, w_slL, ok_ok,
    List.map_cons, List.map_nil, List.length_cons, List.length_nil, List.replicate, List.cons_append, List.nil_append, List.getElem?_cons_zero, List.getElem?_cons_succ, List.set_cons_zero, List.set_cons_succ, look_int, look_bl, look_non, look_str, look_tup, look_lst, look_dic, look_scr, look_ty, look_ref,
    w_gtI, w_modI, w_divI, w_addI, w_subI, w_mulI, w_geI, w_ltI, w_leI, w_eqI, w_neI, restE, tupM, ad2, ad3, look_net, d0, tupI, Option.getD_some, true_and, Nat.reduceAdd, Nat.reduceSub]
  refine ⟨by rw [List.length_map, List.length_map, List.length_map]; show _ ≤ 1000000; omega, by rw [List.length_map, List.length_map]; show _ ≤ 1000000; omega, .val (.int (C.mo.length : Int)), ?_⟩
  simp only [jn, List.map_append]
theorem joined_run (hA : A.Ok) (hB : B.Ok) (h10 : A.mo.length + B.mo.length ≤ 10) : r_joined [.tup [A.d, B.d]] ⟨e, t⟩ = .ok (.val (jn A B).d) ⟨e, t⟩ := by
  apply Ok.eq
  unfold r_joined m_joined
  have hJ : (sSeq (sSet 5 (DL.s1 (rd1 lenM) (sVar 2)))
  (sSeq (sAug 3 (rd2 addT) (DL.s1 (rd1 tupM) (sLc [6, 7, 8] (sIt (DL.s2 (rd2 ixD) (sVar 1) (sC (.int 1)))) (gT 3 (gsC (gN 6) (gsC (gN 7) (gsC (gN 8) (gsN))))) (M.pure true) (sTup (sCons (DL.s2 (rd2 addD) (sVar 6) (sVar 5)) (sCons (DL.s2 (rd2 addD) (sVar 7) (sVar 5)) (sCons (sVar 8) (sNil))))))))
  (sSeq (sAug 4 (rd2 addT) (DL.s1 (rd1 tupM) (sLc [9] (sIt (DL.s2 (rd2 ixD) (sVar 1) (sC (.int 2)))) (gN 9) (M.pure true) (DL.s2 (rd2 addD) (sVar 9) (sVar 5)))))
  (sAug 2 (rd2 addT) (DL.s2 (rd2 ixD) (sVar 1) (sC (.int 0)))))) : M Ctl) = joinB := rfl
  rw [hJ]
  have jb := fun (C X : Net) (x0 x5 : DL.Slot) (hX : X.Ok) (c1 : C.mo.length ≤ 10) (c2 : C.wi.length ≤ 1000) (c3 : C.inp.length ≤ 1000) => join_step (t := t) (x0 := x0) (x5 := x5) hX c1 c2 c3
  generalize joinB = JB at jb ⊢
  simp -implicitDefEqProofs only [w_fn, w_seq, w_if, w_sB, w_tru, w_s2, w_s1, w_rd1, w_rd2, w_var, w_C, w_lookV, w_lookO, w_lookS, w_set, w_putV, w_putO, w_asg, w_gSub, w_gN, w_gT, w_gsN, w_gsC, w_toDV, w_toDO, w_toDS, w_updR, w_updS, w_ret, w_moveV, w_moveO, w_moveS, w_skip, w_and, w_or, w_not, w_andV, w_orV, w_notV, w_chain, w_lst, w_tup, w_nil, w_cons, w_call, w_drop, w_augS, w_M, w_app, w_par, w_putAll0, w_putAll1, w_kNil, w_kCons, w_keepV, w_keepO, w_for, w_lc, w_it, w_itK, w_enum, w_zip, w_callS, w_zipX, w_rng1, w_rng2, w_pure, w_cell, w_no, w_part, w_sl, w_slT, w_slL, ok_ok,
    List.map_cons, List.map_nil, List.length_cons, List.length_nil, List.replicate, List.cons_append, List.nil_append, List.getElem?_cons_zero, List.getElem?_cons_succ, List.set_cons_zero, List.set_cons_succ, look_int, look_bl, look_non, look_str, look_tup, look_lst, look_dic, look_scr, look_ty, look_ref,
    w_gtI, w_modI, w_divI, w_addI, w_subI, w_mulI, w_geI, w_ltI, w_leI, w_eqI, w_neI, look_net, true_and, Nat.reduceAdd, Nat.reduceSub]
  refine Ok.forL (k := 0) (fun k s => ∃ x1, s = ⟨[.val (.tup [A.d, B.d]), x1, .un, .un, .un, .un, .un, .un, .un, .un], t⟩) ⟨_, rfl⟩ ?_ ?_
  · rintro k x _ hx ⟨x1, rfl⟩
    obtain ⟨X, hX, rfl⟩ : ∃ X : Net, X.Ok ∧ x = X.d := by
      rcases net_at_k hx with ⟨_, rfl⟩ | ⟨_, rfl⟩
      · exact ⟨A, hA, rfl⟩
      · exact ⟨B, hB, rfl⟩
    simp -implicitDefEqProofs only [w_fn, w_seq, w_if, w_sB, w_tru, w_s2, w_s1, w_rd1, w_rd2, w_var, w_C, w_lookV, w_lookO, w_lookS, w_set, w_putV, w_putO, w_asg, w_gSub, w_gN, w_gT, w_gsN, w_gsC, w_toDV, w_toDO, w_toDS, w_updR, w_updS, w_ret, w_moveV, w_moveO, w_moveS, w_skip, w_and, w_or, w_not, w_andV, w_orV, w_notV, w_chain, w_lst, w_tup, w_nil, w_cons, w_call, w_drop, w_augS, w_M, w_app, w_par, w_putAll0, w_putAll1, w_kNil, w_kCons, w_keepV, w_keepO, w_for, w_lc, w_it, w_itK, w_enum, w_zip, w_callS, w_zipX, w_rng1, w_rng2, w_pure, w_cell, w_no, w_part, w_sl, w_slT, w_slL, ok_ok,
    List.map_cons, List.map_nil, List.length_cons, List.length_nil, List.replicate, List.cons_append, List.nil_append, List.getElem?_cons_zero, List.getElem?_cons_succ, List.set_cons_zero, List.set_cons_succ, look_int, look_bl, look_non, look_str, look_tup, look_lst, look_dic, look_scr, look_ty, look_ref,
    w_gtI, w_modI, w_divI, w_addI, w_subI, w_mulI, w_geI, w_ltI, w_leI, w_eqI, w_neI, look_net, validate_eq hX, Nat.reduceAdd, true_and]
    exact ⟨_, rfl⟩
  rintro s1 ⟨x1, rfl⟩
  simp -implicitDefEqProofs only [w_fn, w_seq, w_if, w_sB, w_tru, w_s2, w_s1, w_rd1, w_rd2, w_var, w_C, w_lookV, w_lookO, w_lookS, w_set, w_putV, w_putO, w_asg, w_gSub, w_gN, w_gT, w_gsN, w_gsC, w_toDV, w_toDO, w_toDS, w_updR, w_updS, w_ret, w_moveV, w_moveO, w_moveS, w_skip, w_and, w_or, w_not, w_andV, w_orV, w_notV, w_chain, w_lst, w_tup, w_nil, w_cons, w_call, w_drop, w_augS, w_M, w_app, w_par, w_putAll0, w_putAll1, w_kNil, w_kCons, w_keepV, w_keepO, w_for, w_lc, w_it, w_itK, w_enum, w_zip, w_callS, w_zipX, w_rng1, w_rng2, w_pure, w_cell, w_no, w_part, w_sl, w_slT, w_slL, ok_ok,
    List.map_cons, List.map_nil, List.length_cons, List.length_nil, List.replicate, List.cons_append, List.nil_append, List.getElem?_cons_zero, List.getElem?_cons_succ, List.set_cons_zero, List.set_cons_succ, look_int, look_bl, look_non, look_str, look_tup, look_lst, look_dic, look_scr, look_ty, look_ref,
    w_gtI, w_modI, w_divI, w_addI, w_subI, w_mulI, w_geI, w_ltI, w_leI, w_eqI, w_neI, Nat.reduceAdd, Nat.reduceSub, true_and]
  refine Ok.lcL (k := 0) (fun i ac s => ac = (([(A.mo.length : Int), (B.mo.length : Int)] : List Int).take i).map D.int ∧ ∃ x1, s = ⟨[.val (.tup [A.d, B.d]), x1, .un, .un, .un, .un, .un, .un, .un, .un], t⟩) ⟨rfl, _, rfl⟩ ?_ ?_
  · rintro i x ac _ hx ⟨rfl, y1, rfl⟩
    rw [Nat.zero_add]
    rcases net_at_k hx with ⟨rfl, rfl⟩ | ⟨rfl, rfl⟩
    · have lm : (A.mo.map D.int).length = A.mo.length := List.length_map ..
      simp -implicitDefEqProofs only [w_fn, w_seq, w_if, w_sB, w_tru, w_s2, w_s1, w_rd1, w_rd2, w_var, w_C, w_lookV, w_lookO, w_lookS, w_set, w_putV, w_putO, w_asg, w_gSub, w_gN, w_gT, w_gsN, w_gsC, w_toDV, w_toDO, w_toDS, w_updR, w_updS, w_ret, w_moveV, w_moveO, w_moveS, w_skip, w_and, w_or, w_not, w_andV, w_orV, w_notV, w_chain, w_lst, w_tup, w_nil, w_cons, w_call, w_drop, w_augS, w_M, w_app, w_par, w_putAll0, w_putAll1, w_kNil, w_kCons, w_keepV, w_keepO, w_for, w_lc, w_it, w_itK, w_enum, w_zip, w_callS, w_zipX, w_rng1, w_rng2, w_pure, w_cell, w_no, w_part, w_sl, w_slT, w_slL, ok_ok,
    List.map_cons, List.map_nil, List.length_cons, List.length_nil, List.replicate, List.cons_append, List.nil_append, List.getElem?_cons_zero, List.getElem?_cons_succ, List.set_cons_zero, List.set_cons_succ, look_int, look_bl, look_non, look_str, look_tup, look_lst, look_dic, look_scr, look_ty, look_ref,
    w_gtI, w_modI, w_divI, w_addI, w_subI, w_mulI, w_geI, w_ltI, w_leI, w_eqI, w_neI, look_net, d0, tupI, len_tup, lm, if_true, true_and]
      exact ⟨by show 0 < 1000000; decide, rfl, _, rfl⟩
    · have lm : (B.mo.map D.int).length = B.mo.length := List.length_map ..
      simp -implicitDefEqProofs only [w_fn, w_seq, w_if, w_sB, w_tru, w_s2, w_s1, w_rd1, w_rd2, w_var, w_C, w_lookV, w_lookO, w_lookS, w_set, w_putV, w_putO, w_asg, w_gSub, w_gN, w_gT, w_gsN, w_gsC, w_toDV, w_toDO, w_toDS, w_updR, w_updS, w_ret, w_moveV, w_moveO, w_moveS, w_skip, w_and, w_or, w_not, w_andV, w_orV, w_notV, w_chain, w_lst, w_tup, w_nil, w_cons, w_call, w_drop, w_augS, w_M, w_app, w_par, w_putAll0, w_putAll1, w_kNil, w_kCons, w_keepV, w_keepO, w_for, w_lc, w_it, w_itK, w_enum, w_zip, w_callS, w_zipX, w_rng1, w_rng2, w_pure, w_cell, w_no, w_part, w_sl, w_slT, w_slL, ok_ok,
    List.map_cons, List.map_nil, List.length_cons, List.length_nil, List.replicate, List.cons_append, List.nil_append, List.getElem?_cons_zero, List.getElem?_cons_succ, List.set_cons_zero, List.set_cons_succ, look_int, look_bl, look_non, look_str, look_tup, look_lst, look_dic, look_scr, look_ty, look_ref,
    w_gtI, w_modI, w_divI, w_addI, w_subI, w_mulI, w_geI, w_ltI, w_leI, w_eqI, w_neI, look_net, d0, tupI, len_tup, lm, if_true, true_and]
      exact ⟨by show 1 < 1000000; decide, rfl, _, rfl⟩
  rintro ac s1 ⟨rfl, y1, rfl⟩
  have sm : (([(A.mo.length : Int), (B.mo.length : Int)] : List Int).take (0 + ([A.d, B.d] : List D).length)).sum = (A.mo.length : Int) + B.mo.length := by
    show (A.mo.length : Int) + ((B.mo.length : Int) + 0) = _
    omega
  have cd : ¬ (10 : Int) < (A.mo.length : Int) + B.mo.length := by omega
  rw [w_sum, sm]
  simp -implicitDefEqProofs only [w_fn, w_seq, w_if, w_sB, w_tru, w_s2, w_s1, w_rd1, w_rd2, w_var, w_C, w_lookV, w_lookO, w_lookS, w_set, w_putV, w_putO, w_asg, w_gSub, w_gN, w_gT, w_gsN, w_gsC, w_toDV, w_toDO, w_toDS, w_updR, w_updS, w_ret, w_moveV, w_moveO, w_moveS, w_skip, w_and, w_or, w_not, w_andV, w_orV, w_notV, w_chain, w_lst, w_tup, w_nil, w_cons, w_call, w_drop, w_augS, w_M, w_app, w_par, w_putAll0, w_putAll1, w_kNil, w_kCons, w_keepV, w_keepO, w_for, w_lc, w_it, w_itK, w_enum, w_zip, w_callS, w_zipX, w_rng1, w_rng2, w_pure, w_cell, w_no, w_part, w_sl, w_slT, w_slL, ok_ok,
    List.map_cons, List.map_nil, List.length_cons, List.length_nil, List.replicate, List.cons_append, List.nil_append, List.getElem?_cons_zero, List.getElem?_cons_succ, List.set_cons_zero, List.set_cons_succ, look_int, look_bl, look_non, look_str, look_tup, look_lst, look_dic, look_scr, look_ty, look_ref,
    w_gtI, w_modI, w_divI, w_addI, w_subI, w_mulI, w_geI, w_ltI, w_leI, w_eqI, w_neI, restE, cd, decide_false, Bool.false_eq_true, if_false, Option.getD_some, Nat.reduceAdd, Nat.reduceSub]
  refine ⟨by decide, by decide, by decide, by decide, trivial, ?_⟩
  have wA := hA.wlen
  have iA := inp_len hA.in1 (fun i hi => by have := hA.in2 i hi; have := hA.mo2; omega) (by decide)
  refine Ok.forL (k := 0) (fun k s => ∃ x1 x5, s = ⟨[.val (.tup [A.d, B.d]), x1, .val (tupI (if k = 0 then nilN else if k = 1 then A else jn A B).mo), .val (.tup ((if k = 0 then nilN else if k = 1 then A else jn A B).wi.map wireD)), .val (tupI (if k = 0 then nilN else if k = 1 then A else jn A B).inp), x5, .un, .un, .un, .un], t⟩) ⟨_, _, rfl⟩ ?_ ?_
  · rintro k x _ hx ⟨z1, z5, rfl⟩
    rcases net_at_k hx with ⟨rfl, rfl⟩ | ⟨rfl, rfl⟩
    · simp -implicitDefEqProofs only [w_fn, w_seq, w_if, w_sB, w_tru, w_s2, w_s1, w_rd1, w_rd2, w_var, w_C, w_lookV, w_lookO, w_lookS, w_set, w_putV, w_putO, w_asg, w_gSub, w_gN, w_gT, w_gsN, w_gsC, w_toDV, w_toDO, w_toDS, w_updR, w_updS, w_ret, w_moveV, w_moveO, w_moveS, w_skip, w_and, w_or, w_not, w_andV, w_orV, w_notV, w_chain, w_lst, w_tup, w_nil, w_cons, w_call, w_drop, w_augS, w_M, w_app, w_par, w_putAll0, w_putAll1, w_kNil, w_kCons, w_keepV, w_keepO, w_for, w_lc, w_it, w_itK, w_enum, w_zip, w_callS, w_zipX, w_rng1, w_rng2, w_pure, w_cell, w_no, w_part, w_sl, w_slT, w_slL, ok_ok,
    List.map_cons, List.map_nil, List.length_cons, List.length_nil, List.replicate, List.cons_append, List.nil_append, List.getElem?_cons_zero, List.getElem?_cons_succ, List.set_cons_zero, List.set_cons_succ, look_int, look_bl, look_non, look_str, look_tup, look_lst, look_dic, look_scr, look_ty, look_ref,
    w_gtI, w_modI, w_divI, w_addI, w_subI, w_mulI, w_geI, w_ltI, w_leI, w_eqI, w_neI, if_true, Nat.reduceAdd]
      refine (jb nilN A _ z5 hA (by decide) (by decide) (by decide)).imp ?_
      rintro c s ⟨rfl, x5, rfl⟩
      rw [jn_nil]
      exact ⟨_, _, rfl⟩
    · simp -implicitDefEqProofs only [w_fn, w_seq, w_if, w_sB, w_tru, w_s2, w_s1, w_rd1, w_rd2, w_var, w_C, w_lookV, w_lookO, w_lookS, w_set, w_putV, w_putO, w_asg, w_gSub, w_gN, w_gT, w_gsN, w_gsC, w_toDV, w_toDO, w_toDS, w_updR, w_updS, w_ret, w_moveV, w_moveO, w_moveS, w_skip, w_and, w_or, w_not, w_andV, w_orV, w_notV, w_chain, w_lst, w_tup, w_nil, w_cons, w_call, w_drop, w_augS, w_M, w_app, w_par, w_putAll0, w_putAll1, w_kNil, w_kCons, w_keepV, w_keepO, w_for, w_lc, w_it, w_itK, w_enum, w_zip, w_callS, w_zipX, w_rng1, w_rng2, w_pure, w_cell, w_no, w_part, w_sl, w_slT, w_slL, ok_ok,
    List.map_cons, List.map_nil, List.length_cons, List.length_nil, List.replicate, List.cons_append, List.nil_append, List.getElem?_cons_zero, List.getElem?_cons_succ, List.set_cons_zero, List.set_cons_succ, look_int, look_bl, look_non, look_str, look_tup, look_lst, look_dic, look_scr, look_ty, look_ref,
    w_gtI, w_modI, w_divI, w_addI, w_subI, w_mulI, w_geI, w_ltI, w_leI, w_eqI, w_neI, if_true, Nat.reduceAdd]
      refine (jb A B _ z5 hB (by omega) (by omega) (by omega)).imp ?_
      rintro c s ⟨rfl, x5, rfl⟩
      exact ⟨_, _, rfl⟩
  rintro s1 ⟨z1, z5, rfl⟩
  have k2 : 0 + ([A.d, B.d] : List D).length = 2 := rfl
  rw [k2]
  simp -implicitDefEqProofs only [w_fn, w_seq, w_if, w_sB, w_tru, w_s2, w_s1, w_rd1, w_rd2, w_var, w_C, w_lookV, w_lookO, w_lookS, w_set, w_putV, w_putO, w_asg, w_gSub, w_gN, w_gT, w_gsN, w_gsC, w_toDV, w_toDO, w_toDS, w_updR, w_updS, w_ret, w_moveV, w_moveO, w_moveS, w_skip, w_and, w_or, w_not, w_andV, w_orV, w_notV, w_chain, w_lst, w_tup, w_nil, w_cons, w_call, w_drop, w_augS, w_M, w_app, w_par, w_putAll0, w_putAll1, w_kNil, w_kCons, w_keepV, w_keepO, w_for, w_lc, w_it, w_itK, w_enum, w_zip, w_callS, w_zipX, w_rng1, w_rng2, w_pure, w_cell, w_no, w_part, w_sl, w_slT, w_slL, ok_ok,
    List.map_cons, List.map_nil, List.length_cons, List.length_nil, List.replicate, List.cons_append, List.nil_append, List.getElem?_cons_zero, List.getElem?_cons_succ, List.set_cons_zero, List.set_cons_succ, look_int, look_bl, look_non, look_str, look_tup, look_lst, look_dic, look_scr, look_ty, look_ref,
    w_gtI, w_modI, w_divI, w_addI, w_subI, w_mulI, w_geI, w_ltI, w_leI, w_eqI, w_neI, look_tupI, true_and]
  exact ⟨by decide, by rw [if_neg (by decide), if_neg (by decide)]; rfl, trivial⟩
/-! ### the states' number -/
def prodI : List Int → Int
  | [] => 1
  | x :: r => x * prodI r
theorem prod_app {r : List Int} : ∀ {l : List Int}, prodI (l ++ r) = prodI l * prodI r
  | [] => (Int.one_mul _).symm
  | x :: l => by
    show x * prodI (l ++ r) = x * prodI l * prodI r
    rw [prod_app, Int.mul_assoc]
theorem prod_le : ∀ {l : List Int}, (∀ m ∈ l, 2 ≤ m ∧ m ≤ 1000) → 1 ≤ prodI l ∧ prodI l ≤ 1000 ^ l.length
  | [], _ => ⟨by decide, by decide⟩
  | x :: l, h => by
    have hx := h x (List.mem_cons_self ..)
    have ih := prod_le fun m hm => h m (List.mem_cons_of_mem _ hm)
    show 1 ≤ x * prodI l ∧ x * prodI l ≤ 1000 ^ (l.length + 1)
    rw [Int.pow_succ]
    have a1 := Int.mul_le_mul_of_nonneg_right hx.2 (show 0 ≤ prodI l by omega)
    have a2 := Int.mul_le_mul_of_nonneg_right (show 1 ≤ x by omega) (show 0 ≤ prodI l by omega)
    omega
theorem prod_sm {l : List Int} (h : ∀ m ∈ l, 2 ≤ m ∧ m ≤ 1000) (hl : l.length ≤ 10) : (prodI l).natAbs.log2 < 200 := by
  have q := prod_le h
  have p : (1000 : Int) ^ l.length ≤ 1000 ^ 10 := by
    have := Nat.pow_le_pow_right (show 0 < 1000 by decide) hl
    exact_mod_cast this
  have e : (1000 : Int) ^ 10 = 1000000000000000000000000000000 := by decide
  rw [Nat.log2_lt (by omega)]
  have e2 : (1000000000000000000000000000000 : Nat) < 2 ^ 200 := by decide
  refine Nat.lt_of_le_of_lt ?_ e2
  omega
theorem prod_snoc {l : List Int} {x : Int} : prodI (l ++ [x]) = prodI l * x := by
  rw [prod_app]
  show prodI l * (x * 1) = _
  rw [Int.mul_one]
theorem w_imul : Ok (intD mulG (.int n) (.int m) s) QR = (n.natAbs.log2 + m.natAbs.log2 < 1000000 ∧ QR (.val (.int (n * m))) s) := by
  unfold intD mulG
  by_cases c : n.natAbs.log2 + m.natAbs.log2 < 1000000
  · simp only [if_pos c]; exact propext ⟨fun h => ⟨c, h⟩, fun h => h.2⟩
  · simp only [if_neg c]; exact propext ⟨fun h => h.elim, fun h => (c h.1).elim⟩
theorem count_run (h : N.Ok) : r_state_count [N.d] ⟨e, t⟩ = .ok (.val (.int (prodI N.mo))) ⟨e, t⟩ := by
  apply Ok.eq
  have hm2 := h.mo2
  unfold r_state_count m_state_count
  simp -implicitDefEqProofs only [w_fn, w_seq, w_if, w_sB, w_tru, w_s2, w_s1, w_rd1, w_rd2, w_var, w_C, w_lookV, w_lookO, w_lookS, w_set, w_putV, w_putO, w_asg, w_gSub, w_gN, w_gT, w_gsN, w_gsC, w_toDV, w_toDO, w_toDS, w_updR, w_updS, w_ret, w_moveV, w_moveO, w_moveS, w_skip, w_and, w_or, w_not, w_andV, w_orV, w_notV, w_chain, w_lst, w_tup, w_nil, w_cons, w_call, w_drop, w_augS, w_M, w_app, w_par, w_putAll0, w_putAll1, w_kNil, w_kCons, w_keepV, w_keepO, w_for, w_lc, w_it, w_itK, w_enum, w_zip, w_callS, w_zipX, w_rng1, w_rng2, w_pure, w_cell, w_no, w_part, w_sl, w_slT, w_slL, ok_ok,
    List.map_cons, List.map_nil, List.length_cons, List.length_nil, List.replicate, List.cons_append, List.nil_append, List.getElem?_cons_zero, List.getElem?_cons_succ, List.set_cons_zero, List.set_cons_succ, look_int, look_bl, look_non, look_str, look_tup, look_lst, look_dic, look_scr, look_ty, look_ref,
    w_gtI, w_modI, w_divI, w_addI, w_subI, w_mulI, w_geI, w_ltI, w_leI, w_eqI, w_neI, look_net, validate_eq h, d0, tupI, true_and, Nat.reduceAdd, Nat.reduceSub]
  refine Ok.forL (k := 0) (fun i s => i ≤ N.mo.length ∧ ∃ x2, s = ⟨[.val N.d, .val (.int (prodI (N.mo.take i))), x2], t⟩) ⟨Nat.zero_le _, _, rfl⟩ ?_ ?_
  · rintro i x _ hx ⟨_, x2, rfl⟩
    rw [Nat.zero_add]
    obtain ⟨m, em, rfl⟩ := int_at hx
    have hi : i < N.mo.length := (List.getElem?_eq_some_iff.mp em).1
    have hmm := h.mo3 m (List.mem_of_getElem? em)
    have l1 := prod_sm (l := N.mo.take i) (fun m hm => h.mo3 m (List.mem_of_mem_take hm)) (by rw [List.length_take]; omega)
    have l2 := lgS (n := m) (by omega) (by omega)
    have tk : N.mo.take (i + 1) = N.mo.take i ++ [m] := by rw [List.take_succ, em]; rfl
    simp -implicitDefEqProofs only [w_fn, w_seq, w_if, w_sB, w_tru, w_s2, w_s1, w_rd1, w_rd2, w_var, w_C, w_lookV, w_lookO, w_lookS, w_set, w_putV, w_putO, w_asg, w_gSub, w_gN, w_gT, w_gsN, w_gsC, w_toDV, w_toDO, w_toDS, w_updR, w_updS, w_ret, w_moveV, w_moveO, w_moveS, w_skip, w_and, w_or, w_not, w_andV, w_orV, w_notV, w_chain, w_lst, w_tup, w_nil, w_cons, w_call, w_drop, w_augS, w_M, w_app, w_par, w_putAll0, w_putAll1, w_kNil, w_kCons, w_keepV, w_keepO, w_for, w_lc, w_it, w_itK, w_enum, w_zip, w_callS, w_zipX, w_rng1, w_rng2, w_pure, w_cell, w_no, w_part, w_sl, w_slT, w_slL, ok_ok,
    List.map_cons, List.map_nil, List.length_cons, List.length_nil, List.replicate, List.cons_append, List.nil_append, List.getElem?_cons_zero, List.getElem?_cons_succ, List.set_cons_zero, List.set_cons_succ, look_int, look_bl, look_non, look_str, look_tup, look_lst, look_dic, look_scr, look_ty, look_ref,
    w_gtI, w_modI, w_divI, w_addI, w_subI, w_mulI, w_geI, w_ltI, w_leI, w_eqI, w_neI, w_aug, w_imul, true_and, Nat.reduceAdd]
    rw [tk, prod_snoc]
    exact ⟨by omega, by omega, _, rfl⟩
  · rintro s1 ⟨_, x2, rfl⟩
    rw [Nat.zero_add, List.length_map, List.take_length]
    simp -implicitDefEqProofs only [w_fn, w_seq, w_if, w_sB, w_tru, w_s2, w_s1, w_rd1, w_rd2, w_var, w_C, w_lookV, w_lookO, w_lookS, w_set, w_putV, w_putO, w_asg, w_gSub, w_gN, w_gT, w_gsN, w_gsC, w_toDV, w_toDO, w_toDS, w_updR, w_updS, w_ret, w_moveV, w_moveO, w_moveS, w_skip, w_and, w_or, w_not, w_andV, w_orV, w_notV, w_chain, w_lst, w_tup, w_nil, w_cons, w_call, w_drop, w_augS, w_M, w_app, w_par, w_putAll0, w_putAll1, w_kNil, w_kCons, w_keepV, w_keepO, w_for, w_lc, w_it, w_itK, w_enum, w_zip, w_callS, w_zipX, w_rng1, w_rng2, w_pure, w_cell, w_no, w_part, w_sl, w_slT, w_slL, ok_ok,
    List.map_cons, List.map_nil, List.length_cons, List.length_nil, List.replicate, List.cons_append, List.nil_append, List.getElem?_cons_zero, List.getElem?_cons_succ, List.set_cons_zero, List.set_cons_succ, look_int, look_bl, look_non, look_str, look_tup, look_lst, look_dic, look_scr, look_ty, look_ref,
    w_gtI, w_modI, w_divI, w_addI, w_subI, w_mulI, w_geI, w_ltI, w_leI, w_eqI, w_neI, true_and]
end
end L06

namespace L06
open PySem DL L2
section
variable {s : DS} {QR : R → DS → Prop} {QP : List (D × D) → DS → Prop} {QU : Unit → DS → Prop} {QC : Ctl → DS → Prop} {n m b a k : Int} {d : D} {ds : List D} {e : List Slot} {t : List D} {N A B : Net} {ns st u S C cs v s1 s2 v1 v2 : List Int} {i j : Nat}
theorem ups_snoc {n : Nat} : ups (n + 1) = ups n ++ [(n : Int)] := by unfold ups; rw [List.range_succ, List.map_append]; rfl
theorem ups_mem {n : Nat} {z : Int} : z ∈ ups n ↔ 0 ≤ z ∧ z < n := by
  constructor
  · intro h
    obtain ⟨k, hk, rfl⟩ := List.mem_map.mp h
    have := List.mem_range.mp hk
    omega
  · intro h
    exact List.mem_map.mpr ⟨z.toNat, List.mem_range.mpr (by omega), by omega⟩
theorem ups_sorted : ∀ n : Nat, sortedI 0 (ups n)
  | 0 => trivial
  | n + 1 => by
    rw [ups_snoc]
    exact sortedI_app (ups_sorted n) (fun k hk => (ups_mem.mp hk).2) (by omega)
theorem opn_ok (h : N.Ok) : N.opn.Ok := ⟨h.mo1, h.mo2, h.mo3, h.wi1, h.wi2, ups_sorted _, fun i hi => ups_mem.mp hi⟩
theorem opn_ticks (h : TicksOk N v) : TicksOk N.opn v := ⟨h.len, h.lo, fun i x hx _ => ups_mem.mpr (by
  have := (List.getElem?_eq_some_iff.mp hx).1
  have := h.len
  omega)⟩
theorem jn_state (h1 : StateOk A s1) (h2 : StateOk B s2) : StateOk (jn A B) (s1 ++ s2) := ⟨by rw [List.length_append, h1.1, h2.1, jn_len], fun i m e => by
  have e : (A.mo ++ B.mo)[i]? = some m := e
  rw [app_get, h1.1]
  by_cases c : i < A.mo.length
  · rw [if_pos c]
    rw [List.getElem?_append_left c] at e
    exact h1.2 i m e
  · rw [if_neg c]
    rw [List.getElem?_append_right (by omega)] at e
    exact h2.2 _ m e⟩
theorem jn_ticks (h1 : TicksOk A v1) (h2 : TicksOk B v2) : TicksOk (jn A B) (v1 ++ v2) := by
  have q : ∀ (i : Nat) (x : Int), (v1 ++ v2)[i]? = some x → (i < A.mo.length ∧ v1[i]? = some x) ∨ (¬ i < A.mo.length ∧ v2[i - A.mo.length]? = some x) := fun i x e => by
    by_cases c : i < A.mo.length
    · rw [List.getElem?_append_left (by rw [h1.len]; exact c)] at e
      exact .inl ⟨c, e⟩
    · rw [List.getElem?_append_right (by rw [h1.len]; omega), h1.len] at e
      exact .inr ⟨c, e⟩
  refine ⟨by rw [List.length_append, h1.len, h2.len, jn_len], fun i x e => ?_, fun i x e h0 => ?_⟩
  · rcases q i x e with ⟨_, e⟩ | ⟨_, e⟩
    · exact h1.lo i x e
    · exact h2.lo _ x e
  · rcases q i x e with ⟨_, e⟩ | ⟨c, e⟩
    · exact List.mem_append_left _ (h1.at_ i x e h0)
    · refine List.mem_append_right _ (List.mem_map.mpr ⟨_, h2.at_ _ x e h0, ?_⟩)
      omega
theorem zero_ticks : TicksOk N (List.replicate N.mo.length 0) := by
  have h : ∀ (i : Nat) (x : Int), (List.replicate N.mo.length (0 : Int))[i]? = some x → x = 0 := fun i x hx => by
    rw [List.getElem?_replicate] at hx
    split at hx
    · cases hx; rfl
    · cases hx
  exact ⟨List.length_replicate, fun i x hx => by rw [h i x hx]; omega, fun i x hx h0 => absurd (h i x hx) h0⟩
theorem rep_get {n j : Nat} : (List.replicate n (0 : Int)).getD j 0 = 0 := by
  rw [List.getD_eq_getElem?_getD, List.getElem?_replicate]
  split <;> rfl
theorem sm_zero {P : Int × Int × Int → Bool} : ∀ {ws : List (Int × Int × Int)}, sm P (fun _ => 0) ws = 0
  | [] => rfl
  | w :: r => by unfold sm; rw [sm_zero]; split <;> rfl
theorem inS_zero {j : Nat} {c : Nat → Int} (h : ∀ i, c i = 0) : inS N c j = 0 := by
  unfold inS
  have e : (fun w : Int × Int × Int => w.2.2 * c w.1.toNat) = fun _ => 0 := by
    funext w; rw [h]; exact Int.mul_zero _
  rw [e, sm_zero]
theorem zero_flow (h : N.Ok) (hs : StateOk N st) : upF (qF N st (List.replicate N.mo.length 0)) N.mo.length = List.replicate N.mo.length 0 ∧ upF (lF N st (List.replicate N.mo.length 0)) N.mo.length = st := by
  have q := flow_unique (st := st) (v := List.replicate N.mo.length 0) (s := fun j => st.getD j 0) (c := fun _ => 0) h List.length_replicate (fun j hj => by
    have := hs.2 j _ (List.getElem?_eq_getElem hj)
    rw [List.getD_eq_getElem?_getD (l := N.mo), List.getElem?_eq_getElem hj]
    exact this) fun j hj => by
    rw [inS_zero fun _ => rfl, rep_get, Int.mul_zero]
    omega
  have ex : ∀ {l : List Int} {f : Nat → Int}, l.length = N.mo.length → (∀ j, j < N.mo.length → l.getD j 0 = f j) → upF f N.mo.length = l := fun {l f} hl hf => by
    refine List.ext_getElem (by rw [upF_len, hl]) fun i h1 h2 => ?_
    have e1 := hf i (by omega)
    have e2 := upF_get (f := f) (n := N.mo.length) (i := i) (by omega)
    rw [List.getD_eq_getElem?_getD, List.getElem?_eq_getElem h2] at e1
    rw [List.getD_eq_getElem?_getD, List.getElem?_eq_getElem h1] at e2
    exact e2.trans e1.symm
  exact ⟨ex List.length_replicate fun j hj => by rw [rep_get]; exact (q j hj).1, ex hs.1 fun j hj => (q j hj).2⟩
/-! ### what is written out -/
theorem up_sm {f : Nat → Int} {n : Nat} (h : ∀ i, i < n → SmI (f i) 1500) : ∀ x ∈ upF f n, SmI x 1500 := by
  intro x hx
  obtain ⟨i, hi, rfl⟩ := List.mem_map.mp hx
  exact h i (List.mem_range.mp hi)
theorem told_repr (h : N.Ok) (hs : StateOk N st) (hv : TicksOk N v) : Ok (reprM (toldD N st v) s) QR = QR (.val (.str (toP (toldD N st v)).shown)) s := by
  have hm2 := h.mo2
  have B1 : (1000 : Int) ≤ 10000000000000000000000000000000000000000 := by decide
  have B2 : (10000000000000000000000000000000000000000 : Int) ≤ big := by unfold big; decide
  have vl := ticks_le hv
  have pA : PG (toP (tupI (upF (arrF N st v) N.mo.length))) 1 10 := (PG.tupI (up_sm fun i hi => SmI.mono (bg_sm (k := i) B1 B2 (by omega) (by
    have p := bg_pos B1 i
    have g := (cmF_bg h hs B1 vl i (by omega)).get (by omega) i
    rw [cmF_arr h hv.len (Nat.le_refl i)] at g
    omega)) (by decide : 1000 ≤ 1500))).mono (by decide) (by rw [upF_len]; omega)
  have pQ : PG (toP (tupI (upF (qF N st v) N.mo.length))) 1 10 := (PG.tupI (up_sm fun i hi => SmI.mono (bg_sm (k := i) B1 B2 (by omega) (by
    have p := bg_pos B1 i
    have g := qF_bg h hs B1 vl hi
    omega)) (by decide : 1000 ≤ 1500))).mono (by decide) (by rw [upF_len]; omega)
  have pL : PG (toP (tupI (upF (lF N st v) N.mo.length))) 1 10 := (PG.tupI (up_sm fun i hi => by
    have := l_rng (st := st) (v := v) h hi
    have := mo_at h hi
    exact SmI.mono (SmI.of (by omega) (by omega)) (by decide : 100 ≤ 1500))).mono (by decide) (by rw [upF_len]; omega)
  exact repr_pg (d := toldD N st v) (PG.list (.cons pL (.cons pA (.cons pQ .nil)))) (by decide) (by decide)
theorem pgw (h : N.Ok) : PG (toP N.d) 3 (30 + 4 * N.wi.length) := by
  have hm2 := h.mo2
  have hil := inp_len h.in1 (fun i hi => by have := h.in2 i hi; omega) (by decide)
  have f : ∀ {x : Int}, -1000 ≤ x → x ≤ 1000 → SmI x 1500 := fun a b => SmI.mono (SmI.of (by omega) (by omega)) (by decide : 100 ≤ 1500)
  have p1 : PG (toP (tupI N.mo)) 2 10 := (PG.tupI fun x hx => by have := h.mo3 x hx; exact f (by omega) (by omega)).mono (by decide) hm2
  have p3 : PG (toP (tupI N.inp)) 2 10 := (PG.tupI fun x hx => by have := h.in2 x hx; exact f (by omega) (by omega)).mono (by decide) (by omega)
  have p2 : PG (toP (.tup (N.wi.map wireD))) 2 (4 * N.wi.length) := by
    rw [toP, toPs_map]
    refine (PG.tuple (PGAll.map (k := 1) (b := 3) fun w hw => PG.wire ?_ ?_ ?_)).mono (Nat.le_refl _) (by omega)
    all_goals have := h.wi1 w hw; omega
  exact (PG.tuple (.cons p1 (.cons p2 (.cons p3 .nil)))).mono (by decide) (by omega)
theorem nets_repr (hA : A.Ok) (hB : B.Ok) (h10 : A.mo.length + B.mo.length ≤ 10) : Ok (reprM (.tup [A.d, B.d, (jn A B).d]) s) QR = QR (.val (.str (toP (.tup [A.d, B.d, (jn A B).d])).shown)) s := by
  have hJ := jn_ok hA hB h10
  have hw := hJ.wlen
  have el : (jn A B).wi.length = A.wi.length + B.wi.length := by
    show (A.wi ++ B.wi.map (shW A.mo.length)).length = _
    rw [List.length_append, List.length_map]
  exact repr_pg (d := .tup [A.d, B.d, (jn A B).d]) (PG.tuple (.cons (pgw hA) (.cons (pgw hB) (.cons (pgw hJ) .nil)))) (by decide) (by omega)
theorem w_addTT {x y : List D} : Ok (addD (.tup x) (.tup y) s) QR = (x.length + y.length ≤ lim ∧ QR (.val (.tup (x ++ y))) s) := by
  unfold addD
  by_cases c : x.length + y.length ≤ lim
  · simp only [if_pos c]; exact propext ⟨fun h => ⟨c, h⟩, fun h => h.2⟩
  · simp only [if_neg c]; exact propext ⟨fun h => h.elim, fun h => (c h.1).elim⟩
theorem add_tupI {x y : List Int} (hx : x.length ≤ 1000) (hy : y.length ≤ 1000) : Ok (addD (tupI x) (tupI y) s) QR = QR (.val (tupI (x ++ y))) s := by
  unfold tupI
  rw [w_addTT, List.map_append]
  exact propext ⟨fun h => h.2, fun h => ⟨by rw [List.length_map, List.length_map]; show _ ≤ 1000000; omega, h⟩⟩
theorem tri0L {x y z : D} : Ok (ixD (.lst [x, y, z]) (.int 0) s) QR = QR (.val x) s := rfl
theorem tri2L {x y z : D} : Ok (ixD (.lst [x, y, z]) (.int 2) s) QR = QR (.val z) s := rfl
/-- both at once -/
theorem told_jn (hA : A.Ok) (hB : B.Ok) (h10 : A.mo.length + B.mo.length ≤ 10) (l1 : s1.length = A.mo.length) (k1 : v1.length = A.mo.length) (k2 : v2.length = B.mo.length) :
    toldD (jn A B) (s1 ++ s2) (v1 ++ v2) = .lst [tupI (upF (lF A s1 v1) A.mo.length ++ upF (lF B s2 v2) B.mo.length), tupI (upF (arrF A s1 v1) A.mo.length ++ upF (arrF B s2 v2) B.mo.length), tupI (upF (qF A s1 v1) A.mo.length ++ upF (qF B s2 v2) B.mo.length)] := by
  obtain ⟨a, b, c⟩ := jn_all (s2 := s2) hA hB h10 l1 k1 k2
  unfold toldD
  rw [a, b, c]
theorem cmF_opn : ∀ k : Nat, cmF N.opn st v k = cmF N st v k
  | 0 => rfl
  | k + 1 => by
    unfold cmF
    rw [cmF_opn k]; rfl
theorem told_opn (h : N.Ok) (hv : v.length = N.mo.length) : toldD N.opn st v = toldD N st v := by
  have q : qF N.opn st v = qF N st v := by funext k; unfold qF; rw [cmF_opn]; rfl
  have l : lF N.opn st v = lF N st v := by funext k; unfold lF; rw [cmF_opn]; rfl
  have a : arrF N.opn st v = arrF N st v := by funext k; unfold arrF; rw [q]; rfl
  unfold toldD
  rw [q, l, a]; rfl
end
end L06

namespace L06
open PySem DL L2
section
variable {s : DS} {QR : R → DS → Prop} {QP : List (D × D) → DS → Prop} {QU : Unit → DS → Prop} {QC : Ctl → DS → Prop} {n m b a k : Int} {d : D} {ds : List D} {e : List Slot} {t : List D} {N A B : Net} {ns st u S C cs v s1 s2 v1 v2 : List Int} {i j : Nat}
theorem w_pairs0 : Ok (sPairs [] s) QP = QP [] s := rfl
theorem w_pairsC {fk fv : M R} {r : List (M R × M R)} : Ok (sPairs ((fk, fv) :: r) s) QP = Ok (fk s) fun rk s1 => Ok (rk.toD s1) fun k s2 => Ok (fv s2) fun rv s3 => Ok (rv.toD s3) fun v s4 => Ok (sPairs r s4) fun ps s5 => QP ((k, v) :: ps) s5 := by
  show Ok (match fk s with
    | .ok rk s1 => (match rk.toD s1 with
      | .ok k s2 => (match fv s2 with
        | .ok rv s3 => (match rv.toD s3 with
          | .ok v s4 => (match sPairs r s4 with
            | .ok ps s5 => .ok ((k, v) :: ps) s5
            | .exn x s5 => .exn x s5
            | .bad => .bad)
          | _ => .bad)
        | .exn x s3 => .exn x s3
        | .bad => .bad)
      | _ => .bad)
    | .exn x s1 => .exn x s1
    | .bad => .bad) QP = _
  cases fk s with
  | ok rk s1 =>
    simp only [ok_ok]
    cases rk.toD s1 with
    | ok k s2 =>
      simp only [ok_ok]
      cases fv s2 with
      | ok rv s3 =>
        simp only [ok_ok]
        cases rv.toD s3 with
        | ok v s4 => simp only [ok_ok]; cases sPairs r s4 <;> rfl
        | _ => rfl
      | _ => rfl
    | _ => rfl
  | _ => rfl
theorem w_disp {fs : List (M R × M R)} : Ok (sDisp fs s) QR = Ok (sPairs fs s) fun ps s1 => match keysD (ps.map (·.1)) with | some ks => (ks.length ≤ 15 ∧ ks.Nodup) ∧ QR (.own (.dic ks (ps.map (·.2)))) s1 | none => False := by
  unfold sDisp
  cases sPairs fs s with
  | ok ps s1 =>
    simp only [ok_ok]
    cases keysD (ps.map (·.1)) with
    | none => rfl
    | some ks =>
      simp only []
      by_cases c : ks.length ≤ 15 ∧ ks.Nodup
      · rw [if_pos c]; exact propext ⟨fun h => ⟨c, h⟩, fun h => h.2⟩
      · rw [if_neg c]; exact propext ⟨fun h => h.elim, fun h => (c h.1).elim⟩
  | _ => rfl
theorem keys4 : keysD [D.str "cells", D.str "next", D.str "rest", D.str "count"] = some [.inr "cells", .inr "next", .inr "rest", .inr "count"] := rfl
theorem nodup4 : ([.inr "cells", .inr "next", .inr "rest", .inr "count"] : List Key).length ≤ 15 ∧ ([.inr "cells", .inr "next", .inr "rest", .inr "count"] : List Key).Nodup := by decide +kernel
theorem source_eq (hn : ns.length ≤ 63) : r__law_source [.scr ns] ⟨e, t⟩ = .ok (.own (sdic (ns ++ [(ns.length : Int)]) 0 0 0)) ⟨e, t⟩ := by
  apply Ok.eq
  unfold r__law_source m__law_source
  have ax : ∀ (s : DS) (QR : R → DS → Prop), Ok (addX (.scr ns) (.lst [.int (ns.length : Int)]) s) QR = QR (.own (.lst ((ns ++ [(ns.length : Int)]).map D.int))) s := fun s QR => by
    have c : ns.length + ([.int (ns.length : Int)] : List D).length ≤ lim := by show ns.length + 1 ≤ 1000000; omega
    unfold addX
    simp only [if_pos c, List.map_append]; rfl
  simp -implicitDefEqProofs only [w_fn, w_seq, w_if, w_sB, w_tru, w_s2, w_s1, w_rd1, w_rd2, w_var, w_C, w_lookV, w_lookO, w_lookS, w_set, w_putV, w_putO, w_asg, w_gSub, w_gN, w_gT, w_gsN, w_gsC, w_toDV, w_toDO, w_toDS, w_updR, w_updS, w_ret, w_moveV, w_moveO, w_moveS, w_skip, w_and, w_or, w_not, w_andV, w_orV, w_notV, w_chain, w_lst, w_tup, w_nil, w_cons, w_call, w_drop, w_augS, w_M, w_app, w_par, w_putAll0, w_putAll1, w_kNil, w_kCons, w_keepV, w_keepO, w_for, w_lc, w_it, w_itK, w_enum, w_zip, w_callS, w_zipX, w_rng1, w_rng2, w_pure, w_cell, w_no, w_part, w_sl, w_slT, w_slL, ok_ok,
    List.map_cons, List.map_nil, List.length_cons, List.length_nil, List.replicate, List.cons_append, List.nil_append, List.getElem?_cons_zero, List.getElem?_cons_succ, List.set_cons_zero, List.set_cons_succ, look_int, look_bl, look_non, look_str, look_tup, look_lst, look_dic, look_scr, look_ty, look_ref,
    w_gtI, w_modI, w_divI, w_addI, w_subI, w_mulI, w_geI, w_ltI, w_leI, w_eqI, w_neI, w_disp, w_pairs0, w_pairsC, len_scr, ax, true_and, and_true, Nat.reduceAdd, Nat.reduceSub]
  rw [keys4]
  exact ⟨by decide, nodup4, rfl⟩
theorem draw_snoc {mo ps : List Int} {i : Nat} {m v : Int} (hl : ps.length = i) (hr : ∀ (j : Nat) (m : Int), j < i → mo[j]? = some m → 0 ≤ ps.getD j 0 ∧ ps.getD j 0 < m) (em : mo[i]? = some m) (hv : 0 ≤ v ∧ v < m) :
    ∀ (j : Nat) (m : Int), j < 0 + i + 1 → mo[j]? = some m → 0 ≤ (ps ++ [v]).getD j 0 ∧ (ps ++ [v]).getD j 0 < m := by
  intro j m' hj ej
  by_cases c : j = i
  · subst c
    rw [em] at ej
    cases ej
    rw [List.getD_eq_getElem?_getD, List.getElem?_append_right (by omega), hl, Nat.sub_self]
    exact hv
  · rw [List.getD_eq_getElem?_getD, List.getElem?_append_left (by omega), ← List.getD_eq_getElem?_getD]
    exact hr j m' (by omega) ej
theorem plain : ∀ ns : List Int, ns.length ≤ 63 → ∃ s', r_law [.scr ns] ⟨[], []⟩ = .ok (.val (.bl true)) s' := by
  intro ns hns
  suffices h : Ok (r_law [.scr ns] ⟨[], []⟩) fun r _ => r = .val (.bl true) by
    obtain ⟨r, s', e1, e2⟩ := h.get
    exact ⟨s', by rw [e1, e2]⟩
  have hcs : ns ++ [(ns.length : Int)] ≠ [] := by simp
  unfold r_law m_law
  simp -implicitDefEqProofs only [w_fn, w_seq, w_if, w_sB, w_tru, w_s2, w_s1, w_rd1, w_rd2, w_var, w_C, w_lookV, w_lookO, w_lookS, w_set, w_putV, w_putO, w_asg, w_gSub, w_gN, w_gT, w_gsN, w_gsC, w_toDV, w_toDO, w_toDS, w_updR, w_updS, w_ret, w_moveV, w_moveO, w_moveS, w_skip, w_and, w_or, w_not, w_andV, w_orV, w_notV, w_chain, w_lst, w_tup, w_nil, w_cons, w_call, w_drop, w_augS, w_M, w_app, w_par, w_putAll0, w_putAll1, w_kNil, w_kCons, w_keepV, w_keepO, w_for, w_lc, w_it, w_itK, w_enum, w_zip, w_callS, w_zipX, w_rng1, w_rng2, w_pure, w_cell, w_no, w_part, w_sl, w_slT, w_slL, ok_ok,
    List.map_cons, List.map_nil, List.length_cons, List.length_nil, List.replicate, List.cons_append, List.nil_append, List.getElem?_cons_zero, List.getElem?_cons_succ, List.set_cons_zero, List.set_cons_succ, look_int, look_bl, look_non, look_str, look_tup, look_lst, look_dic, look_scr, look_ty, look_ref,
    w_gtI, w_modI, w_divI, w_addI, w_subI, w_mulI, w_geI, w_ltI, w_leI, w_eqI, w_neI, source_eq hns, ints1, List.length_nil, Nat.reduceAdd, Nat.reduceSub, true_and]
  generalize ns ++ [(ns.length : Int)] = cs at hcs ⊢
  refine ⟨by unfold rlim; omega, ?_⟩
  refine Ok.forL (k := 0) (fun k s => ∃ x2 x3 x4 x5 x6 x7 x8 x9 x10 x11 x12 x13 x14 x15 x16 x17 t, s = ⟨[.val (.scr ns), .val (.ref 0), x2, x3, x4, x5, x6, x7, x8, x9, x10, x11, x12, x13, x14, x15, x16, x17], t⟩ ∧ At cs t (2000 * k)) ⟨_, _, _, _, _, _, _, _, _, _, _, _, _, _, _, _, _, rfl, 0, 0, 0, rfl, by omega, by omega⟩ ?_ ?_
  · rintro turn x _ hx ⟨x2, x3, x4, x5, x6, x7, x8, x9, x10, x11, x12, x13, x14, x15, x16, x17, t, rfl, hat⟩
    have ht8 : turn < 8 := (rng_at hx).1
    obtain ⟨ht, rfl⟩ := rng_at hx
    rw [Nat.zero_add] at hat
    simp -implicitDefEqProofs only [w_fn, w_seq, w_if, w_sB, w_tru, w_s2, w_s1, w_rd1, w_rd2, w_var, w_C, w_lookV, w_lookO, w_lookS, w_set, w_putV, w_putO, w_asg, w_gSub, w_gN, w_gT, w_gsN, w_gsC, w_toDV, w_toDO, w_toDS, w_updR, w_updS, w_ret, w_moveV, w_moveO, w_moveS, w_skip, w_and, w_or, w_not, w_andV, w_orV, w_notV, w_chain, w_lst, w_tup, w_nil, w_cons, w_call, w_drop, w_augS, w_M, w_app, w_par, w_putAll0, w_putAll1, w_kNil, w_kCons, w_keepV, w_keepO, w_for, w_lc, w_it, w_itK, w_enum, w_zip, w_callS, w_zipX, w_rng1, w_rng2, w_pure, w_cell, w_no, w_part, w_sl, w_slT, w_slL, ok_ok,
    List.map_cons, List.map_nil, List.length_cons, List.length_nil, List.replicate, List.cons_append, List.nil_append, List.getElem?_cons_zero, List.getElem?_cons_succ, List.set_cons_zero, List.set_cons_succ, look_int, look_bl, look_non, look_str, look_tup, look_lst, look_dic, look_scr, look_ty, look_ref,
    w_gtI, w_modI, w_divI, w_addI, w_subI, w_mulI, w_geI, w_ltI, w_leI, w_eqI, w_neI, Nat.reduceAdd, Nat.reduceSub, true_and]
    refine (net_at hcs (by decide) (by decide) (by decide) (by decide) hat (by omega)).imp ?_
    rintro r s ⟨A, t1, rfl, hA, hA5, rfl, hat1⟩
    simp -implicitDefEqProofs only [w_fn, w_seq, w_if, w_sB, w_tru, w_s2, w_s1, w_rd1, w_rd2, w_var, w_C, w_lookV, w_lookO, w_lookS, w_set, w_putV, w_putO, w_asg, w_gSub, w_gN, w_gT, w_gsN, w_gsC, w_toDV, w_toDO, w_toDS, w_updR, w_updS, w_ret, w_moveV, w_moveO, w_moveS, w_skip, w_and, w_or, w_not, w_andV, w_orV, w_notV, w_chain, w_lst, w_tup, w_nil, w_cons, w_call, w_drop, w_augS, w_M, w_app, w_par, w_putAll0, w_putAll1, w_kNil, w_kCons, w_keepV, w_keepO, w_for, w_lc, w_it, w_itK, w_enum, w_zip, w_callS, w_zipX, w_rng1, w_rng2, w_pure, w_cell, w_no, w_part, w_sl, w_slT, w_slL, ok_ok,
    List.map_cons, List.map_nil, List.length_cons, List.length_nil, List.replicate, List.cons_append, List.nil_append, List.getElem?_cons_zero, List.getElem?_cons_succ, List.set_cons_zero, List.set_cons_succ, look_int, look_bl, look_non, look_str, look_tup, look_lst, look_dic, look_scr, look_ty, look_ref,
    w_gtI, w_modI, w_divI, w_addI, w_subI, w_mulI, w_geI, w_ltI, w_leI, w_eqI, w_neI, Nat.reduceAdd, Nat.reduceSub, true_and]
    refine (net_at hcs (by decide) (by decide) (by decide) (by decide) hat1 (by omega)).imp ?_
    rintro r s ⟨B, t2, rfl, hB, hB5, rfl, hat2⟩
    simp -implicitDefEqProofs only [w_fn, w_seq, w_if, w_sB, w_tru, w_s2, w_s1, w_rd1, w_rd2, w_var, w_C, w_lookV, w_lookO, w_lookS, w_set, w_putV, w_putO, w_asg, w_gSub, w_gN, w_gT, w_gsN, w_gsC, w_toDV, w_toDO, w_toDS, w_updR, w_updS, w_ret, w_moveV, w_moveO, w_moveS, w_skip, w_and, w_or, w_not, w_andV, w_orV, w_notV, w_chain, w_lst, w_tup, w_nil, w_cons, w_call, w_drop, w_augS, w_M, w_app, w_par, w_putAll0, w_putAll1, w_kNil, w_kCons, w_keepV, w_keepO, w_for, w_lc, w_it, w_itK, w_enum, w_zip, w_callS, w_zipX, w_rng1, w_rng2, w_pure, w_cell, w_no, w_part, w_sl, w_slT, w_slL, ok_ok,
    List.map_cons, List.map_nil, List.length_cons, List.length_nil, List.replicate, List.cons_append, List.nil_append, List.getElem?_cons_zero, List.getElem?_cons_succ, List.set_cons_zero, List.set_cons_succ, look_int, look_bl, look_non, look_str, look_tup, look_lst, look_dic, look_scr, look_ty, look_ref,
    w_gtI, w_modI, w_divI, w_addI, w_subI, w_mulI, w_geI, w_ltI, w_leI, w_eqI, w_neI, look_net, d0, tupI, Nat.reduceAdd, Nat.reduceSub, true_and]
    have lA : (A.mo.map D.int).length = A.mo.length := List.length_map ..
    have lB : (B.mo.map D.int).length = B.mo.length := List.length_map ..
    have hmA := hA.mo2
    have hmB := hB.mo2
    have h10 : A.mo.length + B.mo.length ≤ 10 := by omega
    refine Ok.lcL (k := 0) (fun i ac s => ∃ (ps : List Int) (x15 : DL.Slot) (t' : List D), ac = ps.map D.int ∧ s = ⟨[.val (.scr ns), .val (.ref 0), .val (.int (0 + (turn : Int))), .val A.d, .val B.d, x5, x6, x7, x8, x9, x10, x11, x12, x13, x14, x15, x16, x17], t'⟩ ∧ ps.length = i ∧ i ≤ A.mo.length ∧ (∀ (j : Nat) (m : Int), j < i → A.mo[j]? = some m → 0 ≤ ps.getD j 0 ∧ ps.getD j 0 < m) ∧ At cs t' (2000 * turn + 600 + i)) ⟨[], _, _, rfl, rfl, rfl, Nat.zero_le _, fun j m hj => absurd hj (Nat.not_lt_zero _), hat2.mono (by omega)⟩ ?_ ?_
    · rintro i x ac _ hx ⟨ps, y15, t', rfl, rfl, hl, hi, hr, hat'⟩
      rw [Nat.zero_add] at hl hi hr hat'
      obtain ⟨m, em, rfl⟩ := int_at hx
      have him : i < A.mo.length := (List.getElem?_eq_some_iff.mp em).1
      obtain ⟨hm3, hm4⟩ := hA.mo3 m (List.mem_of_getElem? em)
      simp -implicitDefEqProofs only [w_fn, w_seq, w_if, w_sB, w_tru, w_s2, w_s1, w_rd1, w_rd2, w_var, w_C, w_lookV, w_lookO, w_lookS, w_set, w_putV, w_putO, w_asg, w_gSub, w_gN, w_gT, w_gsN, w_gsC, w_toDV, w_toDO, w_toDS, w_updR, w_updS, w_ret, w_moveV, w_moveO, w_moveS, w_skip, w_and, w_or, w_not, w_andV, w_orV, w_notV, w_chain, w_lst, w_tup, w_nil, w_cons, w_call, w_drop, w_augS, w_M, w_app, w_par, w_putAll0, w_putAll1, w_kNil, w_kCons, w_keepV, w_keepO, w_for, w_lc, w_it, w_itK, w_enum, w_zip, w_callS, w_zipX, w_rng1, w_rng2, w_pure, w_cell, w_no, w_part, w_sl, w_slT, w_slL, ok_ok,
    List.map_cons, List.map_nil, List.length_cons, List.length_nil, List.replicate, List.cons_append, List.nil_append, List.getElem?_cons_zero, List.getElem?_cons_succ, List.set_cons_zero, List.set_cons_succ, look_int, look_bl, look_non, look_str, look_tup, look_lst, look_dic, look_scr, look_ty, look_ref,
    w_gtI, w_modI, w_divI, w_addI, w_subI, w_mulI, w_geI, w_ltI, w_leI, w_eqI, w_neI, Nat.reduceAdd, Nat.reduceSub, true_and, if_true]
      refine (draw_at hcs hat' (by omega) (by omega) (by omega)).imp ?_
      rintro r s ⟨v, t2, rfl, v0, v1, rfl, ht2⟩
      simp -implicitDefEqProofs only [w_fn, w_seq, w_if, w_sB, w_tru, w_s2, w_s1, w_rd1, w_rd2, w_var, w_C, w_lookV, w_lookO, w_lookS, w_set, w_putV, w_putO, w_asg, w_gSub, w_gN, w_gT, w_gsN, w_gsC, w_toDV, w_toDO, w_toDS, w_updR, w_updS, w_ret, w_moveV, w_moveO, w_moveS, w_skip, w_and, w_or, w_not, w_andV, w_orV, w_notV, w_chain, w_lst, w_tup, w_nil, w_cons, w_call, w_drop, w_augS, w_M, w_app, w_par, w_putAll0, w_putAll1, w_kNil, w_kCons, w_keepV, w_keepO, w_for, w_lc, w_it, w_itK, w_enum, w_zip, w_callS, w_zipX, w_rng1, w_rng2, w_pure, w_cell, w_no, w_part, w_sl, w_slT, w_slL, ok_ok,
    List.map_cons, List.map_nil, List.length_cons, List.length_nil, List.replicate, List.cons_append, List.nil_append, List.getElem?_cons_zero, List.getElem?_cons_succ, List.set_cons_zero, List.set_cons_succ, look_int, look_bl, look_non, look_str, look_tup, look_lst, look_dic, look_scr, look_ty, look_ref,
    w_gtI, w_modI, w_divI, w_addI, w_subI, w_mulI, w_geI, w_ltI, w_leI, w_eqI, w_neI]
      refine ⟨by rw [List.length_map, hl]; show _ < 1000000; omega, ps ++ [v], _, t2, by rw [List.map_append]; rfl, rfl, by rw [List.length_append, hl, Nat.zero_add]; rfl, by omega, draw_snoc hl hr em ⟨v0, v1⟩, ht2.mono (by omega)⟩
    rintro ac s1 ⟨p1, y15, t3, rfl, rfl, hl1, _, hr1, hat3⟩
    rw [lA, Nat.zero_add] at hl1 hr1 hat3
    have hs1 : StateOk A p1 := ⟨hl1, fun j m e => hr1 j m (List.getElem?_eq_some_iff.mp e).1 e⟩
    simp -implicitDefEqProofs only [w_fn, w_seq, w_if, w_sB, w_tru, w_s2, w_s1, w_rd1, w_rd2, w_var, w_C, w_lookV, w_lookO, w_lookS, w_set, w_putV, w_putO, w_asg, w_gSub, w_gN, w_gT, w_gsN, w_gsC, w_toDV, w_toDO, w_toDS, w_updR, w_updS, w_ret, w_moveV, w_moveO, w_moveS, w_skip, w_and, w_or, w_not, w_andV, w_orV, w_notV, w_chain, w_lst, w_tup, w_nil, w_cons, w_call, w_drop, w_augS, w_M, w_app, w_par, w_putAll0, w_putAll1, w_kNil, w_kCons, w_keepV, w_keepO, w_for, w_lc, w_it, w_itK, w_enum, w_zip, w_callS, w_zipX, w_rng1, w_rng2, w_pure, w_cell, w_no, w_part, w_sl, w_slT, w_slL, ok_ok,
    List.map_cons, List.map_nil, List.length_cons, List.length_nil, List.replicate, List.cons_append, List.nil_append, List.getElem?_cons_zero, List.getElem?_cons_succ, List.set_cons_zero, List.set_cons_succ, look_int, look_bl, look_non, look_str, look_tup, look_lst, look_dic, look_scr, look_ty, look_ref,
    w_gtI, w_modI, w_divI, w_addI, w_subI, w_mulI, w_geI, w_ltI, w_leI, w_eqI, w_neI, restE, tupM, Option.getD_some, look_net, d0, tupI, Nat.reduceAdd, Nat.reduceSub, true_and]
    refine Ok.lcL (k := 0) (fun i ac s => ∃ (ps : List Int) (x15 : DL.Slot) (t' : List D), ac = ps.map D.int ∧ s = ⟨[.val (.scr ns), .val (.ref 0), .val (.int (0 + (turn : Int))), .val A.d, .val B.d, .val (.tup (p1.map D.int)), x6, x7, x8, x9, x10, x11, x12, x13, x14, x15, x16, x17], t'⟩ ∧ ps.length = i ∧ i ≤ B.mo.length ∧ (∀ (j : Nat) (m : Int), j < i → B.mo[j]? = some m → 0 ≤ ps.getD j 0 ∧ ps.getD j 0 < m) ∧ At cs t' (2000 * turn + 610 + i)) ⟨[], _, _, rfl, rfl, rfl, Nat.zero_le _, fun j m hj => absurd hj (Nat.not_lt_zero _), hat3.mono (by omega)⟩ ?_ ?_
    · rintro i x ac _ hx ⟨ps, y15, t', rfl, rfl, hl, hi, hr, hat'⟩
      rw [Nat.zero_add] at hl hi hr hat'
      obtain ⟨m, em, rfl⟩ := int_at hx
      have him : i < B.mo.length := (List.getElem?_eq_some_iff.mp em).1
      obtain ⟨hm3, hm4⟩ := hB.mo3 m (List.mem_of_getElem? em)
      simp -implicitDefEqProofs only [w_fn, w_seq, w_if, w_sB, w_tru, w_s2, w_s1, w_rd1, w_rd2, w_var, w_C, w_lookV, w_lookO, w_lookS, w_set, w_putV, w_putO, w_asg, w_gSub, w_gN, w_gT, w_gsN, w_gsC, w_toDV, w_toDO, w_toDS, w_updR, w_updS, w_ret, w_moveV, w_moveO, w_moveS, w_skip, w_and, w_or, w_not, w_andV, w_orV, w_notV, w_chain, w_lst, w_tup, w_nil, w_cons, w_call, w_drop, w_augS, w_M, w_app, w_par, w_putAll0, w_putAll1, w_kNil, w_kCons, w_keepV, w_keepO, w_for, w_lc, w_it, w_itK, w_enum, w_zip, w_callS, w_zipX, w_rng1, w_rng2, w_pure, w_cell, w_no, w_part, w_sl, w_slT, w_slL, ok_ok,
    List.map_cons, List.map_nil, List.length_cons, List.length_nil, List.replicate, List.cons_append, List.nil_append, List.getElem?_cons_zero, List.getElem?_cons_succ, List.set_cons_zero, List.set_cons_succ, look_int, look_bl, look_non, look_str, look_tup, look_lst, look_dic, look_scr, look_ty, look_ref,
    w_gtI, w_modI, w_divI, w_addI, w_subI, w_mulI, w_geI, w_ltI, w_leI, w_eqI, w_neI, Nat.reduceAdd, Nat.reduceSub, true_and, if_true]
      refine (draw_at hcs hat' (by omega) (by omega) (by omega)).imp ?_
      rintro r s ⟨v, t2, rfl, v0, v1, rfl, ht2⟩
      simp -implicitDefEqProofs only [w_fn, w_seq, w_if, w_sB, w_tru, w_s2, w_s1, w_rd1, w_rd2, w_var, w_C, w_lookV, w_lookO, w_lookS, w_set, w_putV, w_putO, w_asg, w_gSub, w_gN, w_gT, w_gsN, w_gsC, w_toDV, w_toDO, w_toDS, w_updR, w_updS, w_ret, w_moveV, w_moveO, w_moveS, w_skip, w_and, w_or, w_not, w_andV, w_orV, w_notV, w_chain, w_lst, w_tup, w_nil, w_cons, w_call, w_drop, w_augS, w_M, w_app, w_par, w_putAll0, w_putAll1, w_kNil, w_kCons, w_keepV, w_keepO, w_for, w_lc, w_it, w_itK, w_enum, w_zip, w_callS, w_zipX, w_rng1, w_rng2, w_pure, w_cell, w_no, w_part, w_sl, w_slT, w_slL, ok_ok,
    List.map_cons, List.map_nil, List.length_cons, List.length_nil, List.replicate, List.cons_append, List.nil_append, List.getElem?_cons_zero, List.getElem?_cons_succ, List.set_cons_zero, List.set_cons_succ, look_int, look_bl, look_non, look_str, look_tup, look_lst, look_dic, look_scr, look_ty, look_ref,
    w_gtI, w_modI, w_divI, w_addI, w_subI, w_mulI, w_geI, w_ltI, w_leI, w_eqI, w_neI]
      refine ⟨by rw [List.length_map, hl]; show _ < 1000000; omega, ps ++ [v], _, t2, by rw [List.map_append]; rfl, rfl, by rw [List.length_append, hl, Nat.zero_add]; rfl, by omega, draw_snoc hl hr em ⟨v0, v1⟩, ht2.mono (by omega)⟩
    rintro ac s1 ⟨p2, y15b, t4, rfl, rfl, hl2, _, hr2, hat4⟩
    rw [lB, Nat.zero_add] at hl2 hr2 hat4
    have hs2 : StateOk B p2 := ⟨hl2, fun j m e => hr2 j m (List.getElem?_eq_some_iff.mp e).1 e⟩
    simp -implicitDefEqProofs only [w_fn, w_seq, w_if, w_sB, w_tru, w_s2, w_s1, w_rd1, w_rd2, w_var, w_C, w_lookV, w_lookO, w_lookS, w_set, w_putV, w_putO, w_asg, w_gSub, w_gN, w_gT, w_gsN, w_gsC, w_toDV, w_toDO, w_toDS, w_updR, w_updS, w_ret, w_moveV, w_moveO, w_moveS, w_skip, w_and, w_or, w_not, w_andV, w_orV, w_notV, w_chain, w_lst, w_tup, w_nil, w_cons, w_call, w_drop, w_augS, w_M, w_app, w_par, w_putAll0, w_putAll1, w_kNil, w_kCons, w_keepV, w_keepO, w_for, w_lc, w_it, w_itK, w_enum, w_zip, w_callS, w_zipX, w_rng1, w_rng2, w_pure, w_cell, w_no, w_part, w_sl, w_slT, w_slL, ok_ok,
    List.map_cons, List.map_nil, List.length_cons, List.length_nil, List.replicate, List.cons_append, List.nil_append, List.getElem?_cons_zero, List.getElem?_cons_succ, List.set_cons_zero, List.set_cons_succ, look_int, look_bl, look_non, look_str, look_tup, look_lst, look_dic, look_scr, look_ty, look_ref,
    w_gtI, w_modI, w_divI, w_addI, w_subI, w_mulI, w_geI, w_ltI, w_leI, w_eqI, w_neI, restE, tupM, Option.getD_some, look_net, Nat.reduceAdd, Nat.reduceSub, true_and]
    refine (vector_at hcs hA hat4 (by omega)).imp ?_
    rintro r s ⟨w1, t5, rfl, hw1, _, rfl, hat5⟩
    simp -implicitDefEqProofs only [w_fn, w_seq, w_if, w_sB, w_tru, w_s2, w_s1, w_rd1, w_rd2, w_var, w_C, w_lookV, w_lookO, w_lookS, w_set, w_putV, w_putO, w_asg, w_gSub, w_gN, w_gT, w_gsN, w_gsC, w_toDV, w_toDO, w_toDS, w_updR, w_updS, w_ret, w_moveV, w_moveO, w_moveS, w_skip, w_and, w_or, w_not, w_andV, w_orV, w_notV, w_chain, w_lst, w_tup, w_nil, w_cons, w_call, w_drop, w_augS, w_M, w_app, w_par, w_putAll0, w_putAll1, w_kNil, w_kCons, w_keepV, w_keepO, w_for, w_lc, w_it, w_itK, w_enum, w_zip, w_callS, w_zipX, w_rng1, w_rng2, w_pure, w_cell, w_no, w_part, w_sl, w_slT, w_slL, ok_ok,
    List.map_cons, List.map_nil, List.length_cons, List.length_nil, List.replicate, List.cons_append, List.nil_append, List.getElem?_cons_zero, List.getElem?_cons_succ, List.set_cons_zero, List.set_cons_succ, look_int, look_bl, look_non, look_str, look_tup, look_lst, look_dic, look_scr, look_ty, look_ref,
    w_gtI, w_modI, w_divI, w_addI, w_subI, w_mulI, w_geI, w_ltI, w_leI, w_eqI, w_neI, look_net, Nat.reduceAdd, Nat.reduceSub, true_and]
    refine (vector_at hcs hB hat5 (by omega)).imp ?_
    rintro r s ⟨w2, t6, rfl, hw2, _, rfl, hat6⟩
    have hJ := jn_ok hA hB h10
    have hsJ := jn_state hs1 hs2
    have hwJ := jn_ticks hw1 hw2
    have jr := fun e : List Slot => joined_run (e := e) (t := t6) hA hB h10
    have nr := fun (s : DS) (QR : R → DS → Prop) => nets_repr (s := s) (QR := QR) hA hB h10
    have tA := fun e : List Slot => told_run (e := e) (t := t6) hA hs1 hw1
    have tB := fun e : List Slot => told_run (e := e) (t := t6) hB hs2 hw2
    have tJ := fun e : List Slot => told_run (e := e) (t := t6) hJ hsJ hwJ
    have sh : ∀ {l : List Int}, l.length ≤ 10 → l.length ≤ 1000 := fun h => by omega
    have uA : ∀ f : Nat → Int, (upF f A.mo.length).length ≤ 1000 := fun f => by rw [upF_len]; omega
    have uB : ∀ f : Nat → Int, (upF f B.mo.length).length ≤ 1000 := fun f => by rw [upF_len]; omega
    have z0 : (List.replicate B.mo.length (0 : Int)).length ≤ 1000 := by rw [List.length_replicate]; omega
    have q1 : p1.length ≤ 1000 := by omega
    have q2 : p2.length ≤ 1000 := by omega
    have q3 : w1.length ≤ 1000 := by have := hw1.len; omega
    have q4 : w2.length ≤ 1000 := by have := hw2.len; omega
    have aS := fun (s : DS) (QR : R → DS → Prop) => add_tupI (s := s) (QR := QR) q1 q2
    have aW := fun (s : DS) (QR : R → DS → Prop) => add_tupI (s := s) (QR := QR) q3 q4
    have aZ := fun (s : DS) (QR : R → DS → Prop) => add_tupI (s := s) (QR := QR) q3 z0
    have aU := fun (f g : Nat → Int) (s : DS) (QR : R → DS → Prop) => add_tupI (s := s) (QR := QR) (uA f) (uB g)
    have aT := fun (f : Nat → Int) (s : DS) (QR : R → DS → Prop) => add_tupI (s := s) (QR := QR) (uA f) q2
    have aV := fun (f : Nat → Int) (s : DS) (QR : R → DS → Prop) => add_tupI (s := s) (QR := QR) (uA f) z0
    simp only [show ∀ l : List Int, D.tup (l.map D.int) = tupI l from fun _ => rfl]
    simp -implicitDefEqProofs only [w_fn, w_seq, w_if, w_sB, w_tru, w_s2, w_s1, w_rd1, w_rd2, w_var, w_C, w_lookV, w_lookO, w_lookS, w_set, w_putV, w_putO, w_asg, w_gSub, w_gN, w_gT, w_gsN, w_gsC, w_toDV, w_toDO, w_toDS, w_updR, w_updS, w_ret, w_moveV, w_moveO, w_moveS, w_skip, w_and, w_or, w_not, w_andV, w_orV, w_notV, w_chain, w_lst, w_tup, w_nil, w_cons, w_call, w_drop, w_augS, w_M, w_app, w_par, w_putAll0, w_putAll1, w_kNil, w_kCons, w_keepV, w_keepO, w_for, w_lc, w_it, w_itK, w_enum, w_zip, w_callS, w_zipX, w_rng1, w_rng2, w_pure, w_cell, w_no, w_part, w_sl, w_slT, w_slL, ok_ok,
    List.map_cons, List.map_nil, List.length_cons, List.length_nil, List.replicate, List.cons_append, List.nil_append, List.getElem?_cons_zero, List.getElem?_cons_succ, List.set_cons_zero, List.set_cons_succ, look_int, look_bl, look_non, look_str, look_tup, look_lst, look_dic, look_scr, look_ty, look_ref,
    w_gtI, w_modI, w_divI, w_addI, w_subI, w_mulI, w_geI, w_ltI, w_leI, w_eqI, w_neI, look_net, look_tupI, w_callS, List.take_zero, List.drop_zero, jr, nr, tA, tB, tJ, aS, aW, Nat.reduceAdd, Nat.reduceSub, true_and]
    have rJ : ∀ (s : DS) (QR : R → DS → Prop), Ok (reprM (toldD (jn A B) (p1 ++ p2) (w1 ++ w2)) s) QR = QR (.val (.str (toP (toldD (jn A B) (p1 ++ p2) (w1 ++ w2))).shown)) s := fun s QR => told_repr hJ hsJ hwJ
    have rA := fun (s : DS) (QR : R → DS → Prop) => told_repr (s := s) (QR := QR) hA hs1 hw1
    have ej := told_jn (s2 := p2) hA hB h10 hs1.1 hw1.len hw2.len
    have rE := rJ
    rw [ej] at rE
    refine ⟨⟨by decide, by decide⟩, by decide, ?_⟩
    rw [rJ, ej]
    generalize hT : (toP (.lst [tupI (upF (lF A p1 w1) A.mo.length ++ upF (lF B p2 w2) B.mo.length), tupI (upF (arrF A p1 w1) A.mo.length ++ upF (arrF B p2 w2) B.mo.length), tupI (upF (qF A p1 w1) A.mo.length ++ upF (qF B p2 w2) B.mo.length)])).shown = T at rE ⊢
    have eA : toldD A p1 w1 = .lst [tupI (upF (lF A p1 w1) A.mo.length), tupI (upF (arrF A p1 w1) A.mo.length), tupI (upF (qF A p1 w1) A.mo.length)] := rfl
    have eB : toldD B p2 w2 = .lst [tupI (upF (lF B p2 w2) B.mo.length), tupI (upF (arrF B p2 w2) B.mo.length), tupI (upF (qF B p2 w2) B.mo.length)] := rfl
    generalize hTA : (toP (toldD A p1 w1)).shown = TA at rA
    rw [eA] at rA
    simp -implicitDefEqProofs only [w_fn, w_seq, w_if, w_sB, w_tru, w_s2, w_s1, w_rd1, w_rd2, w_var, w_C, w_lookV, w_lookO, w_lookS, w_set, w_putV, w_putO, w_asg, w_gSub, w_gN, w_gT, w_gsN, w_gsC, w_toDV, w_toDO, w_toDS, w_updR, w_updS, w_ret, w_moveV, w_moveO, w_moveS, w_skip, w_and, w_or, w_not, w_andV, w_orV, w_notV, w_chain, w_lst, w_tup, w_nil, w_cons, w_call, w_drop, w_augS, w_M, w_app, w_par, w_putAll0, w_putAll1, w_kNil, w_kCons, w_keepV, w_keepO, w_for, w_lc, w_it, w_itK, w_enum, w_zip, w_callS, w_zipX, w_rng1, w_rng2, w_pure, w_cell, w_no, w_part, w_sl, w_slT, w_slL, ok_ok,
    List.map_cons, List.map_nil, List.length_cons, List.length_nil, List.replicate, List.cons_append, List.nil_append, List.getElem?_cons_zero, List.getElem?_cons_succ, List.set_cons_zero, List.set_cons_succ, look_int, look_bl, look_non, look_str, look_tup, look_lst, look_dic, look_scr, look_ty, look_ref,
    w_gtI, w_modI, w_divI, w_addI, w_subI, w_mulI, w_geI, w_ltI, w_leI, w_eqI, w_neI, eA, eB]
    refine Ok.lcL (k := 0) (fun i ac s => ac = ([tupI (upF (lF A p1 w1) A.mo.length ++ upF (lF B p2 w2) B.mo.length), tupI (upF (arrF A p1 w1) A.mo.length ++ upF (arrF B p2 w2) B.mo.length), tupI (upF (qF A p1 w1) A.mo.length ++ upF (qF B p2 w2) B.mo.length)] : List D).take i ∧ ∃ x16 x17, s = ⟨[.val (.scr ns), .val (.ref 0), .val (.int (0 + (turn : Int))), .val A.d, .val B.d, .val (tupI p1), .val (tupI p2), .val (tupI w1), .val (tupI w2), .val (jn A B).d, .val (.str (toP (.tup [A.d, B.d, (jn A B).d])).shown), .val (.lst [tupI (upF (lF A p1 w1) A.mo.length), tupI (upF (arrF A p1 w1) A.mo.length), tupI (upF (qF A p1 w1) A.mo.length)]), .val (.lst [tupI (upF (lF B p2 w2) B.mo.length), tupI (upF (arrF B p2 w2) B.mo.length), tupI (upF (qF B p2 w2) B.mo.length)]), x13, x14, x15, x16, x17], t6⟩) ⟨rfl, _, _, rfl⟩ ?_ ?_
    · rintro i x ac _ hx ⟨rfl, y16, y17, rfl⟩
      rw [Nat.zero_add]
      have hi : i < 3 := (List.getElem?_eq_some_iff.mp hx).1
      rcases (show i = 0 ∨ i = 1 ∨ i = 2 by omega) with h | h | h <;> subst h <;> cases hx <;> simp -implicitDefEqProofs only [w_fn, w_seq, w_if, w_sB, w_tru, w_s2, w_s1, w_rd1, w_rd2, w_var, w_C, w_lookV, w_lookO, w_lookS, w_set, w_putV, w_putO, w_asg, w_gSub, w_gN, w_gT, w_gsN, w_gsC, w_toDV, w_toDO, w_toDS, w_updR, w_updS, w_ret, w_moveV, w_moveO, w_moveS, w_skip, w_and, w_or, w_not, w_andV, w_orV, w_notV, w_chain, w_lst, w_tup, w_nil, w_cons, w_call, w_drop, w_augS, w_M, w_app, w_par, w_putAll0, w_putAll1, w_kNil, w_kCons, w_keepV, w_keepO, w_for, w_lc, w_it, w_itK, w_enum, w_zip, w_callS, w_zipX, w_rng1, w_rng2, w_pure, w_cell, w_no, w_part, w_sl, w_slT, w_slL, ok_ok,
    List.map_cons, List.map_nil, List.length_cons, List.length_nil, List.replicate, List.cons_append, List.nil_append, List.getElem?_cons_zero, List.getElem?_cons_succ, List.set_cons_zero, List.set_cons_succ, look_int, look_bl, look_non, look_str, look_tup, look_lst, look_dic, look_scr, look_ty, look_ref,
    w_gtI, w_modI, w_divI, w_addI, w_subI, w_mulI, w_geI, w_ltI, w_leI, w_eqI, w_neI, look_tupI, aU, if_true, true_and] <;> exact ⟨Nat.lt_of_le_of_lt (List.length_take_le' _ _) (show 3 < 1000000 by decide), rfl, _, _, rfl⟩
    rintro ac s1 ⟨rfl, y16, y17, rfl⟩
    refine Eq.mpr (rE _ _) ?_
    have hmB1 := hB.mo1
    have po := fun e : List Slot => opened_run (e := e) (t := t6) hA
    have tO := fun e : List Slot => told_run (e := e) (t := t6) (opn_ok hA) (st := p1) hs1 (opn_ticks hw1)
    rw [told_opn hA hw1.len, eA] at tO
    have mz := fun (s : DS) (QR : R → DS → Prop) => mul_t0 (s := s) (QR := QR) (k := B.mo.length) hmB1 (by omega)
    have zt : TicksOk B (List.replicate B.mo.length 0) := zero_ticks
    obtain ⟨zq, zl⟩ := zero_flow hB hs2
    have tZ := fun e : List Slot => told_run (e := e) (t := t6) hJ hsJ (jn_ticks hw1 zt)
    rw [told_jn (s2 := p2) hA hB h10 hs1.1 hw1.len zt.len, zq, zl] at tZ
    have cA := fun e : List Slot => count_run (e := e) (t := t6) hA
    have cB := fun e : List Slot => count_run (e := e) (t := t6) hB
    have cJ := fun e : List Slot => count_run (e := e) (t := t6) hJ
    have pj : prodI (jn A B).mo = prodI A.mo * prodI B.mo := prod_app
    rw [pj] at cJ
    have sA := prod_sm hA.mo3 hmA
    have sB := prod_sm hB.mo3 hmB
    have lB0 : ∀ (s : DS) (QR : R → DS → Prop), Ok (lenM (tupI B.mo) s) QR = QR (.val (.int (B.mo.length : Int))) s := fun s QR => by
      show Ok (lenM (.tup (B.mo.map D.int)) s) QR = _
      rw [len_tup, List.length_map]
    simp -implicitDefEqProofs only [w_fn, w_seq, w_if, w_sB, w_tru, w_s2, w_s1, w_rd1, w_rd2, w_var, w_C, w_lookV, w_lookO, w_lookS, w_set, w_putV, w_putO, w_asg, w_gSub, w_gN, w_gT, w_gsN, w_gsC, w_toDV, w_toDO, w_toDS, w_updR, w_updS, w_ret, w_moveV, w_moveO, w_moveS, w_skip, w_and, w_or, w_not, w_andV, w_orV, w_notV, w_chain, w_lst, w_tup, w_nil, w_cons, w_call, w_drop, w_augS, w_M, w_app, w_par, w_putAll0, w_putAll1, w_kNil, w_kCons, w_keepV, w_keepO, w_for, w_lc, w_it, w_itK, w_enum, w_zip, w_callS, w_zipX, w_rng1, w_rng2, w_pure, w_cell, w_no, w_part, w_sl, w_slT, w_slL, ok_ok,
    List.map_cons, List.map_nil, List.length_cons, List.length_nil, List.replicate, List.cons_append, List.nil_append, List.getElem?_cons_zero, List.getElem?_cons_succ, List.set_cons_zero, List.set_cons_succ, look_int, look_bl, look_non, look_str, look_tup, look_lst, look_dic, look_scr, look_ty, look_ref,
    w_gtI, w_modI, w_divI, w_addI, w_subI, w_mulI, w_geI, w_ltI, w_leI, w_eqI, w_neI, look_net, look_tupI, ne_str, po, tO, rA, d0, lB0, mz, aS, aZ, tZ, aT, aV, tri0L, tri2L, neTI, cA, cB, cJ, nr, Option.getD_some, decide_true, Bool.not_true, Bool.false_eq_true, if_false, Nat.reduceAdd, Nat.reduceSub, true_and]
    refine ⟨by decide, by omega, by decide, _, _, _, _, _, _, _, _, _, _, _, _, _, _, _, _, t6, rfl, hat6.mono (by omega)⟩
  · rintro s1 ⟨x2, x3, x4, x5, x6, x7, x8, x9, x10, x11, x12, x13, x14, x15, x16, x17, t, rfl, _⟩
    simp -implicitDefEqProofs only [w_fn, w_seq, w_if, w_sB, w_tru, w_s2, w_s1, w_rd1, w_rd2, w_var, w_C, w_lookV, w_lookO, w_lookS, w_set, w_putV, w_putO, w_asg, w_gSub, w_gN, w_gT, w_gsN, w_gsC, w_toDV, w_toDO, w_toDS, w_updR, w_updS, w_ret, w_moveV, w_moveO, w_moveS, w_skip, w_and, w_or, w_not, w_andV, w_orV, w_notV, w_chain, w_lst, w_tup, w_nil, w_cons, w_call, w_drop, w_augS, w_M, w_app, w_par, w_putAll0, w_putAll1, w_kNil, w_kCons, w_keepV, w_keepO, w_for, w_lc, w_it, w_itK, w_enum, w_zip, w_callS, w_zipX, w_rng1, w_rng2, w_pure, w_cell, w_no, w_part, w_sl, w_slT, w_slL, ok_ok,
    List.map_cons, List.map_nil, List.length_cons, List.length_nil, List.replicate, List.cons_append, List.nil_append, List.getElem?_cons_zero, List.getElem?_cons_succ, List.set_cons_zero, List.set_cons_succ, look_int, look_bl, look_non, look_str, look_tup, look_lst, look_dic, look_scr, look_ty, look_ref,
    w_gtI, w_modI, w_divI, w_addI, w_subI, w_mulI, w_geI, w_ltI, w_leI, w_eqI, w_neI]
end
end L06

open PySem PySem.W PySem.Calls PyProof.Rows
theorem PySem.Challenge.cw_carrynet_k06_whole_nets_side_by_side_holds : PySem.Challenge.rw_carrynet_k06_whole_nets_side_by_side.Holds := by
  w_on; o_law
  refine HandSHeadRun.head_any (r := OpenLaw.row PySem.Challenge.rw_carrynet_k06_whole_nets_side_by_side) (q := view (OpenLaw.row PySem.Challenge.rw_carrynet_k06_whole_nets_side_by_side).prog [38]) (H := L06.hk) (ob := L06.ob) (M := 4000) (loose := L06.loose) (d := HandSHeadRun.topDef (OpenLaw.row PySem.Challenge.rw_carrynet_k06_whole_nets_side_by_side).prog 38) (kwd := []) L06.ob_eq
    (by kernel_rfl) (fun s => by kernel_rfl) L06.run (by kernel_rfl) (by kernel_rfl) (by kernel_rfl) (by rfl) (by first | assumption | decide +kernel) (by decide +kernel) ⟨rfl, rfl, rfl, rfl, rfl, by decide +kernel⟩ ?hw ?hc
  case hw => w_witness2
  case hc =>
    refine DL.walk_g (l := PySem.Challenge.rw_carrynet_k06_whole_nets_side_by_side) (n := 63) (k := 11) (x := "script") (φ := L06.r_law) rfl (by decide) (by kernel_rfl) ⟨rfl, by decide, by decide⟩ ?F L06.plain
    intro w mg fa h Y G hmg0
    obtain ⟨K, KX, c⟩ := Y
    have hmg : mg ("law" : PySem.Str) = some (.ref fa) := by
      have e : (HandSHeadRun.topDef (OpenLaw.row PySem.Challenge.rw_carrynet_k06_whole_nets_side_by_side).prog 38).name = ("law" : PySem.Str) := by kernel_rfl
      rw [← e]
      exact hmg0
    obtain ⟨fd, hb, hF⟩ := L06.facts (P := (PySem.Challenge.rw_carrynet_k06_whole_nets_side_by_side).prog) (w := w) KX G hmg c
    exact ⟨K, fd, KX, hb, hF⟩

