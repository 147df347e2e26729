import PyProof.Rows.All
import Wide.All
import OpenK.AllK
import Wide.FinOn
import HandS.ForMost
import HandS.Walk
import HandS.Zip
import HandS.IsInst
import HandS.Flow
import HandS.Deep
import HandS.Wide
import HandS.EndBits
import HandS.Exc
import HandS.WideBits
import HandS.TupAny
import HandS.Text
import HandS.Style
import HandS.TupMul
import KE.SortData
import KE.KRevSl
import HandS.Dict
import HandS.Conv
import PyProof.TupleOfStr
import PyProof.DictUpdate
import PyProof.DictDisplay
import HandS.CallSlots
import HandS.Star
import KE.GoesEnum
import KE.GoesNew
import HandS.Iter
import HandS.TryOnly
import HandS.DictComp
import HandS.WordsExc
import PySem.Challenge.RW_raisedlimits_k77_lots_that_explain
set_option Elab.async false
set_option linter.all false
set_option maxRecDepth 100000
set_option autoImplicit false
/-! Q1: values as trees, the state of a walk, what stands for what. -/
namespace Qq
open PySem PySem.Spec PyProof.Rows L2

/-- a value as a tree -/
inductive T where
  | non | bl (b : Bool) | int (i : Int) | str (x : Str)
  | tup (xs : List T) | lst (xs : List T)
  | dK (kvs : List (Key × T)) | dT (kvs : List (List Key × T))
  | scr (ns : List Int)

/-- a value of a name: a tree, or a thing that may change, by its number -/
inductive D where
  | t (d : T) | o (i : Nat) | l (ds : List D)

/-- a thing that may change -/
inductive Cl where
  | lst (xs : List T) | dK (kvs : List (Key × T)) | dT (kvs : List (List Key × T))
  /-- it may be read, not changed, while a loop goes through it -/
  | lck (c : Cl)
  /-- it changes no more -/
  | gon (t : T)

abbrev Sto := List Cl
abbrev Env := List (Option D)

/-- an exception: its class by number, its fields -/
structure Xc where
  c : Nat
  fs : List T

inductive R (α : Type) where
  | ok (a : α) (S : Sto) | exc (x : Xc) (S : Sto) | bad

def R.bind {α β : Type} (r : R α) (f : α → Sto → R β) : R β := match r with
  | .ok a S => f a S
  | .exc x S => .exc x S
  | .bad => .bad
theorem R.bind_ok {α β : Type} (a : α) (S : Sto) (f : α → Sto → R β) : R.bind (.ok a S) f = f a S := rfl
theorem R.bind_exc {α β : Type} (x : Xc) (S : Sto) (f : α → Sto → R β) : R.bind (.exc x S) f = .exc x S := rfl
theorem R.bind_bad {α β : Type} (f : α → Sto → R β) : R.bind (.bad : R α) f = .bad := rfl
/-- a value that may be missing -/
def R.opt {α : Type} (o : Option α) (S : Sto) : R α := match o with
  | some a => .ok a S
  | none => .bad
theorem R.opt_some {α : Type} (a : α) (S : Sto) : R.opt (some a) S = .ok a S := rfl
theorem R.opt_none {α : Type} (S : Sto) : R.opt (none : Option α) S = .bad := rfl

/-! ### what stands for a tree -/
mutual
inductive Rp (K : PySem.W.Frag) (G : Hp) : V → T → Prop
  | non : Rp K G .non .non
  | bl (b : Bool) : Rp K G (.bl b) (.bl b)
  | int (i : Int) : Rp K G (.int i) (.int i)
  | str (x : Str) : Rp K G (.str x) (.str x)
  | scr {a : Addr} {ns : List Int} : SqL K G a (ns.map V.int) → Rp K G (.ref a) (.scr ns)
  | lst {a : Addr} {xs : List V} {ds : List T} : Rd G a (.lst xs) → RpL K G xs ds → Rp K G (.ref a) (.lst ds)
  | tup {a : Addr} {xs : List V} {ds : List T} : G a = some (.tup xs) → RpL K G xs ds → Rp K G (.ref a) (.tup ds)
  | dK {a : Addr} {xs : List (Key × V)} {ds : List (Key × T)} : Rd G a (.dK xs) → RpK K G xs ds → Rp K G (.ref a) (.dK ds)
  | dT {a : Addr} {xs : List (List Key × V)} {ds : List (List Key × T)} : Rd G a (.dT xs) → RpQ K G xs ds → Rp K G (.ref a) (.dT ds)
inductive RpL (K : PySem.W.Frag) (G : Hp) : List V → List T → Prop
  | nil : RpL K G [] []
  | cons {v : V} {vs : List V} {d : T} {ds : List T} : Rp K G v d → RpL K G vs ds → RpL K G (v :: vs) (d :: ds)
inductive RpK (K : PySem.W.Frag) (G : Hp) : List (Key × V) → List (Key × T) → Prop
  | nil : RpK K G [] []
  | cons {k : Key} {v : V} {vs : List (Key × V)} {d : T} {ds : List (Key × T)} : Rp K G v d → RpK K G vs ds → RpK K G ((k, v) :: vs) ((k, d) :: ds)
inductive RpQ (K : PySem.W.Frag) (G : Hp) : List (List Key × V) → List (List Key × T) → Prop
  | nil : RpQ K G [] []
  | cons {k : List Key} {v : V} {vs : List (List Key × V)} {d : T} {ds : List (List Key × T)} : Rp K G v d → RpQ K G vs ds → RpQ K G ((k, v) :: vs) ((k, d) :: ds)
end

/-- what never changes, and is never known more exactly -/
def Stay : HO → Prop
  | .lst _ => False
  | .dK _ => False
  | .dT _ => False
  | _ => True
/-- what may be read of G may be read of H -/
structure Fz (G H : Hp) : Prop where
  rd : ∀ a u, Rd G a u → Rd H a u
  st : ∀ a o, G a = some o → Stay o → H a = some o
theorem Fz.tp {G H : Hp} (f : Fz G H) : ∀ a xs, G a = some (.tup xs) → H a = some (.tup xs) := fun a xs h => f.st a _ h trivial
theorem Fz.refl (G : Hp) : Fz G G := ⟨fun _ _ h => h, fun _ _ h _ => h⟩
theorem Fz.trans {G H J : Hp} (a : Fz G H) (b : Fz H J) : Fz G J := ⟨fun c u h => b.rd c u (a.rd c u h), fun c u h q => b.st c u (a.st c u h q) q⟩
theorem Fz.seq {K : PySem.W.Frag} {G H : Hp} (f : Fz G H) {a : Addr} {xs : List V} (h : SqL K G a xs) : SqL K H a xs := h.elim (fun z => .inl (f.rd _ _ z)) .inr
theorem Fz.none' {G H : Hp} (f : Fz G H) {a : Addr} (h : H a = none) : G a = none := by
  cases e : G a with
  | none => rfl
  | some o =>
    exfalso
    rcases f.rd a o (.inl e) with z | ⟨ob, z⟩ <;> rw [h] at z <;> cases z

mutual
theorem Rp.mono {K : PySem.W.Frag} {G H : Hp} (f : Fz G H) : ∀ {v : V} {d : T}, Rp K G v d → Rp K H v d
  | _, _, .non => .non
  | _, _, .bl b => .bl b
  | _, _, .int i => .int i
  | _, _, .str x => .str x
  | _, _, .scr h => .scr (f.seq h)
  | _, _, .lst h q => .lst (f.rd _ _ h) (RpL.mono f q)
  | _, _, .tup h q => .tup (f.tp _ _ h) (RpL.mono f q)
  | _, _, .dK h q => .dK (f.rd _ _ h) (RpK.mono f q)
  | _, _, .dT h q => .dT (f.rd _ _ h) (RpQ.mono f q)
theorem RpL.mono {K : PySem.W.Frag} {G H : Hp} (f : Fz G H) : ∀ {v : List V} {d : List T}, RpL K G v d → RpL K H v d
  | _, _, .nil => .nil
  | _, _, .cons h q => .cons (Rp.mono f h) (RpL.mono f q)
theorem RpK.mono {K : PySem.W.Frag} {G H : Hp} (f : Fz G H) : ∀ {v : List (Key × V)} {d : List (Key × T)}, RpK K G v d → RpK K H v d
  | _, _, .nil => .nil
  | _, _, .cons h q => .cons (Rp.mono f h) (RpK.mono f q)
theorem RpQ.mono {K : PySem.W.Frag} {G H : Hp} (f : Fz G H) : ∀ {v : List (List Key × V)} {d : List (List Key × T)}, RpQ K G v d → RpQ K H v d
  | _, _, .nil => .nil
  | _, _, .cons h q => .cons (Rp.mono f h) (RpQ.mono f q)
end

section
variable {K : PySem.W.Frag} {G : Hp}
theorem RpL.length : ∀ {vs : List V} {ds : List T}, RpL K G vs ds → vs.length = ds.length
  | _, _, .nil => rfl
  | _, _, .cons _ q => by rw [List.length_cons, List.length_cons, RpL.length q]
theorem RpL.append : ∀ {vs ws : List V} {ds es : List T}, RpL K G vs ds → RpL K G ws es → RpL K G (vs ++ ws) (ds ++ es)
  | _, _, _, _, .nil, s => s
  | _, _, _, _, .cons r t, s => .cons r (RpL.append t s)
theorem RpL.get : ∀ {vs : List V} {ds : List T} {i : Nat} {d : T}, RpL K G vs ds → ds[i]? = some d → ∃ v, vs[i]? = some v ∧ Rp K G v d
  | _, _, _, _, .nil, e => by simp at e
  | _, _, 0, _, .cons r _, e => by simp at e; subst e; exact ⟨_, rfl, r⟩
  | _, _, i + 1, d, .cons _ t, e => by
    obtain ⟨u, h1, h2⟩ := RpL.get (i := i) (d := d) t (by simpa using e)
    exact ⟨u, by simpa using h1, h2⟩
theorem RpL.set {v : V} {d : T} (r : Rp K G v d) : ∀ {vs : List V} {ds : List T} (i : Nat), RpL K G vs ds → RpL K G (vs.set i v) (ds.set i d)
  | _, _, _, .nil => .nil
  | _, _, 0, .cons _ t => .cons r t
  | _, _, i + 1, .cons q t => .cons q (RpL.set r i t)
theorem RpL.take : ∀ {vs : List V} {ds : List T} (n : Nat), RpL K G vs ds → RpL K G (vs.take n) (ds.take n)
  | _, _, 0, _ => by simp only [List.take_zero]; exact .nil
  | _, _, _ + 1, .nil => .nil
  | _, _, n + 1, .cons r t => .cons r (RpL.take n t)
theorem RpL.drop : ∀ {vs : List V} {ds : List T} (n : Nat), RpL K G vs ds → RpL K G (vs.drop n) (ds.drop n)
  | _, _, 0, r => r
  | _, _, _ + 1, .nil => .nil
  | _, _, n + 1, .cons _ t => RpL.drop n t
theorem RpL.eraseIdx : ∀ {vs : List V} {ds : List T} (n : Nat), RpL K G vs ds → RpL K G (vs.eraseIdx n) (ds.eraseIdx n)
  | _, _, _, .nil => .nil
  | _, _, 0, .cons _ t => t
  | _, _, n + 1, .cons r t => .cons r (RpL.eraseIdx n t)
theorem RpL.rep {vs : List V} {ds : List T} (h : RpL K G vs ds) : ∀ k : Nat, RpL K G (List.replicate k vs).flatten (List.replicate k ds).flatten
  | 0 => .nil
  | k + 1 => by rw [List.replicate_succ, List.replicate_succ, List.flatten_cons, List.flatten_cons]; exact h.append (RpL.rep h k)
theorem RpL.ints : ∀ (ns : List Int), RpL K G (ns.map V.int) (ns.map T.int)
  | [] => .nil
  | n :: ns => .cons (.int n) (RpL.ints ns)
theorem RpL.ints_inv : ∀ {ns : List Int} {vs : List V}, RpL K G vs (ns.map T.int) → vs = ns.map V.int
  | [], _, .nil => rfl
  | n :: ns, _, .cons r t => by cases r; rw [RpL.ints_inv t]; rfl
theorem RpL.strs : ∀ (ns : List Str), RpL K G (ns.map V.str) (ns.map T.str)
  | [] => .nil
  | n :: ns => .cons (.str n) (RpL.strs ns)
theorem RpL.strs_inv : ∀ {ns : List Str} {vs : List V}, RpL K G vs (ns.map T.str) → vs = ns.map V.str
  | [], _, .nil => rfl
  | n :: ns, _, .cons r t => by cases r; rw [RpL.strs_inv t]; rfl
theorem RpL.bls_inv : ∀ {ns : List Bool} {vs : List V}, RpL K G vs (ns.map T.bl) → vs = ns.map V.bl
  | [], _, .nil => rfl
  | n :: ns, _, .cons r t => by cases r; rw [RpL.bls_inv t]; rfl
theorem RpK.length : ∀ {vs : List (Key × V)} {ds : List (Key × T)}, RpK K G vs ds → vs.length = ds.length
  | _, _, .nil => rfl
  | _, _, .cons _ q => by rw [List.length_cons, List.length_cons, RpK.length q]
theorem RpQ.length : ∀ {vs : List (List Key × V)} {ds : List (List Key × T)}, RpQ K G vs ds → vs.length = ds.length
  | _, _, .nil => rfl
  | _, _, .cons _ q => by rw [List.length_cons, List.length_cons, RpQ.length q]
end

/-! ### dicts of trees -/
section
variable {κ : Type} [DecidableEq κ]
def valT : List (κ × T) → κ → Option T
  | [], _ => none
  | (j, d) :: r, k => if j = k then some d else valT r k
def putT (kvs : List (κ × T)) (k : κ) (d : T) : List (κ × T) := if kvs.any (fun kv => decide (kv.1 = k)) then kvs.map (fun kv => if kv.1 = k then (kv.1, d) else kv) else kvs ++ [(k, d)]
def dropT : List (κ × T) → κ → List (κ × T)
  | [], _ => []
  | (j, e) :: r, k => if j = k then dropT r k else (j, e) :: dropT r k
end

section
variable {K : PySem.W.Frag} {G : Hp}
theorem RpK.val : ∀ {vs : List (Key × V)} {ds : List (Key × T)} (k : Key), RpK K G vs ds → (valT ds k = none ∧ valV vs k = none) ∨ ∃ v d, valT ds k = some d ∧ valV vs k = some v ∧ Rp K G v d
  | _, _, k, .nil => .inl ⟨rfl, rfl⟩
  | _, _, k, .cons (k := j) (v := v) (d := d) r q => by
    unfold valT
    by_cases e : j = k
    · rw [if_pos e, valV_pos (p := (j, v)) e]
      exact .inr ⟨v, d, rfl, rfl, r⟩
    · rw [if_neg e, valV_neg (p := (j, v)) e]
      exact RpK.val k q
theorem RpQ.val : ∀ {vs : List (List Key × V)} {ds : List (List Key × T)} (k : List Key), RpQ K G vs ds → (valT ds k = none ∧ valV vs k = none) ∨ ∃ v d, valT ds k = some d ∧ valV vs k = some v ∧ Rp K G v d
  | _, _, k, .nil => .inl ⟨rfl, rfl⟩
  | _, _, k, .cons (k := j) (v := v) (d := d) r q => by
    unfold valT
    by_cases e : j = k
    · rw [if_pos e, valV_pos (p := (j, v)) e]
      exact .inr ⟨v, d, rfl, rfl, r⟩
    · rw [if_neg e, valV_neg (p := (j, v)) e]
      exact RpQ.val k q
end

/-! ### names of things that may change; the state -/
inductive RpD (K : PySem.W.Frag) (G : Hp) (m : List Addr) : D → V → Prop
  | t {d : T} {v : V} : Rp K G v d → RpD K G m (.t d) v
  | o {i : Nat} {a : Addr} : m[i]? = some a → RpD K G m (.o i) (.ref a)
inductive RpDs (K : PySem.W.Frag) (G : Hp) (m : List Addr) : List D → List V → Prop
  | nil : RpDs K G m [] []
  | cons {d : D} {v : V} {ds : List D} {vs : List V} : RpD K G m d v → RpDs K G m ds vs → RpDs K G m (d :: ds) (v :: vs)
theorem getElem?_pre {α : Type} {m m' : List α} (h : m <+: m') {i : Nat} {a : α} (e : m[i]? = some a) : m'[i]? = some a := by
  obtain ⟨r, rfl⟩ := h
  have hi : i < m.length := (List.getElem?_eq_some_iff.mp e).1
  rw [List.getElem?_append_left hi]; exact e
theorem RpD.mono {K : PySem.W.Frag} {G G' : Hp} {m m' : List Addr} (f : Fz G G') (h : m <+: m') {d : D} {v : V} (r : RpD K G m d v) : RpD K G' m' d v := by
  cases r with
  | t r => exact .t (r.mono f)
  | o e => exact .o (getElem?_pre h e)
theorem RpDs.mono {K : PySem.W.Frag} {G G' : Hp} {m m' : List Addr} (f : Fz G G') (h : m <+: m') : ∀ {d : List D} {v : List V}, RpDs K G m d v → RpDs K G' m' d v
  | _, _, .nil => .nil
  | _, _, .cons r q => .cons (r.mono f h) (RpDs.mono f h q)
theorem RpDs.length {K : PySem.W.Frag} {G : Hp} {m : List Addr} : ∀ {d : List D} {v : List V}, RpDs K G m d v → d.length = v.length
  | _, _, .nil => rfl
  | _, _, .cons r q => by rw [List.length_cons, List.length_cons, RpDs.length q]

inductive CellOk (K : PySem.W.Frag) (G : Hp) : Cl → HO → Prop
  | lst {xs : List V} {ds : List T} : RpL K G xs ds → CellOk K G (.lst ds) (.lst xs)
  | dK {xs : List (Key × V)} {ds : List (Key × T)} : RpK K G xs ds → CellOk K G (.dK ds) (.dK xs)
  | dT {xs : List (List Key × V)} {ds : List (List Key × T)} : RpQ K G xs ds → CellOk K G (.dT ds) (.dT xs)
  | lck {c : Cl} {o : HO} : CellOk K G c o → CellOk K G (.lck c) o
theorem CellOk.mono {K : PySem.W.Frag} {G H : Hp} (f : Fz G H) {c : Cl} {o : HO} (h : CellOk K G c o) : CellOk K H c o := by
  induction h with
  | lst q => exact .lst (q.mono f)
  | dK q => exact .dK (q.mono f)
  | dT q => exact .dT (q.mono f)
  | lck q ih => exact .lck ih

def Cl.gonB : Cl → Bool
  | .gon _ => true
  | _ => false
/-- a thing that may change, or does no more -/
def CellAt (K : PySem.W.Frag) (G H : Hp) (c : Cl) (a : Addr) : Prop := (G a = none ∧ ∃ o, H a = some o ∧ CellOk K G c o) ∨ ((∃ t, c = .gon t ∧ Rp K G (.ref a) t) ∧ ∃ o, H a = some o)
theorem CellAt.here {K : PySem.W.Frag} {G H : Hp} {c : Cl} {a : Addr} (h : CellAt K G H c a) : ∃ o, H a = some o := by
  rcases h with ⟨_, o, h, _⟩ | ⟨_, h⟩
  · exact ⟨o, h⟩
  · exact h
theorem CellAt.live {K : PySem.W.Frag} {G H : Hp} {c : Cl} {a : Addr} (h : CellAt K G H c a) (g : c.gonB = false) : G a = none ∧ ∃ o, H a = some o ∧ CellOk K G c o := by
  rcases h with h | ⟨⟨t, rfl, _⟩, _⟩
  · exact h
  · cases g
theorem CellAt.step {K : PySem.W.Frag} {G H G' H' : Hp} {c : Cl} {a : Addr} (h : CellAt K G H c a) (f : Fz G G') (hg : ∀ o, H a = some o → G a = none → G' a = none) (hh : ∀ o, H a = some o → H' a = some o) : CellAt K G' H' c a := by
  rcases h with ⟨g, o, h, q⟩ | ⟨⟨t, e, r⟩, o, h⟩
  · exact .inl ⟨hg o h g, o, hh o h, q.mono f⟩
  · exact .inr ⟨⟨t, e, r.mono f⟩, o, hh o h⟩
/-- the things that may change stand in H, apart from what is frozen -/
structure Pre (K : PySem.W.Frag) (B G : Hp) (m : List Addr) (S : Sto) (H : Hp) : Prop where
  hid : ∀ a o, B a = some o → H a = some o ∧ G a = none ∧ ∀ (j : Nat), m[j]? = some a → ∃ c, S[j]? = some (.lck c)
  fz : Fz G H
  len : m.length = S.length
  nd : m.Nodup
  cells : ∀ (i : Nat) c a, S[i]? = some c → m[i]? = some a → CellAt K G H c a

/-- the names -/
structure RelE (K : PySem.W.Frag) (G : Hp) (m : List Addr) (r : Env) (s : L2.St) : Prop where
  len : r.length = s.length
  at_ : ∀ (i : Nat) d, r[i]? = some (some d) → ∃ v, s[i]? = some (some v) ∧ RpD K G m d v
theorem RelE.mono {K : PySem.W.Frag} {G G' : Hp} {m m' : List Addr} {r : Env} {s : L2.St} (f : Fz G G') (h : m <+: m') (e : RelE K G m r s) : RelE K G' m' r s :=
  ⟨e.len, fun i d q => let ⟨v, h1, h2⟩ := e.at_ i d q; ⟨v, h1, h2.mono f h⟩⟩
theorem RelE.set {K : PySem.W.Frag} {G : Hp} {m : List Addr} {r : Env} {s : L2.St} (e : RelE K G m r s) {d : D} {v : V} (q : RpD K G m d v) (i : Nat) : RelE K G m (r.set i (some d)) (s.set i (some v)) := by
  refine ⟨by rw [List.length_set, List.length_set]; exact e.len, fun j d' h => ?_⟩
  by_cases hj : i = j
  · subst hj
    have hi : i < r.length := by
      have := (List.getElem?_eq_some_iff.mp h).1
      simpa using this
    rw [List.getElem?_set_self hi] at h
    cases h
    exact ⟨v, List.getElem?_set_self (by rw [← e.len]; exact hi), q⟩
  · rw [List.getElem?_set_ne hj] at h
    obtain ⟨v', h1, h2⟩ := e.at_ j d' h
    exact ⟨v', by rw [List.getElem?_set_ne hj]; exact h1, h2⟩
/-- the block's own slots, forgotten -/
def wip (r : Env) : List Nat → Env
  | [] => r
  | v :: vs => (wip r vs).set v none
theorem RelE.wipe {K : PySem.W.Frag} {G : Hp} {m : List Addr} {r : Env} {s : L2.St} (e : RelE K G m r s) : ∀ vs : List Nat, RelE K G m (wip r vs) (wipe s vs)
  | [] => e
  | v :: vs => by
    have ih := RelE.wipe e vs
    refine ⟨by unfold wip L2.wipe; rw [List.length_set, List.length_set]; exact ih.len, fun j d' h => ?_⟩
    unfold wip at h
    unfold L2.wipe
    by_cases hj : v = j
    · subst hj
      by_cases hv : v < (wip r vs).length
      · rw [List.getElem?_set_self hv] at h; cases h
      · rw [List.getElem?_eq_none (by simpa using hv)] at h; cases h
    · rw [List.getElem?_set_ne hj] at h
      obtain ⟨v', h1, h2⟩ := ih.at_ j d' h
      exact ⟨v', by rw [List.getElem?_set_ne hj]; exact h1, h2⟩

/-- a thing is laid anew, nothing else happens -/
structure Al (G H G' H' : Hp) : Prop where
  same : Same H H'
  fz : Fz G G'
  fz' : Fz G' H'
  new : ∀ a o, H a = some o → G' a = G a
theorem Al.refl {G H : Hp} (f : Fz G H) : Al G H G H := ⟨Same.refl H, Fz.refl G, f, fun _ _ _ => rfl⟩
theorem Al.trans {G H G1 H1 G2 H2 : Hp} (a : Al G H G1 H1) (b : Al G1 H1 G2 H2) : Al G H G2 H2 :=
  ⟨a.same.trans b.same, a.fz.trans b.fz, b.fz', fun c o h => (b.new c o (a.same c o h)).trans (a.new c o h)⟩
theorem Al.lay {G H : Hp} (f : Fz G H) {p : Addr} {o : HO} (hp : H p = none) (ho : ∀ ob u, o ≠ .frz ob u) : Al G H (upd G p o) (upd H p o) := by
  have gp : G p = none := f.none' hp
  refine ⟨fun b u e => ?_, ⟨fun b u e => ?_, fun b u e hs => ?_⟩, ⟨fun b u e => ?_, fun b u e hs => ?_⟩, fun b u e => ?_⟩
  · rw [upd_ne (ne_of_none e hp)]; exact e
  · have hb : b ≠ p := by
      rintro rfl
      rcases e with z | ⟨ob, z⟩ <;> rw [gp] at z <;> cases z
    rcases e with z | ⟨ob, z⟩
    · exact .inl (by rw [upd_ne hb]; exact z)
    · exact .inr ⟨ob, by rw [upd_ne hb]; exact z⟩
  · rw [upd_ne (ne_of_none e gp)]; exact e
  · by_cases hb : b = p
    · subst hb
      rcases e with z | ⟨ob, z⟩
      · rw [upd_same] at z; cases z; exact .inl upd_same
      · rw [upd_same] at z; cases z; exact absurd rfl (ho ob u)
    · have e' : Rd G b u := by
        rcases e with z | ⟨ob, z⟩
        · exact .inl (by rw [upd_ne hb] at z; exact z)
        · exact .inr ⟨ob, by rw [upd_ne hb] at z; exact z⟩
      rcases f.rd b u e' with z | ⟨ob, z⟩
      · exact .inl (by rw [upd_ne hb]; exact z)
      · exact .inr ⟨ob, by rw [upd_ne hb]; exact z⟩
  · by_cases hb : b = p
    · subst hb; rw [upd_same] at e ⊢; exact e
    · rw [upd_ne hb] at e ⊢; exact f.st _ _ e hs
  · rw [upd_ne (ne_of_none e hp)]
theorem Al.pre {K : PySem.W.Frag} {B G H G' H' : Hp} {m : List Addr} {S : Sto} (a : Al G H G' H') (p : Pre K B G m S H) : Pre K B G' m S H' :=
  ⟨fun b o h => let ⟨x, y, z⟩ := p.hid b o h; ⟨a.same b o x, (a.new b o x).trans y, z⟩, a.fz', p.len, p.nd, fun i c b h1 h2 => (p.cells i c b h1 h2).step a.fz (fun o h g => (a.new b o h).trans g) (fun o h => a.same b o h)⟩

/-- a new thing that may change -/
theorem Pre.own {K : PySem.W.Frag} {B G H : Hp} {m : List Addr} {S : Sto} (p : Pre K B G m S H) {a : Addr} {o : HO} {c : Cl} (ha : H a = none) (hc : CellOk K G c o) : Pre K B G (m ++ [a]) (S ++ [c]) (upd H a o) := by
  have ga := p.fz.none' ha
  have hm : ∀ (i : Nat) b, m[i]? = some b → b ≠ a := fun i b e z => by
    have hi : i < S.length := by rw [← p.len]; exact (List.getElem?_eq_some_iff.mp e).1
    obtain ⟨o', h'⟩ := (p.cells i (S[i]) b (by simp [hi]) e).here
    rw [z, ha] at h'; cases h'
  refine ⟨fun b u e => ?_, ⟨fun b u e => ?_, fun b u e hs => ?_⟩, by rw [List.length_append, List.length_append, p.len]; rfl, ?_, fun i d b h1 h2 => ?_⟩
  · obtain ⟨x, y, z⟩ := p.hid b u e
    have hb : b ≠ a := ne_of_none x ha
    refine ⟨by rw [upd_ne hb]; exact x, y, fun j hj => ?_⟩
    by_cases hl : j < m.length
    · rw [List.getElem?_append_left hl] at hj
      obtain ⟨c, hc⟩ := z j hj
      exact ⟨c, by rw [List.getElem?_append_left (by rw [← p.len]; exact hl)]; exact hc⟩
    · rw [List.getElem?_append_right (by omega)] at hj
      have := List.mem_of_getElem? hj
      exact absurd (by simpa using this) hb
  · have hb : b ≠ a := by
      rintro rfl
      rcases e with z | ⟨ob, z⟩ <;> rw [ga] at z <;> cases z
    rcases p.fz.rd b u e with z | ⟨ob, z⟩
    · exact .inl (by rw [upd_ne hb]; exact z)
    · exact .inr ⟨ob, by rw [upd_ne hb]; exact z⟩
  · rw [upd_ne (ne_of_none e ga)]; exact p.fz.st _ _ e hs
  · refine List.nodup_append.mpr ⟨p.nd, by simp, fun x hx y hy => ?_⟩
    obtain ⟨i, hi⟩ := List.getElem?_of_mem hx
    have ey : y = a := by simpa using hy
    rw [ey]
    exact hm i x hi
  · by_cases hi : i < m.length
    · rw [List.getElem?_append_left (by rw [← p.len]; exact hi)] at h1
      rw [List.getElem?_append_left hi] at h2
      exact (p.cells i d b h1 h2).step (Fz.refl G) (fun _ _ g => g) (fun o h => by rw [upd_ne (hm i b h2)]; exact h)
    · rw [List.getElem?_append_right (by rw [← p.len]; omega)] at h1
      rw [List.getElem?_append_right (by omega)] at h2
      have e1 : i - m.length = 0 := by
        have := (List.getElem?_eq_some_iff.mp h2).1
        simp at this; omega
      rw [e1] at h2
      rw [← p.len, e1] at h1
      cases h1; cases h2
      exact .inl ⟨ga, o, upd_same, hc⟩
/-- a thing that may change, changed -/
theorem Pre.put {K : PySem.W.Frag} {B G H : Hp} {m : List Addr} {S : Sto} (p : Pre K B G m S H) {i : Nat} {a : Addr} {o : HO} {c c' : Cl} (hc : S[i]? = some c') (hn : (∀ c0, c' ≠ .lck c0) ∧ c'.gonB = false) (ha : m[i]? = some a) (h : CellOk K G c o) : Pre K B G m (S.set i c) (upd H a o) := by
  have ga := ((p.cells i c' a hc ha).live hn.2).1
  refine ⟨fun b u e => ?_, ⟨fun b u e => ?_, fun b u e hs => ?_⟩, by rw [List.length_set]; exact p.len, p.nd, fun j d b h1 h2 => ?_⟩
  · obtain ⟨x, y, z⟩ := p.hid b u e
    have hb : b ≠ a := by
      rintro rfl
      obtain ⟨c0, h0⟩ := z i ha
      rw [hc] at h0; cases h0
      exact hn.1 c0 rfl
    refine ⟨by rw [upd_ne hb]; exact x, y, fun j hj => ?_⟩
    obtain ⟨c0, h0⟩ := z j hj
    have hij : i ≠ j := by
      rintro rfl
      rw [ha] at hj; cases hj
      exact hb rfl
    exact ⟨c0, by rw [List.getElem?_set_ne hij]; exact h0⟩
  · have hb : b ≠ a := by
      rintro rfl
      rcases e with z | ⟨ob, z⟩ <;> rw [ga] at z <;> cases z
    rcases p.fz.rd b u e with z | ⟨ob, z⟩
    · exact .inl (by rw [upd_ne hb]; exact z)
    · exact .inr ⟨ob, by rw [upd_ne hb]; exact z⟩
  · rw [upd_ne (ne_of_none e ga)]; exact p.fz.st _ _ e hs
  · by_cases hj : i = j
    · subst hj
      rw [ha] at h2; cases h2
      rw [List.getElem?_set_self (List.getElem?_eq_some_iff.mp hc).1] at h1
      cases h1
      exact .inl ⟨ga, o, upd_same, h⟩
    · rw [List.getElem?_set_ne hj] at h1
      have hb : b ≠ a := by
        rintro rfl
        exact hj ((List.getElem?_inj (List.getElem?_eq_some_iff.mp ha).1 p.nd).mp (ha.trans h2.symm))
      exact (p.cells j d b h1 h2).step (Fz.refl G) (fun _ _ g => g) (fun o h => by rw [upd_ne hb]; exact h)
/-- fewer things -/
theorem Pre.take {K : PySem.W.Frag} {B G H : Hp} {m : List Addr} {S : Sto} (p : Pre K B G m S H) (n : Nat) : Pre K B G (m.take n) (S.take n) H := by
  refine ⟨fun b u e => let ⟨x, y, z⟩ := p.hid b u e; ⟨x, y, fun j hj => by
    have hi : j < n := by
      have := (List.getElem?_eq_some_iff.mp hj).1
      rw [List.length_take] at this; omega
    rw [List.getElem?_take_of_lt hi] at hj ⊢
    exact z j hj⟩, p.fz, by rw [List.length_take, List.length_take, p.len], p.nd.sublist (List.take_sublist n m), fun i c a h1 h2 => ?_⟩
  have hi : i < n := by
    have := (List.getElem?_eq_some_iff.mp h2).1
    rw [List.length_take] at this; omega
  rw [List.getElem?_take_of_lt hi] at h1 h2
  exact p.cells i c a h1 h2
/-- a thing that may change changes no more -/
theorem Pre.gone {K : PySem.W.Frag} {B G H : Hp} {m : List Addr} {S : Sto} (p : Pre K B G m S H) {i : Nat} {a : Addr} {o : HO} {c : Cl} {t : T} (hc : S[i]? = some c) (hn : (∀ c0, c ≠ .lck c0) ∧ c.gonB = false) (ha : m[i]? = some a) (ho : H a = some o) (hz : ∀ ob u, o ≠ .frz ob u)
    (hr : ∀ G', Fz G G' → G' a = some o → Rp K G' (.ref a) t) : Fz G (upd G a o) ∧ Pre K B (upd G a o) m (S.set i (.gon t)) H := by
  have ga := ((p.cells i c a hc ha).live hn.2).1
  have f1 : Fz G (upd G a o) := by
    refine ⟨fun b u e => ?_, fun b u e _ => ?_⟩
    · have hb : b ≠ a := by
        rintro rfl
        rcases e with z | ⟨ob, z⟩ <;> rw [ga] at z <;> cases z
      rcases e with z | ⟨ob, z⟩
      · exact .inl (by rw [upd_ne hb]; exact z)
      · exact .inr ⟨ob, by rw [upd_ne hb]; exact z⟩
    · rw [upd_ne (ne_of_none e ga)]; exact e
  refine ⟨f1, ⟨fun b u e => ?_, ⟨fun b u e => ?_, fun b u e hs => ?_⟩, by rw [List.length_set]; exact p.len, p.nd, fun j d b h1 h2 => ?_⟩⟩
  · obtain ⟨x, y, z⟩ := p.hid b u e
    have hb : b ≠ a := by
      rintro rfl
      obtain ⟨c0, h0⟩ := z i ha
      rw [hc] at h0; cases h0
      exact hn.1 c0 rfl
    refine ⟨x, by rw [upd_ne hb]; exact y, fun j hj => ?_⟩
    obtain ⟨c0, h0⟩ := z j hj
    have hij : i ≠ j := by
      rintro rfl
      rw [ha] at hj; cases hj
      exact hb rfl
    exact ⟨c0, by rw [List.getElem?_set_ne hij]; exact h0⟩
  · by_cases hb : b = a
    · subst hb
      rcases e with z | ⟨ob, z⟩
      · rw [upd_same] at z; cases z; exact .inl ho
      · rw [upd_same] at z; cases z; exact absurd rfl (hz ob u)
    · refine p.fz.rd b u ?_
      rcases e with z | ⟨ob, z⟩
      · exact .inl (by rw [upd_ne hb] at z; exact z)
      · exact .inr ⟨ob, by rw [upd_ne hb] at z; exact z⟩
  · by_cases hb : b = a
    · subst hb; rw [upd_same] at e; cases e; exact ho
    · rw [upd_ne hb] at e; exact p.fz.st _ _ e hs
  · by_cases hj : i = j
    · subst hj
      rw [ha] at h2; cases h2
      rw [List.getElem?_set_self (List.getElem?_eq_some_iff.mp hc).1] at h1
      cases h1
      exact .inr ⟨⟨t, rfl, hr _ f1 upd_same⟩, o, ho⟩
    · rw [List.getElem?_set_ne hj] at h1
      have hb : b ≠ a := by
        rintro rfl
        exact hj ((List.getElem?_inj (List.getElem?_eq_some_iff.mp ha).1 p.nd).mp (ha.trans h2.symm))
      exact (p.cells j d b h1 h2).step f1 (fun _ _ g => by rw [upd_ne hb]; exact g) (fun _ h => h)

/-- a thing is gone through -/
theorem Pre.lock {K : PySem.W.Frag} {B G H : Hp} {m : List Addr} {S : Sto} (p : Pre K B G m S H) {j : Nat} {a : Addr} {o : HO} {c : Cl} (hc : S[j]? = some c) (hl : c.gonB = false) (ha : m[j]? = some a) (ho : H a = some o) : Pre K (upd B a o) G m (S.set j (.lck c)) H := by
  obtain ⟨ga, o1, h1, q⟩ := (p.cells j c a hc ha).live hl
  rw [ho] at h1; cases h1
  have hj : j < S.length := (List.getElem?_eq_some_iff.mp hc).1
  refine ⟨fun b u e => ?_, p.fz, by rw [List.length_set]; exact p.len, p.nd, fun i d b h1 h2 => ?_⟩
  · by_cases hb : b = a
    · subst hb
      rw [upd_same] at e; cases e
      refine ⟨ho, ga, fun i hi => ?_⟩
      have := (List.getElem?_inj (List.getElem?_eq_some_iff.mp ha).1 p.nd).mp (ha.trans hi.symm)
      subst this
      exact ⟨c, List.getElem?_set_self hj⟩
    · rw [upd_ne hb] at e
      obtain ⟨x, y, z⟩ := p.hid b u e
      refine ⟨x, y, fun i hi => ?_⟩
      obtain ⟨c0, h0⟩ := z i hi
      by_cases hij : j = i
      · subst hij; exact ⟨c, List.getElem?_set_self hj⟩
      · exact ⟨c0, by rw [List.getElem?_set_ne hij]; exact h0⟩
  · by_cases hij : j = i
    · subst hij
      rw [List.getElem?_set_self hj] at h1; cases h1
      rw [ha] at h2; cases h2
      exact .inl ⟨ga, o, ho, .lck q⟩
    · rw [List.getElem?_set_ne hij] at h1
      exact p.cells i d b h1 h2
/-- .. and no more -/
theorem Pre.unlock {K : PySem.W.Frag} {B G H : Hp} {m : List Addr} {S : Sto} {a : Addr} {o : HO} (p : Pre K (upd B a o) G m S H) {j : Nat} {c : Cl} (ha : m[j]? = some a) (hc : CellOk K G c o) (hB : ∀ o', B a = some o' → o' = o ∧ ∃ c0, c = .lck c0) : Pre K B G m (S.set j c) H := by
  have hj : j < S.length := by rw [← p.len]; exact (List.getElem?_eq_some_iff.mp ha).1
  obtain ⟨x0, y0, z0⟩ := p.hid a o upd_same
  refine ⟨fun b u e => ?_, p.fz, by rw [List.length_set]; exact p.len, p.nd, fun i d b h1 h2 => ?_⟩
  · by_cases hb : b = a
    · subst hb
      obtain ⟨e1, c0, e2⟩ := hB u e
      subst e1
      refine ⟨x0, y0, fun i hi => ?_⟩
      have := (List.getElem?_inj (List.getElem?_eq_some_iff.mp ha).1 p.nd).mp (ha.trans hi.symm)
      subst this
      exact ⟨c0, by rw [List.getElem?_set_self hj, e2]⟩
    · obtain ⟨x, y, z⟩ := p.hid b u (by rw [upd_ne hb]; exact e)
      refine ⟨x, y, fun i hi => ?_⟩
      obtain ⟨c0, h0⟩ := z i hi
      have hij : j ≠ i := by
        rintro rfl
        rw [ha] at hi; cases hi
        exact hb rfl
      exact ⟨c0, by rw [List.getElem?_set_ne hij]; exact h0⟩
  · by_cases hij : j = i
    · subst hij
      rw [List.getElem?_set_self hj] at h1; cases h1
      rw [ha] at h2; cases h2
      exact .inl ⟨y0, o, x0, hc⟩
    · rw [List.getElem?_set_ne hij] at h1
      exact p.cells i d b h1 h2
/-- a thing of one's own, laid and not told -/
theorem Pre.hide {K : PySem.W.Frag} {B G H : Hp} {m : List Addr} {S : Sto} (p : Pre K B G m S H) {a : Addr} {o : HO} (ha : H a = none) : Pre K (upd B a o) G m S (upd H a o) := by
  have ga := p.fz.none' ha
  have hm : ∀ (i : Nat) b, m[i]? = some b → b ≠ a := fun i b e z => by
    have hi : i < S.length := by rw [← p.len]; exact (List.getElem?_eq_some_iff.mp e).1
    obtain ⟨o', h'⟩ := (p.cells i (S[i]) b (by simp [hi]) e).here
    rw [z, ha] at h'; cases h'
  refine ⟨fun b u e => ?_, ⟨fun b u e => ?_, fun b u e hs => ?_⟩, p.len, p.nd, fun i d b h1 h2 => ?_⟩
  · by_cases hb : b = a
    · subst hb
      rw [upd_same] at e; cases e
      exact ⟨upd_same, ga, fun j hj => absurd rfl (hm j _ hj)⟩
    · rw [upd_ne hb] at e
      obtain ⟨x, y, z⟩ := p.hid b u e
      exact ⟨by rw [upd_ne hb]; exact x, y, z⟩
  · have hb : b ≠ a := by
      rintro rfl
      rcases e with z | ⟨ob, z⟩ <;> rw [ga] at z <;> cases z
    rcases p.fz.rd b u e with z | ⟨ob, z⟩
    · exact .inl (by rw [upd_ne hb]; exact z)
    · exact .inr ⟨ob, by rw [upd_ne hb]; exact z⟩
  · rw [upd_ne (ne_of_none e ga)]; exact p.fz.st _ _ e hs
  · exact (p.cells i d b h1 h2).step (Fz.refl G) (fun _ _ g => g) (fun o h => by rw [upd_ne (hm i b h2)]; exact h)
/-- .. changed -/
theorem Pre.rehide {K : PySem.W.Frag} {B G H : Hp} {m : List Addr} {S : Sto} {a : Addr} {o o' : HO} (p : Pre K (upd B a o) G m S H) (hm : a ∉ m) : Pre K (upd B a o') G m S (upd H a o') := by
  obtain ⟨x0, ga, z0⟩ := p.hid a o upd_same
  refine ⟨fun b u e => ?_, ⟨fun b u e => ?_, fun b u e hs => ?_⟩, p.len, p.nd, fun i d b h1 h2 => ?_⟩
  · by_cases hb : b = a
    · subst hb
      rw [upd_same] at e; cases e
      exact ⟨upd_same, ga, fun j hj => absurd (List.mem_of_getElem? hj) hm⟩
    · rw [upd_ne hb] at e
      obtain ⟨x, y, z⟩ := p.hid b u (by rw [upd_ne hb]; exact e)
      exact ⟨by rw [upd_ne hb]; exact x, y, z⟩
  · have hb : b ≠ a := by
      rintro rfl
      rcases e with z | ⟨ob, z⟩ <;> rw [ga] at z <;> cases z
    rcases p.fz.rd b u e with z | ⟨ob, z⟩
    · exact .inl (by rw [upd_ne hb]; exact z)
    · exact .inr ⟨ob, by rw [upd_ne hb]; exact z⟩
  · rw [upd_ne (ne_of_none e ga)]; exact p.fz.st _ _ e hs
  · have hb : b ≠ a := by rintro rfl; exact hm (List.mem_of_getElem? h2)
    exact (p.cells i d b h1 h2).step (Fz.refl G) (fun _ _ g => g) (fun o h => by rw [upd_ne hb]; exact h)
/-- what was hidden comes out: frozen, or a thing that may change -/
theorem Pre.unhide {K : PySem.W.Frag} {B G H : Hp} {m : List Addr} {S : Sto} {a : Addr} {o : HO} (p : Pre K (upd B a o) G m S H) (hB : B a = none) : Pre K B G m S H :=
  ⟨fun b u e => p.hid b u (by rw [upd_ne (ne_of_none e hB)]; exact e), p.fz, p.len, p.nd, p.cells⟩
theorem Pre.ownAt {K : PySem.W.Frag} {B G H : Hp} {m : List Addr} {S : Sto} (p : Pre K B G m S H) {a : Addr} {o : HO} {c : Cl} (ha : H a = some o) (ga : G a = none) (hm : a ∉ m) (hB : B a = none) (hc : CellOk K G c o) : Pre K B G (m ++ [a]) (S ++ [c]) H := by
  refine ⟨fun b u e => ?_, p.fz, by rw [List.length_append, List.length_append, p.len]; rfl, List.nodup_append.mpr ⟨p.nd, by simp, fun x hx y hy => ?_⟩, fun i d b h1 h2 => ?_⟩
  · obtain ⟨x, y, z⟩ := p.hid b u e
    refine ⟨x, y, fun j hj => ?_⟩
    by_cases hl : j < m.length
    · rw [List.getElem?_append_left hl] at hj
      obtain ⟨c, hc⟩ := z j hj
      exact ⟨c, by rw [List.getElem?_append_left (by rw [← p.len]; exact hl)]; exact hc⟩
    · rw [List.getElem?_append_right (by omega)] at hj
      have := List.mem_of_getElem? hj
      have hb : b = a := by simpa using this
      rw [hb, hB] at e; cases e
  · have ey : y = a := by simpa using hy
    rw [ey]; rintro rfl; exact hm hx
  · by_cases hi : i < m.length
    · rw [List.getElem?_append_left (by rw [← p.len]; exact hi)] at h1
      rw [List.getElem?_append_left hi] at h2
      exact p.cells i d b h1 h2
    · rw [List.getElem?_append_right (by rw [← p.len]; omega)] at h1
      rw [List.getElem?_append_right (by omega)] at h2
      have e1 : i - m.length = 0 := by
        have := (List.getElem?_eq_some_iff.mp h2).1
        simp at this; omega
      rw [e1] at h2
      rw [← p.len, e1] at h1
      cases h1; cases h2
      exact .inl ⟨ga, o, ha, hc⟩
/-- .. frozen -/
theorem Pre.frzAt {K : PySem.W.Frag} {B G H : Hp} {m : List Addr} {S : Sto} (p : Pre K B G m S H) {a : Addr} {o : HO} (ha : H a = some o) (ga : G a = none) (hm : a ∉ m) (hB : B a = none) (hz : ∀ ob u, o ≠ .frz ob u) : Fz G (upd G a o) ∧ Pre K B (upd G a o) m S H := by
  have f1 : Fz G (upd G a o) := by
    refine ⟨fun b u e => ?_, fun b u e _ => ?_⟩
    · have hb : b ≠ a := by
        rintro rfl
        rcases e with z | ⟨ob, z⟩ <;> rw [ga] at z <;> cases z
      rcases e with z | ⟨ob, z⟩
      · exact .inl (by rw [upd_ne hb]; exact z)
      · exact .inr ⟨ob, by rw [upd_ne hb]; exact z⟩
    · rw [upd_ne (ne_of_none e ga)]; exact e
  refine ⟨f1, ⟨fun b u e => ?_, ⟨fun b u e => ?_, fun b u e hs => ?_⟩, p.len, p.nd, fun j c b h1 h2 => ?_⟩⟩
  · obtain ⟨x, y, z⟩ := p.hid b u e
    exact ⟨x, by rw [upd_ne (ne_of_none e hB)]; exact y, z⟩
  · by_cases hb : b = a
    · subst hb
      rcases e with z | ⟨ob, z⟩
      · rw [upd_same] at z; cases z; exact .inl ha
      · rw [upd_same] at z; cases z; exact absurd rfl (hz ob u)
    · refine p.fz.rd b u ?_
      rcases e with z | ⟨ob, z⟩
      · exact .inl (by rw [upd_ne hb] at z; exact z)
      · exact .inr ⟨ob, by rw [upd_ne hb] at z; exact z⟩
  · by_cases hb : b = a
    · subst hb; rw [upd_same] at e; cases e; exact ha
    · rw [upd_ne hb] at e; exact p.fz.st _ _ e hs
  · have hb : b ≠ a := by rintro rfl; exact hm (List.mem_of_getElem? h2)
    exact (p.cells j c b h1 h2).step f1 (fun _ _ g => by rw [upd_ne hb]; exact g) (fun _ h => h)

/-- a frozen dict is known exactly from now on -/
def Lk (G H G2 H2 : Hp) : Prop := (G2 = G ∧ H2 = H) ∨ ∃ d u od, G d = some u ∧ (H d = some u ∨ H d = some (.frz od u)) ∧ ((∃ kvs, u = .dK kvs) ∨ ∃ kvs, u = .dT kvs) ∧ G2 = upd G d (.frz od u) ∧ H2 = upd H d (.frz od u)
theorem upd_self {H : Hp} {a : Addr} {o : HO} (h : H a = some o) : upd H a o = H := by
  funext b
  by_cases e : b = a
  · subst e; rw [upd_same, h]
  · rw [upd_ne e]
theorem Lk.fz {G H G2 H2 : Hp} (l : Lk G H G2 H2) : Fz G G2 := by
  rcases l with ⟨rfl, rfl⟩ | ⟨d, u, od, hg, hh, hu, rfl, rfl⟩
  · exact Fz.refl _
  · refine ⟨fun b v e => ?_, fun b v e hs => ?_⟩
    · by_cases hb : b = d
      · subst hb
        rcases e with e | ⟨o, e⟩
        · rw [hg] at e; cases e; exact .inr ⟨od, upd_same⟩
        · rw [hg] at e; cases e; rcases hu with ⟨_, z⟩ | ⟨_, z⟩ <;> cases z
      · rcases e with e | ⟨o, e⟩
        · exact .inl (by rw [upd_ne hb]; exact e)
        · exact .inr ⟨o, by rw [upd_ne hb]; exact e⟩
    · by_cases hb : b = d
      · subst hb
        rw [hg] at e; cases e
        rcases hu with ⟨_, z⟩ | ⟨_, z⟩ <;> (subst z; exact hs.elim)
      · rw [upd_ne hb]; exact e
theorem Lk.pre {K : PySem.W.Frag} {B G H G2 H2 : Hp} {m : List Addr} {S : Sto} (l : Lk G H G2 H2) (p : Pre K B G m S H) : Pre K B G2 m S H2 := by
  have f := l.fz
  rcases l with ⟨rfl, rfl⟩ | ⟨d, u, od, hg, hh, hu, rfl, rfl⟩
  · exact p
  · refine ⟨fun b o e => ?_, ⟨fun b v e => ?_, fun b v e hs => ?_⟩, p.len, p.nd, fun i c b h1 h2 => ?_⟩
    · obtain ⟨x, y, z⟩ := p.hid b o e
      have hb : b ≠ d := by rintro rfl; rw [hg] at y; cases y
      exact ⟨by rw [upd_ne hb]; exact x, by rw [upd_ne hb]; exact y, z⟩
    · by_cases hb : b = d
      · subst hb
        rcases e with e | ⟨o, e⟩
        · rw [upd_same] at e; cases e; exact .inl upd_same
        · rw [upd_same] at e; cases e; exact .inr ⟨od, upd_same⟩
      · have e' : Rd G b v := by
          rcases e with e | ⟨o, e⟩
          · exact .inl (by rw [upd_ne hb] at e; exact e)
          · exact .inr ⟨o, by rw [upd_ne hb] at e; exact e⟩
        rcases p.fz.rd b v e' with e | ⟨o, e⟩
        · exact .inl (by rw [upd_ne hb]; exact e)
        · exact .inr ⟨o, by rw [upd_ne hb]; exact e⟩
    · by_cases hb : b = d
      · subst hb; rw [upd_same] at e ⊢; exact e
      · rw [upd_ne hb] at e ⊢; exact p.fz.st _ _ e hs
    · rcases p.cells i c b h1 h2 with ⟨g, o, h, q⟩ | ⟨⟨t, e, r⟩, o, h⟩
      · have hb : b ≠ d := by rintro rfl; rw [hg] at g; cases g
        exact .inl ⟨by rw [upd_ne hb]; exact g, o, by rw [upd_ne hb]; exact h, q.mono f⟩
      · refine .inr ⟨⟨t, e, r.mono f⟩, ?_⟩
        by_cases hb : b = d
        · subst hb; exact ⟨_, upd_same⟩
        · exact ⟨o, by rw [upd_ne hb]; exact h⟩

/-- a value read now: a tree, or a thing that may change as it stands -/
inductive Vw (K : PySem.W.Frag) (G H : Hp) : V → T → Prop
  | r {v : V} {d : T} : Rp K G v d → Vw K G H v d
  | lst {a : Addr} {xs : List V} {ds : List T} : H a = some (.lst xs) → RpL K G xs ds → Vw K G H (.ref a) (.lst ds)
  | dK {a : Addr} {xs : List (Key × V)} {ds : List (Key × T)} : H a = some (.dK xs) → RpK K G xs ds → Vw K G H (.ref a) (.dK ds)
  | dT {a : Addr} {xs : List (List Key × V)} {ds : List (List Key × T)} : H a = some (.dT xs) → RpQ K G xs ds → Vw K G H (.ref a) (.dT ds)
def Cl.tr : Cl → T
  | .lst xs => .lst xs
  | .dK kvs => .dK kvs
  | .dT kvs => .dT kvs
  | .lck c => c.tr
  | .gon t => t
def rd (S : Sto) : D → Option T
  | .t d => some d
  | .o i => (S[i]?).map Cl.tr
  | .l _ => none
theorem rd_ok {K : PySem.W.Frag} {B G H : Hp} {m : List Addr} {S : Sto} (p : Pre K B G m S H) {d : D} {v : V} {t : T} (r : RpD K G m d v) (h : rd S d = some t) : Vw K G H v t := by
  cases r with
  | t r => cases h; exact .r r
  | o e =>
    rename_i i a
    replace h : (S[i]?).map Cl.tr = some t := h
    cases hs : S[i]? with
    | none => rw [hs] at h; cases h
    | some c =>
      rw [hs] at h
      cases h
      rcases p.cells i c a hs e with ⟨_, o, ho, q⟩ | ⟨⟨t', rfl, r⟩, _⟩
      · clear hs
        induction q with
        | lst q => exact .lst ho q
        | dK q => exact .dK ho q
        | dT q => exact .dT ho q
        | lck q ih => exact ih ho
      · exact .r r
section
variable {K : PySem.W.Frag} {G H : Hp}
theorem Vw.lst_inv (f : Fz G H) {v : V} {ds : List T} (h : Vw K G H v (.lst ds)) : ∃ a xs, v = .ref a ∧ Rd H a (.lst xs) ∧ RpL K G xs ds := by
  cases h with
  | r h => cases h with | lst s q => exact ⟨_, _, rfl, f.rd _ _ s, q⟩
  | lst e q => exact ⟨_, _, rfl, .inl e, q⟩
theorem Vw.scr_inv (f : Fz G H) {v : V} {ns : List Int} (h : Vw K G H v (.scr ns)) : ∃ a, v = .ref a ∧ SqL K H a (ns.map V.int) := by
  cases h with
  | r h => cases h with | scr s => exact ⟨_, rfl, f.seq s⟩
theorem Vw.tup_inv (f : Fz G H) {v : V} {ds : List T} (h : Vw K G H v (.tup ds)) : ∃ a xs, v = .ref a ∧ H a = some (.tup xs) ∧ RpL K G xs ds := by
  cases h with
  | r h => cases h with | tup s q => exact ⟨_, _, rfl, f.tp _ _ s, q⟩
theorem Vw.dK_inv (f : Fz G H) {v : V} {ds : List (Key × T)} (h : Vw K G H v (.dK ds)) : ∃ a xs, v = .ref a ∧ Rd H a (.dK xs) ∧ RpK K G xs ds := by
  cases h with
  | r h => cases h with | dK s q => exact ⟨_, _, rfl, f.rd _ _ s, q⟩
  | dK e q => exact ⟨_, _, rfl, .inl e, q⟩
theorem Vw.dT_inv (f : Fz G H) {v : V} {ds : List (List Key × T)} (h : Vw K G H v (.dT ds)) : ∃ a xs, v = .ref a ∧ Rd H a (.dT xs) ∧ RpQ K G xs ds := by
  cases h with
  | r h => cases h with | dT s q => exact ⟨_, _, rfl, f.rd _ _ s, q⟩
  | dT e q => exact ⟨_, _, rfl, .inl e, q⟩
theorem Vw.tup_r {v : V} {ds : List T} (h : Vw K G H v (.tup ds)) : Rp K G v (.tup ds) := by cases h with | r h => exact h
theorem Vw.int_inv {v : V} {i : Int} (h : Vw K G H v (.int i)) : v = .int i := by cases h with | r h => cases h; rfl
theorem Vw.bl_inv {v : V} {i : Bool} (h : Vw K G H v (.bl i)) : v = .bl i := by cases h with | r h => cases h; rfl
theorem Vw.str_inv {v : V} {i : Str} (h : Vw K G H v (.str i)) : v = .str i := by cases h with | r h => cases h; rfl
theorem Vw.non_inv {v : V} (h : Vw K G H v .non) : v = .non := by cases h with | r h => cases h; rfl
theorem Vw.mono {G' H' : Hp} (a : Al G H G' H') {v : V} {d : T} (h : Vw K G H v d) : Vw K G' H' v d := by
  cases h with
  | r h => exact .r (h.mono a.fz)
  | lst e q => exact .lst (a.same _ _ e) (q.mono a.fz)
  | dK e q => exact .dK (a.same _ _ e) (q.mono a.fz)
  | dT e q => exact .dT (a.same _ _ e) (q.mono a.fz)
end

/-! ### the end of a reading -/
/-- an exception's object: told in a later part -/
def RpX (K : PySem.W.Frag) (G : Hp) (x : Xc) (cls : Value) (d : Option Addr) (H : Hp) : Prop := False
section
variable {α β α' β' : Type}
def Post (K : PySem.W.Frag) (B : Hp) (W : WX) (s : L2.St) (G : Hp) (m : List Addr) (Rr : Hp → Hp → List Addr → α → β → Prop) (Q : β → Hp → Prop) : R α → Prop
  | .ok d S' => ∀ v H' G' m', m <+: m' → Fz G G' → Pre K B G' m' S' H' → Rr G' H' m' d v → Q v H'
  | .exc x S' => ∀ c dd H' G' m', m <+: m' → Fz G G' → Pre K B G' m' S' H' → RpX K G' x c dd H' → W c dd s H'
  | .bad => False
variable {K : PySem.W.Frag} {B : Hp} {W : WX} {s : L2.St} {G : Hp} {m : List Addr} {Rr : Hp → Hp → List Addr → α → β → Prop} {Rs : Hp → Hp → List Addr → α' → β' → Prop}
theorem Post.mono {Q Q' : β → Hp → Prop} {r : R α} (h : Post K B W s G m Rr Q r) (hq : ∀ v H', Q v H' → Q' v H') : Post K B W s G m Rr Q' r := by
  cases r with
  | ok d S => exact fun v H' G' m' h1 h2 h3 h4 => hq _ _ (h v H' G' m' h1 h2 h3 h4)
  | exc x S => exact h
  | bad => exact h
theorem Post.bind {Q : β' → Hp → Prop} {r : R α} {f : α → Sto → R α'} (h : Post K B W s G m Rs Q (r.bind f)) :
    Post K B W s G m Rr (fun v H1 => ∃ G1 m1 S1 d, m <+: m1 ∧ Fz G G1 ∧ Pre K B G1 m1 S1 H1 ∧ Rr G1 H1 m1 d v ∧ Post K B W s G1 m1 Rs Q (f d S1)) r := by
  cases r with
  | bad => exact h
  | exc x S => exact h
  | ok d S =>
    intro v H' G' m' h1 h2 h3 h4
    refine ⟨G', m', S, d, h1, h2, h3, h4, ?_⟩
    have h' : Post K B W s G m Rs Q (f d S) := h
    cases hr : f d S with
    | bad => rw [hr] at h'; exact h'
    | exc x S2 => rw [hr] at h'; exact fun c dd H2 G2 m2 a b c' d' => h' c dd H2 G2 m2 (h1.trans a) (h2.trans b) c' d'
    | ok d2 S2 => rw [hr] at h'; exact fun v2 H2 G2 m2 a b c' d' => h' v2 H2 G2 m2 (h1.trans a) (h2.trans b) c' d'
theorem Post.opt {Q : β → Hp → Prop} {o : Option α} {S : Sto} (h : Post K B W s G m Rr Q (R.opt o S)) : ∃ d, o = some d ∧ Post K B W s G m Rr Q (.ok d S) := by
  cases o with
  | none => exact h.elim
  | some d => exact ⟨d, rfl, h⟩
/-- a later state -/
theorem Post.later {Q : β → Hp → Prop} {r : R α} {G1 : Hp} {m1 : List Addr} (h : Post K B W s G m Rr Q r) (hm : m <+: m1) (hg : Fz G G1) : Post K B W s G1 m1 Rr Q r := by
  cases r with
  | bad => exact h
  | exc x S => exact fun c dd H' G' m' a b c' d' => h c dd H' G' m' (hm.trans a) (hg.trans b) c' d'
  | ok d S => exact fun v H' G' m' a b c' d' => h v H' G' m' (hm.trans a) (hg.trans b) c' d'
end
end Qq

set_option maxHeartbeats 4000000
/-! Q2: what operators and built-in functions do with trees; that they do so. -/
namespace Qq
open PySem PySem.Spec PyProof.Rows L2

/-! ### trees as data -/
mutual
def T.pd : T → Option PyData
  | .non => some .none
  | .bl b => some (.bool b)
  | .int i => some (.int i)
  | .str x => some (.str x)
  | .lst xs => match T.pdL xs with
    | some ds => some (.list ds)
    | none => none
  | .tup xs => match T.pdL xs with
    | some ds => some (.tuple ds)
    | none => none
  | .dK _ => none
  | .dT _ => none
  | .scr _ => none
def T.pdL : List T → Option (List PyData)
  | [] => some []
  | d :: r => match T.pd d, T.pdL r with
    | some p, some q => some (p :: q)
    | _, _ => none
end
section
variable {K : PySem.W.Frag} {G H : Hp}
mutual
theorem Rp.dp (f : Fz G H) : ∀ (d : T) (v : V) (p : PyData), Rp K G v d → d.pd = some p → Dp K H v p
  | .non, _, _, h, e => by cases h; unfold T.pd at e; cases e; exact .non
  | .bl b, _, _, h, e => by cases h; unfold T.pd at e; cases e; exact .bl b
  | .int i, _, _, h, e => by cases h; unfold T.pd at e; cases e; exact .int i
  | .str x, _, _, h, e => by cases h; unfold T.pd at e; cases e; exact .str x
  | .lst xs, _, _, h, e => by
    cases h with
    | lst s q =>
      unfold T.pd at e
      cases e2 : T.pdL xs with
      | none => rw [e2] at e; cases e
      | some ds => rw [e2] at e; cases e; exact .lst (.inl (f.rd _ _ s)) (RpL.dp f xs _ _ q e2)
  | .tup xs, _, _, h, e => by
    cases h with
    | tup s q =>
      unfold T.pd at e
      cases e2 : T.pdL xs with
      | none => rw [e2] at e; cases e
      | some ds => rw [e2] at e; cases e; exact .tup (SqT.of (f.tp _ _ s)) (RpL.dp f xs _ _ q e2)
  | .dK _, _, _, _, e => by unfold T.pd at e; cases e
  | .dT _, _, _, _, e => by unfold T.pd at e; cases e
  | .scr _, _, _, _, e => by unfold T.pd at e; cases e
theorem RpL.dp (f : Fz G H) : ∀ (ds : List T) (vs : List V) (ps : List PyData), RpL K G vs ds → T.pdL ds = some ps → DpAll K H vs ps
  | [], _, _, h, e => by cases h; unfold T.pdL at e; cases e; exact .nil
  | d :: r, _, _, h, e => by
    cases h with
    | cons h1 h2 =>
      unfold T.pdL at e
      cases e1 : T.pd d with
      | none => rw [e1] at e; cases e
      | some p =>
        cases e2 : T.pdL r with
        | none => rw [e1, e2] at e; cases e
        | some q => rw [e1, e2] at e; cases e; exact .cons (Rp.dp f d _ _ h1 e1) (RpL.dp f r _ _ h2 e2)
end
theorem Vw.dp (f : Fz G H) {v : V} {d : T} {p : PyData} (h : Vw K G H v d) (e : d.pd = some p) : Dp K H v p := by
  cases h with
  | r h => exact Rp.dp f _ _ _ h e
  | lst s q =>
    rename_i a xs ds
    unfold T.pd at e
    cases e2 : T.pdL ds with
    | none => rw [e2] at e; cases e
    | some ps => rw [e2] at e; cases e; exact .lst (SqL.of s) (RpL.dp f _ _ _ q e2)
  | dK s q => unfold T.pd at e; cases e
  | dT s q => unfold T.pd at e; cases e
end

mutual
/-- as canLay0, so that the kernel can reckon it -/
def canB : PyData → Bool
  | .none => true
  | .bool _ => true
  | .int _ => true
  | .str x => x.cps.toList.all fun c => decide (c < 0x110000)
  | .list xs => canBs xs
  | .tuple xs => canBs xs
  | .dict _ => false
def canBs : List PyData → Bool
  | [] => true
  | x :: xs => canB x && canBs xs
end
mutual
theorem canB_eq : ∀ p : PyData, canB p = p.canLay0
  | .none => rfl
  | .bool _ => rfl
  | .int _ => rfl
  | .str x => by
    unfold canB PyData.canLay0 PyData.strOk
    rw [← Array.all_toList]
  | .list xs => by unfold canB PyData.canLay0; exact canBs_eq xs
  | .tuple xs => by unfold canB PyData.canLay0; exact canBs_eq xs
  | .dict _ => rfl
theorem canBs_eq : ∀ ps : List PyData, canBs ps = PyData.canLayAll0 ps
  | [] => rfl
  | x :: xs => by unfold canBs PyData.canLayAll0; rw [canB_eq x, canBs_eq xs]
end
def shB (p : PyData) : Bool := canB p && decide (p.depth ≤ 64)
theorem shB_eq (p : PyData) : shB p = SeqAt.shaped p := by
  unfold shB SeqAt.shaped
  rw [canB_eq]
/-- two trees are equal as Python has it; none where this is not told -/
def eqT (d e : T) : Option Bool := match d.pd, e.pd with
  | some p, some q => if shB p && shB q then some (PyData.eqv p q) else none
  | _, _ => none
def inT (d : T) (es : List T) : Option Bool := match d.pd, T.pdL es with
  | some p, some qs => if shB p && canBs qs then some (qs.any fun z => PyData.eqv z p) else none
  | _, _ => none
def keyT : T → Option Key
  | .int i => some (.inl i)
  | .str x => some (.inr x)
  | _ => none
def keysT : List T → Option (List Key)
  | [] => some []
  | d :: r => match keyT d, keysT r with
    | some k, some ks => some (k :: ks)
    | _, _ => none
/-- what a dict holds at a key; none: not told -/
def getT : T → T → Option (Option T)
  | .dK kvs, d => (keyT d).map fun k => valT kvs k
  | .dT kvs, .tup ds => (keysT ds).map fun k => valT kvs k
  | _, _ => none

def line : Nat := 16777216
theorem line_eq : line = sizeLine := sizeLine_eq.symm

def binT : Operator → T → T → Option T
  | .Add, .int i, .int j => some (.int (i + j))
  | .Add, .str x, .str y => if x.length + y.length ≤ line then some (.str (x ++ y)) else none
  | .Add, .lst xs, .lst ys => if xs.length + ys.length ≤ line then some (.lst (xs ++ ys)) else none
  | .Add, .tup xs, .tup ys => if xs.length + ys.length ≤ line then some (.tup (xs ++ ys)) else none
  | .Sub, .int i, .int j => some (.int (i - j))
  | .Mult, .int i, .int j => if i.natAbs.log2 + j.natAbs.log2 < 134000000 then some (.int (i * j)) else none
  | .Mult, .lst xs, .int k => if -(2 ^ 63) ≤ k ∧ k < 2 ^ 63 ∧ xs.length * k.toNat ≤ line then some (.lst (List.replicate k.toNat xs).flatten) else none
  | .Mult, .tup xs, .int k => if 2 ≤ k ∧ k ≤ 1000 ∧ xs.length ≤ 1000 ∧ xs.isEmpty = false then some (.tup (List.replicate k.toNat xs).flatten) else none
  | .FloorDiv, .int i, .int j => if 0 < j ∧ j.natAbs.log2 < 9000 then some (.int (i / j)) else none
  | .Mod, .int i, .int j => if 0 < j then some (.int (i % j)) else none
  | .Pow, .int i, .int j => if 0 ≤ j ∧ j ≤ 1000000 ∧ i.natAbs < 2 ^ 64 then some (.int (i ^ j.toNat)) else none
  | .RShift, .int i, .int j => if 0 ≤ j then some (.int (i / 2 ^ j.toNat)) else none
  | _, _, _ => none

def isNonT : T → Bool
  | .non => true
  | _ => false
def cmpT : CmpOp → T → T → Option Bool
  | .Lt, .int i, .int j => some (decide (i < j))
  | .LtE, .int i, .int j => some (decide (i ≤ j))
  | .Gt, .int i, .int j => some (decide (j < i))
  | .GtE, .int i, .int j => some (decide (j ≤ i))
  | .Lt, .str x, .str y => some (decide (x.cps.toList < y.cps.toList))
  | .Eq, d, e => eqT d e
  | .NotEq, d, e => (eqT d e).map fun b => !b
  | .Is, d, .non => some (isNonT d)
  | .IsNot, d, .non => some (!isNonT d)
  | .In, .str x, .str y => some (!(Builtin.Str.occurrences y x 0 y.length 1).isEmpty)
  | .NotIn, .str x, .str y => some (!(!(Builtin.Str.occurrences y x 0 y.length 1).isEmpty))
  | .In, d, .lst es => inT d es
  | .In, d, .tup es => inT d es
  | .NotIn, d, .lst es => (inT d es).map fun b => !b
  | .NotIn, d, .tup es => (inT d es).map fun b => !b
  | .In, d, .dK kvs => (getT (.dK kvs) d).map fun o => o.isSome
  | .In, d, .dT kvs => (getT (.dT kvs) d).map fun o => o.isSome
  | .NotIn, d, .dK kvs => (getT (.dK kvs) d).map fun o => !o.isSome
  | .NotIn, d, .dT kvs => (getT (.dT kvs) d).map fun o => !o.isSome
  | _, _, _ => none

def truT : T → Option Bool
  | .non => some false
  | .bl b => some b
  | .int i => some (i != 0)
  | .str y => if y.length ≤ line then some ((y.length : Int) != 0) else none
  | .lst xs => some (!xs.isEmpty)
  | .scr xs => some (!xs.isEmpty)
  | .tup xs => some (!xs.isEmpty)
  | _ => none

def idxT : T → T → Option T
  | .lst xs, .int i => atI xs i
  | .scr ns, .int i => (atI ns i).map T.int
  | .tup xs, .int i => atI xs i
  | .str z, .int i => if z.length ≤ line then (atI z.cps.toList i).map fun c => .str ⟨#[c]⟩ else none
  | .dK kvs, d => (getT (.dK kvs) d).join
  | .dT kvs, d => (getT (.dT kvs) d).join
  | _, _ => none

def cutL {α : Type} (xs : List α) (lo hi : Option Int) : List α := (xs.drop (HT.sIx xs.length 0 lo)).take (HT.sIx xs.length xs.length hi - HT.sIx xs.length 0 lo)
def slT : T → Option Int → Option Int → Option T
  | .lst xs, lo, hi => some (.lst (cutL xs lo hi))
  | .scr ns, lo, hi => some (.lst ((cutL ns lo hi).map T.int))
  | .tup xs, lo, hi => some (.tup (cutL xs lo hi))
  | .str z, lo, hi => if z.length ≤ line then some (.str (cutS z lo hi)) else none
  | _, _, _ => none

def lenT : T → Option Nat
  | .lst xs => some xs.length
  | .scr ns => some ns.length
  | .tup xs => some xs.length
  | .str z => if z.length ≤ line then some z.length else none
  | .dK kvs => some kvs.length
  | _ => none

/-! ### rules by values -/
section
variable (K : PySem.W.Frag)
def rO1 (f : T → Option T) : V → Hp → VK → Prop := fun x H Q => ∃ G d r, Fz G H ∧ Vw K G H x d ∧ f d = some r ∧ ∀ v H' G', Al G H G' H' → Rp K G' v r → Q v H'
def rO2 (f : T → T → Option T) : R2 := fun x y H Q => ∃ G d e r, Fz G H ∧ Vw K G H x d ∧ Vw K G H y e ∧ f d e = some r ∧ ∀ v H' G', Al G H G' H' → Rp K G' v r → Q v H'
inductive VwL (G H : Hp) : List V → List T → Prop
  | nil : VwL G H [] []
  | cons {v : V} {vs : List V} {d : T} {ds : List T} : Vw K G H v d → VwL G H vs ds → VwL G H (v :: vs) (d :: ds)
def rC (f : List T → Option T) : List V → Hp → VK → Prop := fun xs H Q => ∃ G ds r, Fz G H ∧ VwL K G H xs ds ∧ f ds = some r ∧ ∀ v H' G', Al G H G' H' → Rp K G' v r → Q v H'
end

section
variable {X : Cx}
theorem OpR.imp {f : Value → Value → Sem Value} {r r' : R2} (h : OpR X f r) (q : ∀ x y H Q, r' x y H Q → r x y H Q) : OpR X f r' :=
  fun pins s σ H x y v u Q I rx ry z => h pins s σ H x y v u Q I rx ry (q _ _ _ _ z)
theorem CallR.imp {f : Value} {r r' : List V → Hp → VK → Prop} (h : CallR X f r) (q : ∀ xs H Q, r' xs H Q → r xs H Q) : CallR X f r' :=
  fun pins s σ H xs us Q I rx z => h pins s σ H xs us Q I rx (q _ _ _ z)
/-- a result without a new object -/
theorem al0 {K : PySem.W.Frag} {G H : Hp} {Q : VK} {r : T} (f : Fz G H) (q : ∀ v H' G', Al G H G' H' → Rp K G' v r → Q v H') {v : V} (h : Rp K G v r) : Q v H := q v H G (Al.refl f) h
theorem alL {K : PySem.W.Frag} {G H : Hp} {Q : VK} {ds : List T} (f : Fz G H) (q : ∀ v H' G', Al G H G' H' → Rp K G' v (.lst ds) → Q v H') {xs : List V} (h : RpL K G xs ds) : ∀ p, H p = none → Q (.ref p) (upd H p (.lst xs)) := fun p hp =>
  q (.ref p) _ (upd G p (.lst xs)) (Al.lay f hp fun ob u z => by cases z) (.lst (.inl upd_same) (h.mono (Al.lay (o := .lst xs) f hp fun ob u z => by cases z).fz))
theorem alT {K : PySem.W.Frag} {G H : Hp} {Q : VK} {ds : List T} (f : Fz G H) (q : ∀ v H' G', Al G H G' H' → Rp K G' v (.tup ds) → Q v H') {xs : List V} (h : RpL K G xs ds) : ∀ p, H p = none → Q (.ref p) (upd H p (.tup xs)) := fun p hp =>
  q (.ref p) _ (upd G p (.tup xs)) (Al.lay f hp fun ob u z => by cases z) (.tup upd_same (h.mono (Al.lay (o := .tup xs) f hp fun ob u z => by cases z).fz))

theorem Inv.lstR {pins : List (Addr × Obj)} {σ : L2.St} {H : Hp} {s : Shared} {l : Addr} {xs : List V} (I : L2.Inv X pins σ H s) (hH : Rd H l (.lst xs)) : xs.length ≤ sizeLine ∧ ∃ (its : List Value) (n : Nat), Vals xs its ∧ xs.length = its.length ∧ s.heap.get? l = some { cls := .type "list", data := .seq its.toArray n } := by
  obtain ⟨z, its, n, r, e⟩ := hH.ok I.hok
  exact ⟨z, its, n, r, r.length, e⟩
/-- list + list, any that are read -/
theorem op_catG : OpR X (binaryOp .Add) (fun x y H Q => ∃ l b xs zs, x = .ref l ∧ y = .ref b ∧ Rd H l (.lst xs) ∧ Rd H b (.lst zs) ∧ xs.length + zs.length ≤ sizeLine ∧ ∀ p, H p = none → Q (.ref p) (upd H p (.lst (xs ++ zs)))) := by
  intro pins s σ H x y v u Q I rx ry h
  obtain ⟨l, b, xs, zs, rfl, rfl, hH, hB, hz, q⟩ := h
  cases rx
  cases ry
  obtain ⟨z, its, n, r, hl, e⟩ := Inv.lstR I hH
  obtain ⟨z2, its2, n2, r2, hl2, e2⟩ := Inv.lstR I hB
  refine PySem.P.add_list e e2 ?_ (by rw [List.size_toArray, List.size_toArray]; omega)
  have ea : its.toArray ++ its2.toArray = (its ++ its2).toArray := by simp
  rw [ea]
  exact ⟨.ref _, _, I.lnew (t' := s.toks) (r.append r2) (by rw [List.length_append]; omega), rfl, q _ I.fresh⟩
theorem op_repG : OpR X (binaryOp .Mult) (fun x y H Q => ∃ l k xs, x = .ref l ∧ y = .int k ∧ Rd H l (.lst xs) ∧ -(2 ^ 63) ≤ k ∧ k < 2 ^ 63 ∧ xs.length * k.toNat ≤ sizeLine ∧
  ∀ p, H p = none → Q (.ref p) (upd H p (.lst (List.replicate k.toNat xs).flatten))) := by
  intro pins s σ H x y v u Q I rx ry h
  obtain ⟨l, k, xs, rfl, rfl, hH, h1, h2, hz, q⟩ := h
  cases rx
  obtain ⟨t, rfl⟩ := ry
  obtain ⟨z, its, n, r, hl, e⟩ := Inv.lstR I hH
  have hlen : its.toArray.size * k.toNat ≤ sizeLine := by rw [List.size_toArray, ← hl]; exact hz
  have hcap : ¬ its.toArray.size * k.toNat > (2 ^ 63 - 1) / 8 := by
    have : (sizeLine : Nat) ≤ (2 ^ 63 - 1) / 8 := by decide
    omega
  have hfit : ¬ (!Builtin.List.listFitsIndex k) = true := by
    rw [fitsIndex_both h1 h2]
    exact Bool.false_ne_true
  have hlong : ¬ Builtin.List.listTooLong (its.toArray.size * k.toNat) = true := by
    rw [notLongL hlen]
    exact Bool.false_ne_true
  have hnew : List.foldl (fun x1 x2 => x1 ++ x2) #[] (List.replicate (if its.toArray.isEmpty = true then 0 else k.toNat) its.toArray) = (List.replicate k.toNat its).flatten.toArray := by
    have f0 : ∀ m : Nat, List.foldl (fun x1 x2 => x1 ++ x2) #[] (List.replicate m its.toArray) = (List.replicate m its).flatten.toArray := fun m => by
      have := foldl_rep its m []
      rw [List.nil_append] at this
      exact this
    rw [f0]
    cases its with
    | nil => simp
    | cons a r' => rw [if_neg (by simp)]
  refine wpAny_binaryOp_repeat_ref (T := "list") (U := "int") (by decide) ⟨_, e, rfl⟩ (fun s' => typeIs_int s' k t) noFill_list_mul F.fills_int_mul F.slot_int_rmul repeat_list F.slot_int_index.lookup
    (call_meets F.slot_int_rmul (typeIs_int s k t) F.entry_int_rmul (F.args_int_rmul_2 _ _) (int___rmul___int_list k t l its.toArray n)
      ⟨e, rfl, ⟨_, e, rfl⟩, call_meets F.slot_list_mul ⟨_, e, rfl⟩ F.entry_list_mul (F.args_list_mul_2 _ _) (AutoListH.list___mul___list_int_3 l its.toArray n k t hfit hcap hlong) ⟨e, ?_⟩⟩)
  rw [hnew]
  exact ⟨.ref _, _, I.lnew (t' := s.toks) (r.rep k.toNat) (by rw [PyProof.Rows.lm_len_rep_flat, Nat.mul_comm]; exact hz), rfl, q _ I.fresh⟩

theorem OpR.pick {ι : Type} {f : Value → Value → Sem Value} {r : R2} (h : ∀ x y H Q, r x y H Q → ∃ r', OpR X f r' ∧ r' x y H Q) : OpR X f r :=
  fun pins s σ H x y v u Q I rx ry z => let ⟨_, h1, h2⟩ := h x y H Q z; h1 pins s σ H x y v u Q I rx ry h2

theorem op_bin (op : Operator) : OpR X (binaryOp op) (rO2 X.K (binT op)) := by
  refine OpR.pick (ι := Unit) ?_
  rintro x y H Q ⟨G, d, e, r, f, hx, hy, hb, q⟩
  unfold binT at hb
  split at hb
  · cases hx.int_inv; cases hy.int_inv; cases hb
    exact ⟨_, op_add, _, _, rfl, rfl, al0 f q (.int _)⟩
  · cases hx.str_inv; cases hy.str_inv
    split at hb
    · rename_i hl; cases hb
      exact ⟨_, op_add_str, _, _, rfl, rfl, by rw [← line_eq]; exact hl, al0 f q (.str _)⟩
    · cases hb
  · obtain ⟨a, xs, rfl, h1, h2⟩ := hx.lst_inv f
    obtain ⟨b, ys, rfl, h3, h4⟩ := hy.lst_inv f
    split at hb
    · rename_i hl; cases hb
      exact ⟨_, op_catG, _, _, _, _, rfl, rfl, h1, h3, by rw [← line_eq, h2.length, h4.length]; exact hl, alL f q (h2.append h4)⟩
    · cases hb
  · obtain ⟨a, xs, rfl, h1, h2⟩ := hx.tup_inv f
    obtain ⟨b, ys, rfl, h3, h4⟩ := hy.tup_inv f
    split at hb
    · rename_i hl; cases hb
      have hx' := hx.tup_r
      have hy' := hy.tup_r
      refine ⟨_, op_catA, _, _, _, _, rfl, rfl, SqT.of h1, SqT.of h3, by rw [← line_eq, h2.length, h4.length]; exact hl, fun e => ?_, fun _ e => ?_, fun _ _ => alT f q (h2.append h4)⟩
      · subst e; cases h2; exact al0 f q hy'
      · subst e; cases h4; rw [List.append_nil] at q; exact al0 f q hx'
    · cases hb
  · cases hx.int_inv; cases hy.int_inv; cases hb
    exact ⟨_, op_sub, _, _, rfl, rfl, al0 f q (.int _)⟩
  · cases hx.int_inv; cases hy.int_inv
    split at hb
    · rename_i hl; cases hb
      exact ⟨_, op_mulX, _, _, rfl, rfl, mulx_ok (Nat.lt_log2_self) (Nat.lt_log2_self) (by omega), al0 f q (.int _)⟩
    · cases hb
  · obtain ⟨a, xs, rfl, h1, h2⟩ := hx.lst_inv f
    cases hy.int_inv
    split at hb
    · rename_i hl; cases hb
      exact ⟨_, op_repG, _, _, _, rfl, rfl, h1, hl.1, hl.2.1, by rw [← line_eq, h2.length]; exact hl.2.2, alL f q (h2.rep _)⟩
    · cases hb
  · obtain ⟨a, xs, rfl, h1, h2⟩ := hx.tup_inv f
    cases hy.int_inv
    split at hb
    · rename_i hl; cases hb
      refine ⟨_, op_repT, _, _, _, rfl, rfl, SqT.of h1, fun e => ?_, hl.1, hl.2.1, by rw [h2.length]; exact hl.2.2.1, alT f q (h2.rep _)⟩
      subst e
      cases h2
      exact absurd hl.2.2.2 (by simp)
    · cases hb
  · cases hx.int_inv; cases hy.int_inv
    split at hb
    · rename_i hl; cases hb
      exact ⟨_, op_fdivW, _, _, rfl, rfl, hl, al0 f q (.int _)⟩
    · cases hb
  · cases hx.int_inv; cases hy.int_inv
    split at hb
    · rename_i hl; cases hb
      exact ⟨_, op_mod, _, _, rfl, rfl, hl, al0 f q (.int _)⟩
    · cases hb
  · cases hx.int_inv; cases hy.int_inv
    split at hb
    · rename_i hl; cases hb
      exact ⟨_, op_pow, _, _, rfl, rfl, hl, al0 f q (.int _)⟩
    · cases hb
  · cases hx.int_inv; cases hy.int_inv
    split at hb
    · rename_i hl; cases hb
      exact ⟨_, op_shr, _, _, rfl, rfl, hl, al0 f q (.int _)⟩
    · cases hb
  · cases hb

/-! ### comparisons -/
def rCm (K : PySem.W.Frag) (op : CmpOp) : R2 := fun x y H Q => ∃ G d e b, Fz G H ∧ Vw K G H x d ∧ Vw K G H y e ∧ cmpT op d e = some b ∧ Q (.bl b) H
theorem op_inDT (hu : X.A.units + 65 < cLine) : OpR X (compareOp .In) (fun x y H Q => ∃ d ds, Dp X.K H x d ∧ (Dp X.K H y (.list ds) ∨ Dp X.K H y (.tuple ds)) ∧ SeqAt.shaped d = true ∧ PyData.canLayAll0 ds = true ∧ Q (.bl (ds.any fun z => PyData.eqv z d)) H) := by
  intro pins s σ H x y v u Q I rx ry h
  obtain ⟨d, ds, hd, he, sd, se, q⟩ := h
  obtain ⟨as, r1⟩ := Dp.reads I d x v hd rx
  rcases he with he | he
  · obtain ⟨bs, r2⟩ := Dp.reads I (.list ds) y u he ry
    exact SeqAt.in_list_reads r2 r1 se (SeqAt.canLay_of_shaped sd) (room_in_shaped sd hu) ⟨.bl _, H, I, rfl, q⟩
  · obtain ⟨bs, r2⟩ := Dp.reads I (.tuple ds) y u he ry
    exact SeqAt.in_tuple_reads r2 r1 se (SeqAt.canLay_of_shaped sd) (room_in_shaped sd hu) ⟨.bl _, H, I, rfl, q⟩
theorem op_notInDT (hu : X.A.units + 65 < cLine) : OpR X (compareOp .NotIn) (fun x y H Q => ∃ d ds, Dp X.K H x d ∧ (Dp X.K H y (.list ds) ∨ Dp X.K H y (.tuple ds)) ∧ SeqAt.shaped d = true ∧ PyData.canLayAll0 ds = true ∧ Q (.bl (!ds.any fun z => PyData.eqv z d)) H) := by
  intro pins s σ H x y v u Q I rx ry h
  obtain ⟨d, ds, hd, he, sd, se, q⟩ := h
  obtain ⟨as, r1⟩ := Dp.reads I d x v hd rx
  rcases he with he | he
  · obtain ⟨bs, r2⟩ := Dp.reads I (.list ds) y u he ry
    exact SeqAt.notIn_list_reads r2 r1 se (SeqAt.canLay_of_shaped sd) (room_in_shaped sd hu) ⟨.bl _, H, I, rfl, q⟩
  · obtain ⟨bs, r2⟩ := Dp.reads I (.tuple ds) y u he ry
    exact SeqAt.notIn_tuple_reads r2 r1 se (SeqAt.canLay_of_shaped sd) (room_in_shaped sd hu) ⟨.bl _, H, I, rfl, q⟩
theorem op_inDct (hu : X.A.units + 1 < cLine) : OpR X (compareOp .In) (fun y x H Q => ∃ a o, x = .ref a ∧ DGet H a y o ∧ Q (.bl o.isSome) H) := by
  intro pins s σ H y x v u Q I ry rx h
  obtain ⟨a, o, rfl, g, q⟩ := h
  cases rx
  exact d_in hu I g ry fun s' I' => ⟨.bl _, H, I', rfl, q⟩
theorem op_notInDct (hu : X.A.units + 1 < cLine) : OpR X (compareOp .NotIn) (fun y x H Q => ∃ a o, x = .ref a ∧ DGet H a y o ∧ Q (.bl (!o.isSome)) H) := by
  intro pins s σ H y x v u Q I ry rx h
  obtain ⟨a, o, rfl, g, q⟩ := h
  cases rx
  exact d_notIn hu I g ry fun s' I' => ⟨.bl _, H, I', rfl, q⟩
theorem eqT_inv {d e : T} {b : Bool} (h : eqT d e = some b) : ∃ p q, d.pd = some p ∧ e.pd = some q ∧ SeqAt.shaped p = true ∧ SeqAt.shaped q = true ∧ b = PyData.eqv p q := by
  unfold eqT at h
  split at h
  · rename_i p q h1 h2
    split at h
    · rename_i hs
      rw [Bool.and_eq_true, shB_eq] at hs
      first | rw [shB_eq] at hs | rw [canBs_eq] at hs
      cases h
      exact ⟨p, q, h1, h2, hs.1, hs.2, rfl⟩
    · cases h
  · cases h
theorem inT_inv {d : T} {es : List T} {b : Bool} (h : inT d es = some b) : ∃ p qs, d.pd = some p ∧ T.pdL es = some qs ∧ SeqAt.shaped p = true ∧ PyData.canLayAll0 qs = true ∧ b = qs.any fun z => PyData.eqv z p := by
  unfold inT at h
  split at h
  · rename_i p q h1 h2
    split at h
    · rename_i hs
      rw [Bool.and_eq_true, shB_eq] at hs
      first | rw [shB_eq] at hs | rw [canBs_eq] at hs
      cases h
      exact ⟨p, q, h1, h2, hs.1, hs.2, rfl⟩
    · cases h
  · cases h
theorem keyT_v {K : PySem.W.Frag} {G H : Hp} {v : V} {d : T} {k : Key} (h : Vw K G H v d) (e : keyT d = some k) : v = kV k := by
  unfold keyT at e
  split at e
  · cases e; exact h.int_inv
  · cases e; exact h.str_inv
  · cases e
theorem keyT_r {K : PySem.W.Frag} {G : Hp} {v : V} {d : T} {k : Key} (h : Rp K G v d) (e : keyT d = some k) : v = kV k := keyT_v (H := G) (.r h) e
theorem keysT_r {K : PySem.W.Frag} {G : Hp} : ∀ {ds : List T} {vs : List V} {ks : List Key}, RpL K G vs ds → keysT ds = some ks → vs = ks.map kV
  | [], _, _, h, e => by cases h; unfold keysT at e; cases e; rfl
  | d :: r, _, _, h, e => by
    cases h with
    | cons h1 h2 =>
      unfold keysT at e
      cases e1 : keyT d with
      | none => rw [e1] at e; cases e
      | some k =>
        cases e2 : keysT r with
        | none => rw [e1, e2] at e; cases e
        | some ks => rw [e1, e2] at e; cases e; rw [keyT_r h1 e1, keysT_r h2 e2]; rfl
/-- what a dict holds -/
theorem getT_ok {K : PySem.W.Frag} {G H : Hp} (f : Fz G H) {x y : V} {d e : T} {o : Option T} (hx : Vw K G H x d) (hy : Vw K G H y e) (h : getT d e = some o) :
    ∃ a vo, x = .ref a ∧ DGet H a y vo ∧ ((o = none ∧ vo = none) ∨ ∃ v t, o = some t ∧ vo = some v ∧ Rp K G v t) := by
  unfold getT at h
  split at h
  · obtain ⟨a, xs, rfl, h1, h2⟩ := hx.dK_inv f
    cases hk : keyT e with
    | none => rw [hk] at h; cases h
    | some k =>
      rw [hk] at h; cases h
      have ey := keyT_v hy hk
      subst ey
      refine ⟨a, valV xs k, rfl, .inl ⟨xs, k, h1, rfl, rfl⟩, ?_⟩
      rcases h2.val k with ⟨e1, e2⟩ | ⟨v, t, e1, e2, r⟩
      · exact .inl ⟨e1, e2⟩
      · exact .inr ⟨v, t, e1, e2, r⟩
  · rename_i kvs ds
    obtain ⟨a, xs, rfl, h1, h2⟩ := hx.dT_inv f
    obtain ⟨b, ys, rfl, h3, h4⟩ := hy.tup_inv f
    cases hk : keysT ds with
    | none => rw [hk] at h; cases h
    | some k =>
      rw [hk] at h; cases h
      have ey := keysT_r h4 hk
      subst ey
      refine ⟨a, valV xs k, rfl, .inr ⟨xs, k, b, h1, rfl, h3, rfl⟩, ?_⟩
      rcases h2.val k with ⟨e1, e2⟩ | ⟨v, t, e1, e2, r⟩
      · exact .inl ⟨e1, e2⟩
      · exact .inr ⟨v, t, e1, e2, r⟩
  · cases h
theorem isNon_ok {K : PySem.W.Frag} {G H : Hp} {x : V} {d : T} (hx : Vw K G H x d) : decide (x = V.non) = isNonT d := by
  cases hx with
  | r h => cases h <;> first | rfl | (unfold isNonT; exact decide_eq_true rfl) | (unfold isNonT; exact decide_eq_false (by intro z; cases z))
  | lst _ _ => exact decide_eq_false (by intro z; cases z)
  | dK _ _ => exact decide_eq_false (by intro z; cases z)
  | dT _ _ => exact decide_eq_false (by intro z; cases z)
theorem op_cmp (hu : X.A.units + 65 < cLine) (op : CmpOp) : OpR X (compareOp op) (rCm X.K op) := by
  have hu1 : X.A.units + 1 < cLine := by omega
  have hu64 : X.A.units + 64 < cLine := by omega
  refine OpR.pick (ι := Unit) ?_
  rintro x y H Q ⟨G, d, e, b, f, hx, hy, hb, q⟩
  have dct : ∀ {d' e' : T} {x' y' : V} {o : Option T}, Vw X.K G H x' d' → Vw X.K G H y' e' → getT e' d' = some o → ∃ a vo, y' = .ref a ∧ DGet H a x' vo ∧ vo.isSome = o.isSome := fun {d' e' x' y' o} h1 h2 h3 => by
    obtain ⟨a, vo, e1, e2, e3⟩ := getT_ok f h2 h1 h3
    refine ⟨a, vo, e1, e2, ?_⟩
    rcases e3 with ⟨z1, z2⟩ | ⟨v, t, z1, z2, _⟩ <;> rw [z1, z2] <;> rfl
  unfold cmpT at hb
  split at hb
  · cases hx.int_inv; cases hy.int_inv; cases hb; exact ⟨_, op_lt, _, _, rfl, rfl, q⟩
  · cases hx.int_inv; cases hy.int_inv; cases hb; exact ⟨_, op_le, _, _, rfl, rfl, q⟩
  · cases hx.int_inv; cases hy.int_inv; cases hb; exact ⟨_, op_gt, _, _, rfl, rfl, q⟩
  · cases hx.int_inv; cases hy.int_inv; cases hb; exact ⟨_, op_ge, _, _, rfl, rfl, q⟩
  · cases hx.str_inv; cases hy.str_inv; cases hb; exact ⟨_, op_lt_str, _, _, rfl, rfl, q⟩
  · obtain ⟨p, p', e1, e2, e3, e4, rfl⟩ := eqT_inv hb
    exact ⟨_, op_eqD hu64, p, p', hx.dp f e1, hy.dp f e2, e3, e4, q⟩
  · obtain ⟨b', hb', rfl⟩ := Option.map_eq_some_iff.mp hb
    obtain ⟨p, p', e1, e2, e3, e4, rfl⟩ := eqT_inv hb'
    exact ⟨_, op_neD hu64, p, p', hx.dp f e1, hy.dp f e2, e3, e4, q⟩
  · cases hy.non_inv; cases hb
    exact ⟨_, op_isN, rfl, by rw [isNon_ok hx]; exact q⟩
  · cases hy.non_inv; cases hb
    exact ⟨_, op_notN, rfl, by rw [isNon_ok hx]; exact q⟩
  · cases hx.str_inv; cases hy.str_inv; cases hb; exact ⟨_, op_in_str, _, _, rfl, rfl, q⟩
  · cases hx.str_inv; cases hy.str_inv; cases hb; exact ⟨_, op_notIn_str, _, _, rfl, rfl, q⟩
  · obtain ⟨p, qs, e1, e2, e3, e4, rfl⟩ := inT_inv hb
    exact ⟨_, op_inDT hu, p, qs, hx.dp f e1, .inl (hy.dp f (by unfold T.pd; rw [e2])), e3, e4, q⟩
  · obtain ⟨p, qs, e1, e2, e3, e4, rfl⟩ := inT_inv hb
    exact ⟨_, op_inDT hu, p, qs, hx.dp f e1, .inr (hy.dp f (by unfold T.pd; rw [e2])), e3, e4, q⟩
  · obtain ⟨b', hb', rfl⟩ := Option.map_eq_some_iff.mp hb
    obtain ⟨p, qs, e1, e2, e3, e4, rfl⟩ := inT_inv hb'
    exact ⟨_, op_notInDT hu, p, qs, hx.dp f e1, .inl (hy.dp f (by unfold T.pd; rw [e2])), e3, e4, q⟩
  · obtain ⟨b', hb', rfl⟩ := Option.map_eq_some_iff.mp hb
    obtain ⟨p, qs, e1, e2, e3, e4, rfl⟩ := inT_inv hb'
    exact ⟨_, op_notInDT hu, p, qs, hx.dp f e1, .inr (hy.dp f (by unfold T.pd; rw [e2])), e3, e4, q⟩
  · obtain ⟨o, ho, rfl⟩ := Option.map_eq_some_iff.mp hb
    obtain ⟨a, vo, rfl, g, e⟩ := dct hx hy ho
    exact ⟨_, op_inDct hu1, a, vo, rfl, g, by rw [e]; exact q⟩
  · obtain ⟨o, ho, rfl⟩ := Option.map_eq_some_iff.mp hb
    obtain ⟨a, vo, rfl, g, e⟩ := dct hx hy ho
    exact ⟨_, op_inDct hu1, a, vo, rfl, g, by rw [e]; exact q⟩
  · obtain ⟨o, ho, rfl⟩ := Option.map_eq_some_iff.mp hb
    obtain ⟨a, vo, rfl, g, e⟩ := dct hx hy ho
    exact ⟨_, op_notInDct hu1, a, vo, rfl, g, by rw [e]; exact q⟩
  · obtain ⟨o, ho, rfl⟩ := Option.map_eq_some_iff.mp hb
    obtain ⟨a, vo, rfl, g, e⟩ := dct hx hy ho
    exact ⟨_, op_notInDct hu1, a, vo, rfl, g, by rw [e]; exact q⟩
  · cases hb

/-! ### truth, subscripts, slices, len -/
theorem tru_T {G H : Hp} {x : V} {d : T} {b : Bool} (f : Fz G H) (hx : Vw X.K G H x d) (h : truT d = some b) : TruV X.K x H b := by
  have emp : ∀ {xs : List V} {ds : List T}, RpL X.K G xs ds → (!xs.isEmpty) = !ds.isEmpty := fun {xs ds} r => by cases r <;> rfl
  unfold truT at h
  split at h
  · cases h; cases hx.non_inv; rfl
  · cases h; cases hx.bl_inv; rfl
  · cases h; cases hx.int_inv; rfl
  · split at h
    · rename_i hl
      cases h; cases hx.str_inv
      exact ⟨by rw [← line_eq]; exact hl, rfl⟩
    · cases h
  · cases h
    obtain ⟨a, xs, rfl, h1, h2⟩ := hx.lst_inv f
    exact .inl ⟨xs, .inl h1, (emp h2).symm⟩
  · cases h
    obtain ⟨a, rfl, h1⟩ := hx.scr_inv f
    exact .inl ⟨_, h1, by simp⟩
  · cases h
    obtain ⟨a, xs, rfl, h1, h2⟩ := hx.tup_inv f
    exact .inr (.inl ⟨xs, SqT.of h1, (emp h2).symm⟩)
  · cases h
theorem atI_map {α β : Type} (g : α → β) (xs : List α) (i : Int) : atI (xs.map g) i = (atI xs i).map g := by
  unfold atI
  rw [List.length_map]
  cases ixN xs.length i with
  | none => rfl
  | some j => simp
theorem atI_rp {K : PySem.W.Frag} {G : Hp} {vs : List V} {ds : List T} {i : Int} {t : T} (r : RpL K G vs ds) (h : atI ds i = some t) : ∃ v, atI vs i = some v ∧ Rp K G v t := by
  unfold atI at h ⊢
  rw [r.length]
  cases hj : ixN ds.length i with
  | none => rw [hj] at h; cases h
  | some j =>
    rw [hj] at h
    exact r.get h
theorem IxR.pick {r : R2} (h : ∀ x y H Q, r x y H Q → ∃ r', IxR X r' ∧ r' x y H Q) : IxR X r :=
  fun a b pins s σ H x y v u Q I rx ry z w => let ⟨_, h1, h2⟩ := h x y H Q z; h1 a b pins s σ H x y v u Q I rx ry h2 w
theorem ix_dct (hu : X.A.units + 1 < cLine) : IxR X (fun x y H Q => ∃ a v, x = .ref a ∧ DGet H a y (some v) ∧ Q v H) := by
  intro value slice pins s σ H x y v u Q I rx ry h hs
  obtain ⟨a, z, rfl, g, q⟩ := h
  cases rx
  exact tail_any (dict_typeIs I g) PySem.F.slot_dict_getitem.lookup (d_getItem hu I g ry fun w' s3 I3 rw' => ⟨z, H, I3, rw', q⟩) hs
theorem ix_T (hu : X.A.units + 1 < cLine) : IxR X (rO2 X.K idxT) := by
  refine IxR.pick ?_
  rintro x y H Q ⟨G, d, e, r, f, hx, hy, hb, q⟩
  have dct : ∀ {o : Option T}, getT d e = some o → o = some r → ∃ a v, x = .ref a ∧ DGet H a y (some v) ∧ Q v H := fun {o} h1 h2 => by
    obtain ⟨a, vo, e1, e2, e3⟩ := getT_ok f hx hy h1
    rcases e3 with ⟨z1, z2⟩ | ⟨v, t, z1, z2, z3⟩
    · rw [z1] at h2; cases h2
    · rw [z1] at h2; cases h2; subst z2
      exact ⟨a, v, e1, e2, al0 f q z3⟩
  unfold idxT at hb
  split at hb
  · obtain ⟨a, xs, rfl, h1, h2⟩ := hx.lst_inv f
    cases hy.int_inv
    obtain ⟨v, e1, e2⟩ := atI_rp h2 hb
    exact ⟨_, ix_list, a, xs, _, v, rfl, rfl, .inl h1, e1, al0 f q e2⟩
  · obtain ⟨a, rfl, h1⟩ := hx.scr_inv f
    cases hy.int_inv
    obtain ⟨n, e1, rfl⟩ := Option.map_eq_some_iff.mp hb
    exact ⟨_, ix_list, a, _, _, .int n, rfl, rfl, h1, by rw [atI_map, e1]; rfl, al0 f q (.int _)⟩
  · obtain ⟨a, xs, rfl, h1, h2⟩ := hx.tup_inv f
    cases hy.int_inv
    obtain ⟨v, e1, e2⟩ := atI_rp h2 hb
    exact ⟨_, ix_tup, a, xs, _, v, rfl, rfl, SqT.of h1, e1, al0 f q e2⟩
  · cases hx.str_inv; cases hy.int_inv
    split at hb
    · rename_i hl
      obtain ⟨c, e1, rfl⟩ := Option.map_eq_some_iff.mp hb
      exact ⟨_, ix_str, _, _, c, rfl, rfl, by rw [← line_eq]; exact hl, e1, al0 f q (.str _)⟩
    · cases hb
  · obtain ⟨o, h1, h2⟩ := Option.join_eq_some_iff.mp hb |> fun z => (⟨some r, z, rfl⟩ : ∃ o, _ = some o ∧ o = some r)
    exact ⟨_, ix_dct hu, dct h1 h2⟩
  · obtain ⟨o, h1, h2⟩ := Option.join_eq_some_iff.mp hb |> fun z => (⟨some r, z, rfl⟩ : ∃ o, _ = some o ∧ o = some r)
    exact ⟨_, ix_dct hu, dct h1 h2⟩
  · cases hb
theorem cut_rp {K : PySem.W.Frag} {G : Hp} {vs : List V} {ds : List T} (lo hi : Option Int) (r : RpL K G vs ds) : RpL K G (cutV vs lo hi) (cutL ds lo hi) := by
  unfold cutV cutL
  rw [r.length]
  exact (r.drop _).take _
def rSlG (K : PySem.W.Frag) : V → Option Int → Option Int → Hp → VK → Prop := fun x lo hi H Q => ∃ G d r, Fz G H ∧ Vw K G H x d ∧ slT d lo hi = some r ∧ ∀ v H' G', Al G H G' H' → Rp K G' v r → Q v H'
theorem SlR.pick {r : V → Option Int → Option Int → Hp → VK → Prop} (h : ∀ x lo hi H Q, r x lo hi H Q → ∃ r', SlR X r' ∧ r' x lo hi H Q) : SlR X r :=
  fun pins s σ H x v vl vu lo hi sl Q I rx hs pl pu z => let ⟨_, h1, h2⟩ := h x lo hi H Q z; h1 pins s σ H x v vl vu lo hi sl Q I rx hs pl pu h2
theorem sl_G : SlR X (rSlG X.K) := by
  refine SlR.pick ?_
  rintro x lo hi H Q ⟨G, d, r, f, hx, hb, q⟩
  unfold slT at hb
  split at hb
  · cases hb
    obtain ⟨a, xs, rfl, h1, h2⟩ := hx.lst_inv f
    exact ⟨_, sl_list, a, xs, rfl, .inl h1, alL f q (cut_rp _ _ h2)⟩
  · cases hb
    obtain ⟨a, rfl, h1⟩ := hx.scr_inv f
    refine ⟨_, sl_list, a, _, rfl, h1, alL f q ?_⟩
    have e : ∀ (ns : List Int), cutV (ns.map V.int) lo hi = (cutL ns lo hi).map V.int := fun ns => by
      unfold cutV cutL
      rw [List.length_map, List.map_take, List.map_drop]
    rw [e]
    exact RpL.ints _
  · cases hb
    obtain ⟨a, xs, rfl, h1, h2⟩ := hx.tup_inv f
    have hx' := hx.tup_r
    refine ⟨_, sl_tupA, a, xs, rfl, SqT.of h1, fun e => ?_, fun _ => alT f q (cut_rp _ _ h2)⟩
    refine al0 f q ?_
    have e2 : ∀ ds : List T, xs.length = ds.length → cutL ds lo hi = ds := fun ds hl => by
      unfold cutL
      rw [← hl, e.1, e.2, hl, Nat.sub_zero, List.drop_zero, List.take_length]
    rw [e2 _ h2.length]
    exact hx'
  · cases hx.str_inv
    split at hb
    · rename_i hl
      cases hb
      exact ⟨_, sl_str, _, rfl, by rw [← line_eq]; exact hl, al0 f q (.str _)⟩
    · cases hb
  · cases hb
end
end Qq

set_option maxHeartbeats 1000000
/-! Q2s: sorted, of data of any kind. -/
namespace Qq
open PySem PySem.Spec PyProof.Rows L2

/-! ### sorting -/
section
variable {α : Type} (le : α → α → Bool)
def insT (x : α) : List α → List α
  | [] => [x]
  | y :: r => if le x y then x :: y :: r else y :: insT x r
def srtT : List α → List α
  | [] => []
  | x :: r => insT le x (srtT r)
theorem insT_perm (x : α) : ∀ l : List α, (insT le x l).Perm (x :: l)
  | [] => .refl _
  | y :: r => by
    unfold insT
    split
    · exact .refl _
    · exact ((insT_perm x r).cons y).trans (.swap x y r)
theorem srtT_perm : ∀ l : List α, (srtT le l).Perm l
  | [] => .refl _
  | x :: r => (insT_perm le x _).trans ((srtT_perm r).cons x)
theorem insT_sorted (tot : ∀ x y, le x y = true ∨ le y x = true) (tr : ∀ x y z, le x y = true → le y z = true → le x z = true) (x : α) : ∀ l : List α, l.Pairwise (fun a b => le a b = true) → (insT le x l).Pairwise (fun a b => le a b = true)
  | [], _ => by unfold insT; exact List.pairwise_cons.mpr ⟨fun _ h => (nomatch h), .nil⟩
  | y :: r, h => by
    obtain ⟨h1, h2⟩ := List.pairwise_cons.mp h
    unfold insT
    split
    · rename_i hxy
      refine List.pairwise_cons.mpr ⟨fun z hz => ?_, h⟩
      rcases List.mem_cons.mp hz with rfl | hz
      · exact hxy
      · exact tr _ _ _ hxy (h1 z hz)
    · rename_i hxy
      have hyx : le y x = true := (tot x y).resolve_left hxy
      refine List.pairwise_cons.mpr ⟨fun z hz => ?_, insT_sorted tot tr x r h2⟩
      rcases List.mem_cons.mp ((insT_perm le x r).mem_iff.mp hz) with rfl | hz
      · exact hyx
      · exact h1 z hz
theorem srtT_sorted (tot : ∀ x y, le x y = true ∨ le y x = true) (tr : ∀ x y z, le x y = true → le y z = true → le x z = true) : ∀ l : List α, (srtT le l).Pairwise (fun a b => le a b = true)
  | [] => .nil
  | x :: r => insT_sorted le tot tr x _ (srtT_sorted tot tr r)
end

/-! ### the order of data -/
def T.pdg (t : T) : PyData := t.pd.getD .none
def leT (a b : T) : Bool := !PySem.W.dataLt b.pdg a.pdg
theorem dlt_irr (p : PyData) : PySem.W.dataLt p p = false := PyProof.Rows.lex_irrefl _
theorem dlt_asym {p q : PyData} (h : PySem.W.dataLt p q = true) : PySem.W.dataLt q p = false := by
  cases e : PySem.W.dataLt q p with
  | false => rfl
  | true => exact absurd (PyProof.Rows.lex_trans _ _ _ h e) (by rw [PyProof.Rows.lex_irrefl]; exact Bool.false_ne_true)
theorem leT_tot (x y : T) : leT x y = true ∨ leT y x = true := by
  unfold leT
  cases e : PySem.W.dataLt y.pdg x.pdg with
  | false => exact .inl rfl
  | true => exact .inr (by rw [dlt_asym e]; rfl)
theorem leT_tr (x y z : T) (h1 : leT x y = true) (h2 : leT y z = true) : leT x z = true := by
  unfold leT at *
  cases e : PySem.W.dataLt z.pdg x.pdg with
  | false => rfl
  | true =>
    rcases PyProof.Rows.lex_negTrans _ (PySem.W.keyToks y.pdg) _ e with h | h
    · have : PySem.W.dataLt z.pdg y.pdg = true := h
      rw [this] at h2; cases h2
    · have : PySem.W.dataLt y.pdg x.pdg = true := h
      rw [this] at h1; cases h1
open PySem.W in
mutual
theorem eqv_one : ∀ (x y : PyData), alike x y = true → PyData.eqv x y = true → x = y
  | .none, y, h, e => by cases y <;> first | rfl | (simp [alike] at h; done)
  | .bool b, y, h, e => by
    cases y <;> first | (simp [alike] at h; done) | skip
    rename_i c
    cases b <;> cases c <;> first | rfl | (simp [PyData.eqv] at e; done)
  | .int i, y, h, e => by
    cases y <;> first | (simp [alike] at h; done) | skip
    simpa [PyData.eqv] using e
  | .str i, y, h, e => by
    cases y <;> first | (simp [alike] at h; done) | skip
    simpa [PyData.eqv] using e
  | .list xs, y, h, e => by
    cases y <;> first | (simp [alike] at h; done) | skip
    rename_i ys
    rw [alike] at h
    rw [PyData.eqv] at e
    rw [eqvAll_one xs ys h e]
  | .tuple xs, y, h, e => by
    cases y <;> first | (simp [alike] at h; done) | skip
    rename_i ys
    rw [alike] at h
    rw [PyData.eqv] at e
    rw [eqvAll_one xs ys h e]
  | .dict _, y, h, e => by cases y <;> (simp [alike] at h; done)
theorem eqvAll_one : ∀ (xs ys : List PyData), alikeAll xs ys = true → PyData.eqvAll xs ys = true → xs = ys
  | [], [], _, _ => rfl
  | [], _ :: _, _, e => by simp [PyData.eqvAll] at e
  | _ :: _, [], _, e => by simp [PyData.eqvAll] at e
  | x :: xs, y :: ys, h, e => by
    obtain ⟨h1, h2⟩ := alike_all_cons h
    rw [eqv_all_cons, Bool.and_eq_true] at e
    rw [eqv_one x y h1 e.1, eqvAll_one xs ys h2 e.2]
end
theorem dlt_one {p q : PyData} (h : PySem.W.alike p q = true) (h1 : PySem.W.dataLt p q = false) (h2 : PySem.W.dataLt q p = false) : p = q := by
  have e : PySem.W.keyToks p = PySem.W.keyToks q := PyProof.Rows.lex_total _ _ h1 h2
  refine eqv_one p q h ?_
  cases ev : PyData.eqv p q with
  | true => rfl
  | false =>
    exfalso
    have := (PySem.W.toks_eqv p q h).2 ev [.inl 0] [.inl 1]
    rw [e, PySem.W.lex_pre, PyProof.Rows.lex_irrefl] at this
    revert this
    decide
mutual
theorem pd_inj : ∀ (a b : T) (p : PyData), a.pd = some p → b.pd = some p → a = b
  | .non, b, p, h1, h2 => by
    unfold T.pd at h1; cases h1
    cases b <;> unfold T.pd at h2 <;> first | rfl | (cases h2; done) | (split at h2 <;> cases h2; done)
  | .bl x, b, p, h1, h2 => by
    unfold T.pd at h1; cases h1
    cases b <;> unfold T.pd at h2 <;> first | (cases h2; rfl) | (cases h2; done) | (split at h2 <;> cases h2; done)
  | .int x, b, p, h1, h2 => by
    unfold T.pd at h1; cases h1
    cases b <;> unfold T.pd at h2 <;> first | (cases h2; rfl) | (cases h2; done) | (split at h2 <;> cases h2; done)
  | .str x, b, p, h1, h2 => by
    unfold T.pd at h1; cases h1
    cases b <;> unfold T.pd at h2 <;> first | (cases h2; rfl) | (cases h2; done) | (split at h2 <;> cases h2; done)
  | .tup xs, b, p, h1, h2 => by
    unfold T.pd at h1
    split at h1
    · rename_i ps hp
      cases h1
      cases b <;> unfold T.pd at h2 <;> first | (cases h2; done) | (split at h2 <;> first | (cases h2; done) | skip)
      rename_i ys _ qs hq
      cases h2
      rw [pdL_inj xs ys _ hp hq]
    · cases h1
  | .lst xs, b, p, h1, h2 => by
    unfold T.pd at h1
    split at h1
    · rename_i ps hp
      cases h1
      cases b <;> unfold T.pd at h2 <;> first | (cases h2; done) | (split at h2 <;> first | (cases h2; done) | skip)
      rename_i ys _ qs hq
      cases h2
      rw [pdL_inj xs ys _ hp hq]
    · cases h1
  | .dK _, b, p, h1, h2 => by unfold T.pd at h1; cases h1
  | .dT _, b, p, h1, h2 => by unfold T.pd at h1; cases h1
  | .scr _, b, p, h1, h2 => by unfold T.pd at h1; cases h1
theorem pdL_inj : ∀ (a b : List T) (p : List PyData), T.pdL a = some p → T.pdL b = some p → a = b
  | [], [], _, _, _ => rfl
  | [], d :: r, p, h1, h2 => by
    unfold T.pdL at h1 h2
    cases h1
    split at h2 <;> cases h2
  | d :: r, [], p, h1, h2 => by
    unfold T.pdL at h1 h2
    cases h2
    split at h1 <;> cases h1
  | d :: r, e :: s, p, h1, h2 => by
    unfold T.pdL at h1 h2
    split at h1
    · rename_i p1 p2 e1 e2
      cases h1
      split at h2
      · rename_i q1 q2 e3 e4
        cases h2
        rw [pd_inj d e _ e1 e3, pdL_inj r s _ e2 e4]
      · cases h2
    · cases h1
end

/-! ### what can be sorted -/
def isTup1 : PyData → Bool
  | .tuple (_ :: _) => true
  | _ => false
def notTN : PyData → Bool
  | .tuple _ => false
  | .none => false
  | _ => true
def srtOk (ps : List PyData) : Bool := (ps.all fun p => ps.all fun q => PySem.W.alike p q) && (ps.all isTup1 || ps.all notTN) && ps.all fun p => decide (p.depth ≤ 60)
def sortT (ds : List T) : Option (List T) := match T.pdL ds with
  | some ps => if ds.length ≤ line ∧ srtOk ps = true then some (srtT leT ds) else none
  | none => none
theorem srtOk_al {ps : List PyData} (h : srtOk ps = true) : PySem.W.AllAlike ps := fun d hd d' hd' => by
  unfold srtOk at h
  rw [Bool.and_eq_true, Bool.and_eq_true] at h
  exact List.all_eq_true.mp (List.all_eq_true.mp h.1.1 d hd) d' hd'
theorem srtOk_so {ps : List PyData} (h : srtOk ps = true) : PySem.W.Sortable ps := by
  unfold srtOk at h
  rw [Bool.and_eq_true, Bool.and_eq_true, Bool.or_eq_true] at h
  rcases h.1.2 with h | h
  · refine .inl fun d hd => ?_
    have := List.all_eq_true.mp h d hd
    unfold isTup1 at this
    split at this
    · exact ⟨_, _, rfl⟩
    · cases this
  · refine .inr fun d hd => ?_
    have := List.all_eq_true.mp h d hd
    unfold notTN at this
    split at this
    · cases this
    · cases this
    · rename_i h1 h2
      exact ⟨fun z => h2 z, fun xs z => h1 xs z⟩
theorem srtOk_dp {ps : List PyData} (h : srtOk ps = true) : ∀ p ∈ ps, p.depth ≤ 60 := fun p hp => by
  unfold srtOk at h
  rw [Bool.and_eq_true] at h
  exact of_decide_eq_true (List.all_eq_true.mp h.2 p hp)
theorem pdL_mem : ∀ {ds : List T} {ps : List PyData}, T.pdL ds = some ps → ∀ d ∈ ds, ∃ p ∈ ps, d.pd = some p
  | [], _, _, d, hd => (nomatch hd)
  | e :: r, ps, h, d, hd => by
    unfold T.pdL at h
    split at h
    · rename_i p q e1 e2
      cases h
      rcases List.mem_cons.mp hd with rfl | hd
      · exact ⟨p, List.mem_cons_self, e1⟩
      · obtain ⟨p', h1, h2⟩ := pdL_mem e2 d hd
        exact ⟨p', List.mem_cons_of_mem _ h1, h2⟩
    · cases h
theorem pdL_map : ∀ {ds : List T} {ps : List PyData}, T.pdL ds = some ps → ps = ds.map T.pdg
  | [], _, h => by unfold T.pdL at h; cases h; rfl
  | e :: r, ps, h => by
    unfold T.pdL at h
    split at h
    · rename_i p q e1 e2
      cases h
      rw [List.map_cons, ← pdL_map e2]
      unfold T.pdg
      rw [e1]; rfl
    · cases h
/-- two arrangements in order are the same -/
theorem sort_one {ds as bs : List T} {ps : List PyData} (hp : T.pdL ds = some ps) (hs : srtOk ps = true) (ha : as.Perm ds) (hb : bs.Perm ds) (sa : as.Pairwise (fun a b => leT a b = true)) (sb : bs.Pairwise (fun a b => leT a b = true)) : as = bs := by
  refine List.Perm.eq_of_pairwise (le := fun a b => leT a b = true) (fun x y hx hy h1 h2 => ?_) sa sb (ha.trans hb.symm)
  obtain ⟨p, m1, e1⟩ := pdL_mem hp x (ha.mem_iff.mp hx)
  obtain ⟨q, m2, e2⟩ := pdL_mem hp y (hb.mem_iff.mp hy)
  unfold leT T.pdg at h1 h2
  rw [e1, e2] at h1 h2
  have := dlt_one (srtOk_al hs p m1 q m2) (by simpa using h2) (by simpa using h1)
  subst this
  exact pd_inj _ _ _ e1 e2
section
variable {K : PySem.W.Frag} {G : Hp}
theorem RpL.zip_mem : ∀ {vs : List V} {ds : List T}, RpL K G vs ds → ∀ b ∈ vs.zip ds, Rp K G b.1 b.2
  | _, _, .nil, b, h => by simp at h
  | _, _, .cons r t, b, h => by
    rw [List.zip_cons_cons] at h
    rcases List.mem_cons.mp h with rfl | h
    · exact r
    · exact t.zip_mem b h
theorem RpL.of_zip : ∀ {bs : List (V × T)}, (∀ b ∈ bs, Rp K G b.1 b.2) → RpL K G (bs.map Prod.fst) (bs.map Prod.snd)
  | [], _ => .nil
  | b :: bs, h => .cons (h b List.mem_cons_self) (RpL.of_zip fun c hc => h c (List.mem_cons_of_mem _ hc))
end
theorem each_zip {R : Value → V → Prop} : ∀ {us : List Value} {vs : List V} {ds : List T}, vs.length = ds.length → Vals vs us → PySem.W.EachIs (fun u b => RelV b.1 u) us (vs.zip ds)
  | _, _, _, h, .nil => by simp; exact .nil
  | _, _, [], h, .cons _ _ => by simp at h
  | _, _, d :: ds, h, .cons r t => by
    rw [List.zip_cons_cons]
    exact .cons r (each_zip (R := R) (by simpa using h) t)
theorem vals_each : ∀ {us : List Value} {bs : List (V × T)}, PySem.W.EachIs (fun u b => RelV b.1 u) us bs → Vals (bs.map Prod.fst) us
  | _, _, .nil => .nil
  | _, _, .cons r t => .cons r (vals_each t)
section
open PySem.W
variable {prog : Program} {w : World} {A : Around} {E : Value → Shared → Prop} {s : Shared} {κ : PyProof.Rows.KeyKind}
theorem collect_tup {l : Addr} {vs : List Value} {Q : List Value → Shared → Prop} (hl : IsTup s.heap l vs.toArray)
    (h : Q vs { s with heap := (s.heap.push (seqObj "list" #[] 0)).update s.heap.objs.size (Obj.mapSeq (· ++ vs.toArray)) }) (hsz : vs.length ≤ sizeLine) :
    wpAny (model prog w) A (collect (.ref l)) Q E s := by
  obtain ⟨o, ho, hc, n, hd⟩ := id hl
  unfold collect
  refine wpAny_bind (wpAny_runValue (codeAny_builtin entry_proto_collect' ?_))
  show wpAny _ _ (do again (.builtin "list.__iadd__" ⟨[← newList [], .ref l], []⟩)) _ _ s
  refine wpAny_bind (wpAny_newList (wpAny_pure ⟨Code.quiet_builtin _ (by decide +kernel), codeAny_builtin entry_list_iadd' ?_⟩))
  show wpAny _ _ (Builtin.List.listExtendWith (.ref s.heap.objs.size) (.ref l) (.ref s.heap.objs.size)) _ _ { s with heap := s.heap.push (seqObj "list" #[] 0) }
  unfold Builtin.List.listExtendWith
  have ho' : (s.heap.push (seqObj "list" #[] 0)).get? l = some o := Heap.get?_push_of_some _ ho
  refine wpAny_bind (wpAny_typeOf (T := "tuple") ⟨o, ho', hc⟩ ?_)
  have ht : (Value.type "tuple" == Value.type "tuple") = true := by rfl
  rw [if_pos (by rw [ht]; simp)]
  refine wpAny_bind (listItems_at ho' hd ?_)
  refine wpAny_bind (listItems_at (xs := #[]) (n := 0) (Heap.get?_push_size _ rfl) rfl ?_)
  rw [if_neg (by simp)]
  refine wpAny_bind (listUpdate_at (xs := #[]) (n := 0) (Heap.get?_push_size _ rfl) rfl ?_ (Nat.zero_le _) (by show (#[] ++ vs.toArray).size ≤ sizeLine + 1; simp only [Array.size_append, List.size_toArray, List.length_nil]; omega))
  refine wpAny_pure ?_
  show wpAny (model prog w) A (do
      let o ← load s.heap.objs.size
      match o.data with
      | .seq xs _ => pure xs.toList
      | _ => unsupported "internal:collect") Q E { s with heap := (s.heap.push (seqObj "list" #[] 0)).update s.heap.objs.size (Obj.mapSeq (· ++ vs.toArray)) }
  refine wpAny_bind (wpAny_load (get?_update_seq (Heap.get?_push_size _ rfl) _) ?_)
  show wpAny _ _ (pure ((#[] : Array Value) ++ vs.toArray).toList) Q E _
  rw [show ((#[] : Array Value) ++ vs.toArray).toList = vs by simp]
  exact wpAny_pure h
theorem sorted_of_sortT {l : Addr} {vs : List Value} {kw : List (Str × Value)} {Q : Value → Shared → Prop} (hl : IsTup s.heap l vs.toArray) (hL : vs.length ≤ sizeLine) (ha1 : argsOk "sorted" ⟨[.ref l], kw⟩) (ha2 : ∀ x, argsOk "list.sort" ⟨[.ref x], kw⟩)
    (body : ∀ E' : Value → Shared → Prop, wpAny (model prog w) A.in1.in1 (Builtin.«list.sort» ⟨[.ref (s.heap.objs.size + 1)], kw⟩) (fun f s' => f = .done (.ret .none) ∧ Q (.ref (s.heap.objs.size + 1)) s') E' { s with heap := copyHeap s.heap vs }) :
    wpAny (model prog w) A (call (.builtin "sorted") [.ref l] kw) Q E s := by
  refine call_function_entry_kw kind_sorted plain_sorted entry_sorted ha1 ?_
  unfold Builtin.«sorted»
  refine wpAny_bind (m := checkCount "sorted" 1 1 _) (wpAny_pure ?_)
  refine wpAny_bind (collect_tup hl ?_ hL)
  refine wpAny_bind (wpAny_newList ?_ hL)
  have hsz : ((s.heap.push (seqObj "list" #[] 0)).update s.heap.objs.size (Obj.mapSeq (· ++ vs.toArray))).objs.size = s.heap.objs.size + 1 := by
    rw [Heap.size_update, size_push']
  show wpAny _ _ _ _ _ { s with heap := copyHeap s.heap vs }
  rw [hsz]
  refine wpAny_bind (wpAny_holding (wpAny_call_entry_kw slot_list_sort ⟨_, copyHeap_at s.heap vs, rfl⟩ entry_list_sort ?body (ha2 _)))
  case body =>
    show wpAny (model prog w) A.in1.in1 (Builtin.«list.sort» ⟨[.ref (s.heap.objs.size + 1)], kw⟩) _ _ _
    refine wpAny_mono (body _) (fun f s' hf => ?_) fun _ _ e => e
    obtain ⟨rfl, hq⟩ := hf
    exact ⟨_, rfl, wpAny_pure ⟨_, rfl, hq⟩⟩
theorem sorted_dataT {β : Type} {vs : List Value} {bs : List β} {enc : β → PyData} {R : Value → β → Prop} {l : Addr} {Q : Value → Shared → Prop} (hl : IsTup s.heap l vs.toArray) (e : EachIs R vs bs) (er : EachIs (fun v b => ∃ as, Reads s.heap v (enc b) as) vs bs) (hal : AllAlike (bs.map enc)) (hk : Sortable (bs.map enc)) (hL : bs.length ≤ sizeLine)
    (hu : ∀ b, b ∈ bs → A.units + 2 + (enc b).depth < cLine) (h : ∀ out, out.length = bs.length → EachIs R out (bs.mergeSort (dataLe false enc)) → Q (.ref (s.heap.objs.size + 1)) { s with heap := sortedAll s.heap vs (List.toArray out) }) :
    wpAny (model prog w) A (call (.builtin "sorted") [.ref l]) Q E s := by
  have er' : EachIs (fun v b => ∃ as, Reads (sortingHeap (copyHeap s.heap vs) (s.heap.objs.size + 1) vs) v (enc b) as) vs bs := er.mono fun _ _ ⟨as, r⟩ => ⟨as, PyProof.Rows.Reads.keeps (fun _ _ => sorting_copy_old) r⟩
  have hL2 : vs.length ≤ sizeLine := by rw [e.length]; exact hL
  exact sorted_of_sortT hl hL2 (args_sorted1 _) (fun _ => args_list_sort _) fun _ => list_sort_vals (s := { s with heap := copyHeap s.heap vs }) (copyHeap_at s.heap vs) (SortsAt.data (s := { s with heap := sortingHeap (copyHeap s.heap vs) (s.heap.objs.size + 1) vs }) (each_map (R := fun v d => ∃ as, Reads (sortingHeap (copyHeap s.heap vs) (s.heap.objs.size + 1) vs) v d as) enc er') hal hk (bound_map hu)) hL2
    ⟨rfl, h _ (by rw [sortVals_length false rfl]; exact e.length) (sortVals_data false e er' hal)⟩
end
section
variable {X : Cx}
/-- sorted(l) -/
def rSortD (K : PySem.W.Frag) : List V → Hp → VK → Prop := fun xs H Q => ∃ (G : Hp) (a : Addr) (vs : List V) (ds es : List T), xs = [.ref a] ∧ Fz G H ∧ (Rd H a (.lst vs) ∨ H a = some (.tup vs)) ∧ RpL K G vs ds ∧ sortT ds = some es ∧ ∀ ws : List V, RpL K G ws es → ∀ p, H p = none → Q (.ref p) (upd H p (.lst ws))
theorem cr_sortD (hu : X.A.units + 65 < cLine) : CallR X (.builtin "sorted") (rSortD X.K) := by
  intro pins s σ H xs us Q I r h
  obtain ⟨G, a, vs, ds, es, rfl, f, hl, hr, hs, q⟩ := h
  unfold sortT at hs
  split at hs
  · rename_i ps hp
    split at hs
    · rename_i hso
      cases hs
      obtain ⟨hlen, hok⟩ := hso
      obtain ⟨its, rv, hL, hz⟩ : ∃ its, Vals vs its ∧ (s.heap.IsList a its.toArray ∨ IsTup s.heap a its.toArray) ∧ vs.length ≤ sizeLine := by
        rcases hl with hl | hl
        · obtain ⟨its, rv, hL, hz⟩ := I.list (Or.inl hl)
          exact ⟨its, rv, .inl hL.isList, hz⟩
        · obtain ⟨its, rv, hL, hz⟩ := I.tuple (SqT.of hl)
          exact ⟨its, rv, .inr hL, hz⟩
      rw [Vals.ref1 r]
      have hvd : vs.length = ds.length := hr.length
      have e1 : PySem.W.EachIs (fun u (b : V × T) => RelV b.1 u) its (vs.zip ds) := each_zip (R := fun _ _ => True) hvd rv
      have hsnd : (vs.zip ds).map Prod.snd = ds := List.map_snd_zip (by omega)
      have henc : (vs.zip ds).map (fun b : V × T => b.2.pdg) = ps := by
        rw [pdL_map hp, ← hsnd, List.map_map]
        simp only [hsnd]
        rfl
      have rmem : ∀ b ∈ vs.zip ds, ∀ u, RelV b.1 u → ∃ as, Reads s.heap u b.2.pdg as := fun b hb u ru => by
        have h1 := hr.zip_mem b hb
        obtain ⟨p, _, e⟩ := pdL_mem hp b.2 (by rw [← hsnd]; exact List.mem_map_of_mem hb)
        have h2 := Dp.reads I p b.1 u (Rp.dp f _ _ _ h1 e) ru
        unfold T.pdg
        rw [e]
        exact h2
      have e2 : PySem.W.EachIs (fun u (b : V × T) => ∃ as, Reads s.heap u b.2.pdg as) its (vs.zip ds) := (PySem.W.each_mem e1).mono fun u b ⟨h1, h2⟩ => rmem b h2 u h1
      refine (fun (c1 : _) (c2 : _) (c3 : _) (c4 : _) (c5 : _) => hL.elim (fun hL => PySem.W.sorted_data (enc := fun b : V × T => b.2.pdg) hL e1 e2 c1 c2 c3 c4 c5) fun hL => sorted_dataT (enc := fun b : V × T => b.2.pdg) hL e1 e2 c1 c2 c3 c4 c5) (by rw [henc]; exact srtOk_al hok) (by rw [henc]; exact srtOk_so hok) (by rw [List.length_zip, ← line_eq]; omega) (fun b hb => ?_) fun out hlo eo => ?_
      · obtain ⟨p, mp, e⟩ := pdL_mem hp b.2 (by rw [← hsnd]; exact List.mem_map_of_mem hb)
        have hd := srtOk_dp hok p mp
        show X.A.units + 2 + (b.2.pdg).depth < cLine
        unfold T.pdg
        rw [e]
        show X.A.units + 2 + p.depth < cLine
        omega
      · have le2 : ∀ a b : V × T, PySem.W.dataLe false (fun b : V × T => b.2.pdg) a b = leT a.2 b.2 := fun _ _ => rfl
        have hperm := List.mergeSort_perm (vs.zip ds) (PySem.W.dataLe false fun b : V × T => b.2.pdg)
        have hsort := List.pairwise_mergeSort (le := PySem.W.dataLe false fun b : V × T => b.2.pdg) (fun a b c h1 h2 => leT_tr a.2 b.2 c.2 h1 h2) (fun a b => by rw [le2, le2, Bool.or_eq_true]; exact leT_tot _ _) (vs.zip ds)
        generalize (vs.zip ds).mergeSort (PySem.W.dataLe false fun b : V × T => b.2.pdg) = bs at eo hperm hsort
        have hes : bs.map Prod.snd = srtT leT ds := by
          refine sort_one hp hok ?_ (srtT_perm leT ds) ?_ (srtT_sorted leT leT_tot leT_tr ds)
          · rw [← hsnd]; exact hperm.map _
          · exact List.pairwise_map.mpr (hsort.imp fun h => h)
        have hrl : RpL X.K G (bs.map Prod.fst) (srtT leT ds) := by
          rw [← hes]
          exact RpL.of_zip fun b hb => hr.zip_mem b (hperm.mem_iff.mp hb)
        have hvo := vals_each eo
        have hlen2 : (bs.map Prod.fst).length ≤ sizeLine := by
          rw [List.length_map, hperm.length_eq, List.length_zip, ← line_eq]; omega
        obtain ⟨ep, he'⟩ := PyProof.Rows.sortedAll_at s.heap its (List.toArray out)
        exact ⟨.ref _, upd H (s.heap.objs.size + 1) (.lst (bs.map Prod.fst)), I.laid (t' := s.toks) (fun _ _ => PyProof.Rows.sortedAll_old) (Nat.le_succ _) ⟨hlen2, out, ep, hvo, he'⟩, rfl, q _ hrl _ (I.hok.fresh (Nat.le_succ _))⟩
    · cases hs
  · cases hs
end
end Qq

set_option maxHeartbeats 1000000
/-! Q2y: t[::-1]. -/
namespace Qq
open PySem PySem.W PySem.Spec PyProof.Rows L2 HT
section
variable {prog : Program} {w : World} {A : Around} {E : Value → Shared → Prop} {s : Shared}
theorem fm_congr {α β : Type} {f g : α → Option β} : ∀ {l : List α}, (∀ x ∈ l, f x = g x) → l.filterMap f = l.filterMap g
  | [], _ => rfl
  | x :: l, h => by
    rw [List.filterMap_cons, List.filterMap_cons, h x List.mem_cons_self, fm_congr fun y hy => h y (List.mem_cons_of_mem _ hy)]
theorem rev_pick (xs : Array Value) : ((List.range xs.size).filterMap fun (m : Nat) => xs[(((xs.size : Int) - 1) + (m : Int) * (-1)).toNat]?).toArray = xs.toList.reverse.toArray := by
  have e : ((List.range xs.size).filterMap fun (m : Nat) => xs[(((xs.size : Int) - 1) + (m : Int) * (-1)).toNat]?) = ((List.range xs.size).map fun k => xs.size - 1 - k).filterMap (xs[·]?) := by
    rw [List.filterMap_map]
    refine fm_congr fun m hm => ?_
    have hm := List.mem_range.mp hm
    have : (((xs.size : Int) - 1) + (m : Int) * (-1)).toNat = xs.size - 1 - m := by omega
    rw [this]; rfl
  rw [e, krv_range]
  rw [List.filterMap_reverse, krv_all]
theorem adj_rev (n : Nat) : Builtin.Slice.sliceAdjust none none (-1) (n : Int) = ((n : Int) - 1, -1) := rfl
theorem plc_rev (n : Nat) : Builtin.Slice.slicePlaces ((n : Int) - 1) (-1) (-1) = n := by
  unfold Builtin.Slice.slicePlaces
  rw [if_neg (by decide)]
  by_cases h : ((n : Int) - 1 > -1)
  · rw [if_pos h]
    have : - (-1 : Int) = 1 := rfl
    rw [this, Int.ediv_one]
    omega
  · rw [if_neg h]; omega
theorem sliceApplied_rev {sl : Addr} {vl vu vs : Value} {n : Nat} {Q : Int × Int × Nat → Shared → Prop} (hs : s.heap.IsSliceOf sl vl vu vs) (pl : IsPart vl none) (pu : IsPart vu none) (ps : IsPart vs (some (-1)))
    (h : Q ((n : Int) - 1, -1, n) s) : wpAny (model prog w) A (Builtin.Slice.sliceApplied (.ref sl) (pure (n : Int))) Q E s := by
  obtain ⟨os, hos, hcs, hds⟩ := id hs
  unfold Builtin.Slice.sliceApplied Builtin.Slice.sliceFields
  refine wpAny_bind (wpAny_bind (wpAny_field hos hds (x := vl) rfl (wpAny_bind (wpAny_field hos hds (x := vu) rfl (wpAny_bind (wpAny_field hos hds (x := vs) rfl (wpAny_pure ?_)))))))
  refine wpAny_bind (slicePart_ ps ?_)
  show wpAny _ _ (if ((-1 : Int) == 0) = true then _ else _) _ _ s
  rw [if_neg (by decide)]
  refine wpAny_bind (slicePart_ pl (wpAny_bind (slicePart_ pu (wpAny_bind (wpAny_pure ?_)))))
  show wpAny _ _ (match Builtin.Slice.sliceAdjust none none (-1) (n : Int) with | (lo, hi) => pure (lo, (-1 : Int), Builtin.Slice.slicePlaces lo hi (-1))) _ _ s
  rw [adj_rev]
  show wpAny _ _ (pure ((n : Int) - 1, (-1 : Int), Builtin.Slice.slicePlaces ((n : Int) - 1) (-1) (-1))) _ _ s
  rw [plc_rev]
  exact wpAny_pure h
theorem getItem_tuple_rev {t sl : Addr} {items : Array Value} {vl vu vs : Value} {Q : Value → Shared → Prop} (ht : IsTup s.heap t items) (hs : s.heap.IsSliceOf sl vl vu vs) (pl : IsPart vl none) (pu : IsPart vu none) (ps : IsPart vs (some (-1)))
    (h : Q (.ref s.heap.objs.size) { s with heap := s.heap.push { cls := .type "tuple", data := .seq items.toList.reverse.toArray } })
    (hsz : items.size ≤ sizeLine) : wpAny (model prog w) A (getItem (.ref t) (.ref sl)) Q E s := by
  have htake : sizeOk (.seq items.toList.reverse.toArray) := by
    show items.toList.reverse.toArray.size ≤ sizeLine
    rw [List.size_toArray, List.length_reverse, Array.length_toList]
    exact hsz
  obtain ⟨os, hos, hcs, hds⟩ := id hs
  have hTs : s.TypeIs (.ref sl) "slice" := ⟨os, hos, hcs⟩
  unfold getItem
  try with_reducible refine wpAny_holding ?_
  first | refine wpAny_bind (wpAny_pure ?_) | skip
  refine wpAny_bind (wpAny_sequenceKey ht.typeIs (by decide) ?_)
  refine wpAny_bind (wpAny_callSpecial?_slot (name := Str.ofString "__getitem__") ht.typeIs PyProof.Rows.slot_tuple_getitem
    (wpAny_call_entry PyProof.Rows.slot_tuple_getitem ht.typeIs entry_tuple_getitem ?_ (args_tuple_getitem _ _)))
  show wpAny _ _ (Builtin.Tuple.tupleItemsOf (.ref t) >>= _) _ _ s
  refine wpAny_bind (tupleItemsOf_ ht ?_)
  refine wpAny_bind (wpAny_typeOf hTs ?_)
  rw [if_pos (by decide)]
  refine wpAny_bind (sliceApplied_rev hs pl pu ps ?_)
  have hno : ¬ ((((items.size : Int) - 1) == 0 && (-1 : Int) == 1 && items.size == items.size) = true) := by
    intro q
    rw [Bool.and_eq_true, Bool.and_eq_true] at q
    exact absurd q.1.2 (by decide)
  show wpAny _ _ (if (((items.size : Int) - 1) == 0 && (-1 : Int) == 1 && items.size == items.size) = true then _ else _) _ _ s
  rw [if_neg hno, rev_pick]
  first
    | exact wpAny_bind (m := Builtin.Tuple.tupleExact _) (wpAny_newObj_type (wpAny_pure ⟨_, rfl, wpAny_pure h⟩) htake)
    | exact wpAny_bind (m := Builtin.Tuple.tupleExact _) (wpAny_newObj_type (wpAny_bind (wpAny_pure (wpAny_pure ⟨_, rfl, wpAny_pure h⟩))) htake)
    | exact wpAny_bind (wpAny_bind (m := Builtin.Tuple.tupleExact _) (wpAny_newObj_type (wpAny_pure (wpAny_pure ⟨_, rfl, wpAny_pure h⟩)) htake))
    | exact wpAny_bind (wpAny_bind (m := Builtin.Tuple.tupleExact _) (wpAny_newObj_type (wpAny_pure ⟨_, rfl, wpAny_pure h⟩) htake))
end
section
variable {X : Cx}
def tRev (K : PySem.W.Frag) (te : TE) : TE := fun σ H Q => te σ H fun x H1 => ∃ a xs, x = .ref a ∧ ((SqL K H1 a xs ∧ ∀ p, H1 p = none → Q (.ref p) (upd H1 p (.lst xs.reverse))) ∨ (SqT K H1 a xs ∧ ∀ p, H1 p = none → Q (.ref p) (upd H1 p (.tup xs.reverse))))
theorem pe_rev {e : Expr} {te : TE} {k : Nat} {p1 p2 p3 pos : Pos} (he : PE X e te) : PE X (.Subscript e (.Slice none none (some (.UnaryOp .USub (.Constant (.int 1) k p1) p2)) p3) pos) (tRev X.K te) := by
  refine ⟨fun pins s σ H Q I h => ?_⟩
  refine Subscript_ (thn (he.run pins s σ H _ I h) fun v s1 ⟨x, H1, I1, r1, q1⟩ => ?_)
  obtain ⟨a, xs, ex, q⟩ := q1
  subst ex
  cases r1
  have hst : PO X (some (.UnaryOp .USub (.Constant (.int 1) k p1) p2)) (tPart (tUn (rU fun i => .int (-i)) (tC (.int 1)))) := po_some (pe_un un_neg pe_int)
  refine wpAny_Slice (thn (po_none.run pins s1 σ H1 (fun o H2 => o = none ∧ H2 = H1) I1 ⟨rfl, rfl⟩) fun vl s2 ⟨l, H2, I2, pl, el, e2⟩ => ?_)
  subst el e2
  refine thn (po_none.run pins s2 σ H2 (fun o H3 => o = none ∧ H3 = H2) I2 ⟨rfl, rfl⟩) fun vu s3 ⟨u, H3, I3, pu, eu, e3⟩ => ?_
  subst eu e3
  refine thn (hst.run pins s3 σ H3 (fun o H4 => o = some (-1) ∧ H4 = H3) I3 ⟨1, rfl, -1, rfl, rfl, rfl⟩) fun vs s4 ⟨o, H4, I4, ps, eo, e4⟩ => ?_
  subst eo e4
  have I5 : Inv X pins σ H4 { s4 with heap := s4.heap.push { cls := .type "slice", data := .fields #[vl, vu, vs] } } := I4.kept (t' := s4.toks) fun b ob q => Heap.get?_push_of_some _ q
  show wpAny (model X.prog X.w) X.A (subscriptTail e (.Slice none none (some (.UnaryOp .USub (.Constant (.int 1) k p1) p2)) p3) (.ref a) (.ref s4.heap.objs.size)) (EP X pins σ Q) X.xe { s4 with heap := s4.heap.push { cls := .type "slice", data := .fields #[vl, vu, vs] } }
  rcases q with ⟨hx, q⟩ | ⟨hx, q⟩
  · obtain ⟨its, r, ht, hz⟩ := I5.list hx
    have hlen := r.length
    refine tail_any (ops := [.ref a, .ref s4.heap.objs.size]) ht.isList.typeIs (PySem.slot_list_getitem.lookup) ?_ (by with_unfolding_all rfl)
    refine wpAny_getItem_list_slice ht.isList (Heap.IsSliceOf.new _ vl vu vs) pl pu ps (by decide) ?_ (by rw [List.size_toArray]; omega)
    rw [PySem.W.krv_pick]
    refine ⟨.ref _, _, I5.laid (t' := s4.toks) (o := .lst xs.reverse) (fun b ob q => Heap.get?_push_of_some _ q) (Nat.le_refl _) ?_, rfl, q _ (I5.hok.fresh (Nat.le_refl _))⟩
    exact ⟨by rw [List.length_reverse]; exact hz, _, 0, r.reverse, Heap.get?_push_size _ rfl⟩
  · obtain ⟨its, r, ht, hz⟩ := I5.tuple hx
    have hlen := r.length
    refine tail_any (ops := [.ref a, .ref s4.heap.objs.size]) ht.typeIs (PyProof.Rows.slot_tuple_getitem.lookup) ?_ (by with_unfolding_all rfl)
    refine getItem_tuple_rev ht (Heap.IsSliceOf.new _ vl vu vs) pl pu ps ?_ (by rw [List.size_toArray]; omega)
    refine ⟨.ref _, _, I5.laid (t' := s4.toks) (o := .tup xs.reverse) (fun b ob q => Heap.get?_push_of_some _ q) (Nat.le_refl _) ?_, rfl, q _ (I5.hok.fresh (Nat.le_refl _))⟩
    exact ⟨by rw [List.length_reverse]; exact hz, _, r.reverse, _, Heap.get?_push_size _ rfl, rfl, 0, rfl⟩
end
end Qq

set_option maxHeartbeats 1000000
/-! Q2z: dict(..) of a list of pairs, the keys tuples. -/
namespace Qq
open PySem PySem.W PySem.Spec PyProof.Rows L2 HT
def mergeQ (xs : List (List Key × Addr × Value)) : List (List Key × Addr × Value) → List (List Key × Addr × Value)
  | [] => xs
  | q :: r => mergeQ (storedH xs q.1 q.2.1 q.2.2) r
theorem storedH_len (xs : List (List Key × Addr × Value)) (k : List Key) (a : Addr) (v : Value) : (storedH xs k a v).length ≤ xs.length + 1 := by
  unfold storedH
  split
  · rw [List.length_map]; omega
  · rw [List.length_append]; exact Nat.le_refl _
theorem storedH_mem {xs : List (List Key × Addr × Value)} {k : List Key} {a : Addr} {v : Value} {x : List Key × Addr × Value} (h : x ∈ storedH xs k a v) : x.2.1 = a ∨ ∃ y ∈ xs, x.2.1 = y.2.1 := by
  unfold storedH at h
  split at h
  · obtain ⟨y, hy, rfl⟩ := List.mem_map.mp h
    refine .inr ⟨y, hy, ?_⟩
    unfold putAt
    split <;> rfl
  · rcases List.mem_append.mp h with h | h
    · exact .inr ⟨x, h, rfl⟩
    · rw [List.mem_singleton.mp h]; exact .inl rfl
section
variable {prog : Program} {w : World} {A : Around} {E : Value → Shared → Prop}
abbrev tkd (prog : Program) (w : World) : HeapKind prog w (List Key) := tupleKind (mixKind prog w)
theorem tk_keep {h h' : Heap} {ks : List Key} {a I : Addr} (k : (tkd prog w).is h ks a) (he : ∀ b o, b ≠ I → h.get? b = some o → h'.get? b = some o) (ha : a ≠ I) : (tkd prog w).is h' ks a :=
  let ⟨o, its, n, h1, h2⟩ := k; ⟨o, its, n, he a o ha h1, h2⟩
theorem dh_keep {h h' : Heap} {d I : Addr} {xs : List (List Key × Addr × Value)} (m : h.DictOfH (tkd prog w) d xs) (he : ∀ b o, b ≠ I → h.get? b = some o → h'.get? b = some o) (hd : d ≠ I) (hx : ∀ x ∈ xs, x.2.1 ≠ I) : h'.DictOfH (tkd prog w) d xs :=
  let ⟨o, es, ep, ho, h1, h2, h3, h4, h5⟩ := m; ⟨o, es, ep, he d o hd ho, h1, h2, h3, fun x q => tk_keep (h4 x q) he (hx x q), h5⟩
/-- the walk over the pairs -/
theorem upd_loopH {R : Result → Shared → Prop} {S I l : Addr} {items : Array Value} {res : Value} (hu : A.in1.units < cLine) (hh : A.handled = none) (hlI : l ≠ I) (hSI : S ≠ I) (hSl : S ≠ l) :
    ∀ (rest : List (List Key × Addr × Value)) (i : Nat) (acc : List (List Key × Addr × Value)) (ix : Int) (t : Tok) (s : Shared), items.size = i + rest.length → acc.length + rest.length ≤ sizeLine →
      (∀ (j : Nat) (q : List Key × Addr × Value), rest[j]? = some q → ∃ b : Addr, items[i + j]? = some (.ref b) ∧ b ≠ S ∧ b ≠ I ∧ IsTup s.heap b #[.ref q.2.1, q.2.2] ∧ (tkd prog w).is s.heap q.1 q.2.1 ∧ q.2.1 ≠ S ∧ q.2.1 ≠ I) →
      (∀ x ∈ acc, x.2.1 ≠ I) →
      s.heap.IsListIter I l i → s.heap.IsList l items → s.heap.DictOfH (tkd prog w) S acc →
      (∀ h' tk, h'.DictOfH (tkd prog w) S (mergeQ acc rest) → (∀ b o, b ≠ S → b ≠ I → s.heap.get? b = some o → h'.get? b = some o) → R (.ok (.ret res)) { s with heap := h', toks := tk }) →
      codeAny (model prog w) A (.builtin "dict.update.loop" ⟨[.ref S, .ref I, .int ix t, res], []⟩) R s
  | [], i, acc, ix, t, s, hsz, hln, ht, hac, hit, hl, hm, hR => by
    refine codeAny_builtin ud_entry ?_
    rw [Around.under_plainId ud_plain _]
    show wpAny _ A.in1 (pyNext (.ref I) >>= _) _ _ s
    refine wpAny_bind (wpAny_pyNext_list_end (A := A.in1) hh hit hl (by first | exact Array.getElem?_eq_none (Nat.le_of_eq hsz) | (simp at hsz; simp; omega)) fun h' he => ?_)
    show wpAny _ A.in1 (Builtin.Dict.addKeywords S [] >>= _) _ _ _
    refine wpAny_bind (wpAny_pure (wpAny_pure ?_))
    exact hR h' s.toks (dh_keep hm (fun b o h1 h2 => he b o h1 h2) hSI hac) fun b o _ hb e => he b o hb e
  | q :: rest, i, acc, ix, t, s, hsz, hln, ht, hac, hit, hl, hm, hR => by
    obtain ⟨b, hb, hbS, hbI, htup, hk, hkS, hkI⟩ := ht 0 q rfl
    rw [List.length_cons] at hsz hln
    refine codeAny_builtin ud_entry ?_
    rw [Around.under_plainId ud_plain _]
    show wpAny _ A.in1 (pyNext (.ref I) >>= _) _ _ s
    refine wpAny_bind (wpAny_pyNext_list_item (x := .ref b) hit hl (by simpa using hb) fun h1 hit1 hs1 => ?_)
    have ht1 : IsTup h1 b #[.ref q.2.1, q.2.2] := htup.extBut hs1.extBut hbI
    have hl1 : h1.IsList l items := hl.extBut hs1.extBut hlI
    have he1 : ∀ b o, b ≠ I → s.heap.get? b = some o → h1.get? b = some o := fun b o h2 h3 => hs1.extBut b o h2 h3
    have hm1 : h1.DictOfH (tkd prog w) S acc := dh_keep hm he1 hSI hac
    have hk1 : (tkd prog w).is h1 q.1 q.2.1 := tk_keep hk he1 hkI
    obtain ⟨o, ho, hc, n, hd⟩ := id ht1
    show wpAny _ A.in1 (holding [Value.ref b] _ >>= _) _ _ _
    refine wpAny_bind (wpAny_holding ?_)
    refine wpAny_bind (wpAny_tryCatch ?_)
    unfold Builtin.Dict.pairItems
    refine wpAny_bind (wpAny_typeOf (T := "tuple") ⟨o, ho, hc⟩ ?_)
    rw [if_pos (by first | decide | rfl | simp)]
    refine wpAny_bind (wpAny_seqItems ho hd (wpAny_pure ?_))
    show wpAny _ A.in1 (holding [Value.ref q.2.1, q.2.2] (dictSet S (.ref q.2.1) q.2.2)) _ _ _
    refine wpAny_holding (wpAny_dictSet_heap (knd := tkd prog w) (k := q.1) (show (tkd prog w).room A.in1 from hu) hk1 hm1 (fun h2 hm2 hs2 => ?_) (by omega))
    refine wpAny_pure ⟨plainId_quiet ud_plain _, upd_loopH (items := items) hu hh hlI hSI hSl rest (i + 1) (storedH acc q.1 q.2.1 q.2.2) (ix + 1) 0 _ (show items.size = i + 1 + rest.length by omega) ?_ (fun j q' e => ?_) (fun x hx => ?_) ?_ ?_ hm2 fun h' tk hd' k => ?_⟩
    · have z := storedH_len acc q.1 q.2.1 q.2.2
      omega
    · obtain ⟨b', hb', hbS', hbI', htup', hk', hkS', hkI'⟩ := ht (j + 1) q' (by simpa using e)
      refine ⟨b', ?_, hbS', hbI', (htup'.extBut hs1.extBut hbI').extBut hs2.extBut hbS', tk_keep (tk_keep hk' he1 hkI') (fun b o h3 h4 => hs2.extBut b o h3 h4) hkS', hkS', hkI'⟩
      rw [show i + 1 + j = i + (j + 1) by omega]
      exact hb'
    · rcases storedH_mem hx with h | ⟨y, hy, h⟩
      · rw [h]; exact hkI
      · rw [h]; exact hac y hy
    · exact hit1.at fun o' e => hs2.extBut I o' (Ne.symm hSI) e
    · exact hl1.extBut hs2.extBut (Ne.symm hSl)
    · exact hR h' tk hd' fun c oc h3 h4 e => k c oc h3 h4 (hs2.extBut c oc h3 (hs1.extBut c oc h4 e))

/-- dict(l) of a list of pairs -/
theorem call_dict_pairsH {s : Shared} {l : Addr} {ol : Obj} {items : Array Value} {n : Nat} {prs : List (List Key × Addr × Value)} {Q : Value → Shared → Prop} (hu : A.units + 4 < cLine) (hh : A.handled = none) (hl : s.heap.get? l = some ol) (hc : ol.cls = .type "list") (hd : ol.dict = none)
    (hdat : ol.data = .seq items n) (hsz : items.size = prs.length) (hln : prs.length ≤ sizeLine)
    (ht : ∀ (j : Nat) (q : List Key × Addr × Value), prs[j]? = some q → ∃ b : Addr, items[j]? = some (.ref b) ∧ IsTup s.heap b #[.ref q.2.1, q.2.2] ∧ (tkd prog w).is s.heap q.1 q.2.1)
    (h : ∀ h' tk, h'.DictOfH (tkd prog w) s.heap.objs.size (mergeQ [] prs) → (∀ b o, s.heap.get? b = some o → h'.get? b = some o) → Q (.ref s.heap.objs.size) { s with heap := h', toks := tk }) :
    wpAny (model prog w) A (call (.type "dict") [.ref l]) Q E s := by
  refine callType_codes (Q₁ := fun obj s₁ => obj = .ref s.heap.objs.size ∧ s₁ = { s with heap := s.heap.push { cls := .type "dict", data := .dict #[] } }) PySem.F.kt_called_dict (PySem.F.kt_typeCall_dict_1 _) PySem.F.entry_dict_init (kt_code_dict_new _ ⟨rfl, rfl⟩) ?_
  rintro obj s₁ ⟨rfl, rfl⟩
  have hnew : (s.heap.push { cls := .type "dict", data := .dict #[] }).DictOfH (tkd prog w) s.heap.objs.size [] := Heap.DictOfH.new s.heap
  have k0 : ∀ b o, s.heap.get? b = some o → (s.heap.push { cls := .type "dict", data := .dict #[] }).get? b = some o := fun b o e => Heap.get?_push_of_some _ e
  refine ⟨hnew.typeIs (s := { s with heap := s.heap.push { cls := .type "dict", data := .dict #[] } }), PySem.F.args_dict_init_2 _ _, ?_⟩
  unfold Builtin.«dict.__init__»
  refine wpAny_bind ?_
  unfold Builtin.Dict.selfAndRest
  refine wpAny_bind (wpAny_notOrdered_dict (hnew.typeIs (s := { s with heap := s.heap.push { cls := .type "dict", data := .dict #[] } })) ?_)
  show wpAny _ _ (pure (s.heap.objs.size, [Value.ref l])) _ _ _
  refine wpAny_pure ?_
  show wpAny _ _ (Builtin.Dict.updateFrom "dict.__init__" s.heap.objs.size (.ref l) [] .none) _ _ _
  unfold Builtin.Dict.updateFrom
  refine wpAny_bind (wpAny_typeOf (T := "list") ⟨ol, k0 _ _ hl, hc⟩ ?_)
  rw [if_pos (by first | decide | rfl | simp)]
  refine wpAny_bind (miss_list (k0 _ _ hl) hc hdat hd hh fun h1 tk1 hk1 => ?_)
  rw [if_pos (show (none : Option Value).isNone = true from rfl)]
  refine wpAny_bind (wpAny_rule ?_)
  have hl1 : h1.IsList l items := ⟨ol, hk1 _ _ (k0 _ _ hl), hc, n, hdat⟩
  have hS1 : s.heap.objs.size < h1.objs.size := by
    have e : (s.heap.push { cls := .type "dict", data := .dict #[] }).get? s.heap.objs.size = some { cls := .type "dict", data := .dict #[] } := Heap.get?_push_size _ rfl
    exact Heap.lt_size (hk1 _ _ e)
  refine wpAny_bind (wpAny_pyIter_list hl1 ?_)
  have k2 : ∀ b o, h1.get? b = some o → (h1.push { cls := .type "list_iterator", data := .fields #[.ref l, .int 0 0] }).get? b = some o := fun b o e => Heap.get?_push_of_some _ e
  have hlt : l < s.heap.objs.size := Heap.lt_size hl
  have ka : ∀ b o, s.heap.get? b = some o → (h1.push { cls := .type "list_iterator", data := .fields #[.ref l, .int 0 0] }).get? b = some o := fun b o e => k2 _ _ (hk1 _ _ (k0 _ _ e))
  have key := upd_loopH (prog := prog) (w := w) (A := A.in1) (R := wants (fun r s₂ => r = .none ∧ Q (.ref s.heap.objs.size) s₂) E) (S := s.heap.objs.size) (I := h1.objs.size) (l := l) (items := items) (res := Value.none) (by show A.in1.in1.units < cLine; show A.units + 1 + 1 < cLine; omega) hh
    (Nat.ne_of_lt (Nat.lt_trans hlt hS1)) (Nat.ne_of_lt hS1) (Nat.ne_of_gt hlt) prs 0 [] 0 0
    { s with heap := h1.push { cls := .type "list_iterator", data := .fields #[.ref l, .int 0 0] }, toks := tk1 } (by rw [hsz, Nat.zero_add]) (by rw [List.length_nil, Nat.zero_add]; exact hln)
    (fun j q e => by
      obtain ⟨b, e1, e2, e3⟩ := ht j q e
      have hb : b < s.heap.objs.size := e2.lt
      have hq : q.2.1 < s.heap.objs.size := let ⟨o, _, _, h3, _⟩ := e3; Heap.lt_size h3
      exact ⟨b, by rw [Nat.zero_add]; exact e1, Nat.ne_of_lt hb, Nat.ne_of_lt (Nat.lt_trans hb hS1), e2.keeps fun c o z => ka _ _ z, (let ⟨o, its, n, h3, h4⟩ := e3; ⟨o, its, n, ka _ _ h3, h4⟩), Nat.ne_of_lt hq, Nat.ne_of_lt (Nat.lt_trans hq hS1)⟩)
    (fun x hx => nomatch hx)
    ⟨_, Heap.get?_push_size _ rfl, rfl, rfl⟩ (hl1.at fun o e => k2 _ _ e) (let ⟨o, es, ep, ho, r1, r2, r3, r4, r5⟩ := hnew; ⟨o, es, ep, k2 _ _ (hk1 _ _ ho), r1, r2, r3, (fun x hx => nomatch hx), r5⟩)
    (fun h' tk hd' k => ⟨rfl, h h' tk hd' fun b o e => k b o (Nat.ne_of_lt (Heap.lt_size e)) (Nat.ne_of_lt (Nat.lt_trans (Heap.lt_size e) hS1)) (k2 _ _ (hk1 _ _ (k0 _ _ e)))⟩)
  first
    | exact wpAny_pure ⟨plainId_quiet ud_plain _, key⟩
    | exact wpAny_bind (wpAny_pure (wpAny_pure ⟨plainId_quiet ud_plain _, key⟩))
end
end Qq
namespace Qq
open PySem PySem.W PySem.Spec PyProof.Rows L2 HT
def mrgV (acc : List (List Key × V)) : List (List Key × V) → List (List Key × V)
  | [] => acc
  | kv :: r => mrgV (putK acc kv.1 kv.2) r
theorem mrgV_len : ∀ (r acc : List (List Key × V)), (mrgV acc r).length ≤ acc.length + r.length
  | [], acc => Nat.le_refl _
  | kv :: r, acc => by
    have h := mrgV_len r (putK acc kv.1 kv.2)
    have h2 := length_putK acc kv.1 kv.2
    unfold mrgV
    rw [List.length_cons]
    omega
theorem KT.merge {H : Hp} : ∀ {kvs : List (List Key × V)} {prs : List (List Key × Addr × Value)} {acc : List (List Key × V)} {xs : List (List Key × Addr × Value)}, KT H kvs prs → KT H acc xs → KT H (mrgV acc kvs) (mergeQ xs prs)
  | _, _, _, _, .nil, r => r
  | _, _, _, _, .cons (a := kv) (b := q) h t, r => by
    obtain ⟨h1, h2, h3⟩ := h
    have := KT.put r kv.1 h2 h3
    rw [h1] at this
    unfold mrgV mergeQ
    rw [h1]
    exact KT.merge t this
section
variable {X : Cx}
theorem pairsH_of {pins : List (Addr × Obj)} {σ : L2.St} {H : Hp} {s : Shared} (I : L2.Inv X pins σ H s) : ∀ {ps : List Addr} {kvs : List (List Key × V)}, Paired (fun p kv => ∃ b, SqT X.K H p [V.ref b, kv.2] ∧ H b = some (.tup (kv.1.map kV))) ps kvs →
    ∃ prs : List (List Key × Addr × Value), KT H kvs prs ∧ prs.length = ps.length ∧ ∀ (j : Nat) (q : List Key × Addr × Value), prs[j]? = some q → ∃ b : Addr, ps[j]? = some b ∧ IsTup s.heap b #[.ref q.2.1, q.2.2] ∧ (tkd X.prog X.w).is s.heap q.1 q.2.1
  | _, _, .nil => ⟨[], .nil, rfl, fun j q e => by simp at e⟩
  | _, _, .cons (a := p) (b := kv) h t => by
    obtain ⟨prs, r, hl, hp⟩ := pairsH_of I t
    obtain ⟨b, h, hb⟩ := h
    obtain ⟨its, rv, ht, _⟩ := I.tuple h
    obtain ⟨u, y, ei, ru, ry⟩ := vals2 rv
    subst ei
    cases ru
    refine ⟨(kv.1, b, y) :: prs, .cons ⟨rfl, hb, ry⟩ r, by rw [List.length_cons, List.length_cons, hl], fun j q e => ?_⟩
    cases j with
    | zero =>
      have e' : (kv.1, b, y) = q := Option.some.inj e
      subst e'
      exact ⟨p, rfl, ht, key_of I.hok hb⟩
    | succ j =>
      obtain ⟨b', e1, e2, e3⟩ := hp j q (by simpa using e)
      exact ⟨b', by simpa using e1, e2, e3⟩
/-- dict(xs) of a list of pairs, the keys tuples -/
theorem call_dictQ (hu : X.A.units + 65 < cLine) (hcalm : X.calm = true) : CallR X (.type "dict") (fun xs H Q => ∃ (a : Addr) (ps : List Addr) (kvs : List (List Key × V)), xs = [.ref a] ∧ SqL X.K H a (ps.map V.ref) ∧ Paired (fun p kv => ∃ b, SqT X.K H p [V.ref b, kv.2] ∧ H b = some (.tup (kv.1.map kV))) ps kvs ∧
    ∀ p, H p = none → Q (.ref p) (upd H p (.dT (mrgV [] kvs)))) := by
  intro pins s σ H xs us Q I r q
  obtain ⟨a, ps, kvs, ex, hq, hp, q⟩ := q
  subst ex
  obtain ⟨u, eu, rx⟩ := vals1 r
  subst eu
  cases rx
  obtain ⟨its, rv, pl, hz⟩ := I.list hq
  have ei := refs_at rv
  subst ei
  rw [List.length_map] at hz
  obtain ⟨prs, rel, hl, hpr⟩ := pairsH_of I hp
  obtain ⟨o, n, ho, hc, hd, hdat⟩ := pl
  refine call_dict_pairsH (prs := prs) (by omega) (I.ok.hd hcalm) ho hc hd hdat (by simp [hl]) (by rw [hl]; exact hz) (fun j q' e => ?_) fun h' tk hd' k => ?_
  · obtain ⟨b, e1, e2, e3⟩ := hpr j q' e
    exact ⟨b, by simp [e1], e2, e3⟩
  · have hm : (s.heap.objs.size == sysModules) = false := beq_eq_false_iff_ne.mpr (Nat.ne_of_gt I.big)
    have hlen : (mrgV [] kvs).length ≤ sizeLine := by
      refine Nat.le_trans (mrgV_len kvs []) ?_
      rw [List.length_nil, Nat.zero_add, Paired.length rel, hl]
      exact hz
    obtain ⟨ob, es, ep, hq1, h2, h3, h4, _, h5⟩ := hd'
    have hn : H s.heap.objs.size = none := I.hok.fresh (Nat.le_refl _)
    refine ⟨.ref s.heap.objs.size, upd H s.heap.objs.size (.dT (mrgV [] kvs)), I.laid (t' := tk) k (Nat.le_refl _) (show ObjOk X.prog X.w _ _ _ (.dT (mrgV [] kvs)) from ⟨hlen, hm, _, (KT.merge rel .nil).keeps fun c ys ec => ?_, ob, es, ep, hq1, h2, h3, h4, h5⟩), rfl, q _ hn⟩
    rw [upd_ne (fun z => by rw [z, hn] at ec; cases ec)]
    exact ec
end
end Qq

set_option maxHeartbeats 4000000
/-! Q3: built-in functions and methods. -/
namespace Qq
open PySem PySem.Spec PyProof.Rows L2

def boolsT : List T → Option (List Bool)
  | [] => some []
  | .bl b :: r => (boolsT r).map fun bs => b :: bs
  | _ :: _ => none
def intsT : List T → Option (List Int)
  | [] => some []
  | .int i :: r => (intsT r).map fun bs => i :: bs
  | _ :: _ => none
def strsT : List T → Option (List Str)
  | [] => some []
  | .str i :: r => (strsT r).map fun bs => i :: bs
  | _ :: _ => none
theorem boolsT_inv : ∀ {ds : List T} {bs : List Bool}, boolsT ds = some bs → ds = bs.map T.bl
  | [], _, h => by cases h; rfl
  | d :: r, bs, h => by
    cases d <;> first | cases h | skip
    unfold boolsT at h
    obtain ⟨b', h1, rfl⟩ := Option.map_eq_some_iff.mp h
    rw [boolsT_inv h1]; rfl
theorem intsT_inv : ∀ {ds : List T} {bs : List Int}, intsT ds = some bs → ds = bs.map T.int
  | [], _, h => by cases h; rfl
  | d :: r, bs, h => by
    cases d <;> first | cases h | skip
    unfold intsT at h
    obtain ⟨b', h1, rfl⟩ := Option.map_eq_some_iff.mp h
    rw [intsT_inv h1]; rfl
theorem strsT_inv : ∀ {ds : List T} {bs : List Str}, strsT ds = some bs → ds = bs.map T.str
  | [], _, h => by cases h; rfl
  | d :: r, bs, h => by
    cases d <;> first | cases h | skip
    unfold strsT at h
    obtain ⟨b', h1, rfl⟩ := Option.map_eq_some_iff.mp h
    rw [strsT_inv h1]; rfl
theorem boolsT_map : ∀ bs : List Bool, boolsT (bs.map T.bl) = some bs
  | [] => rfl
  | b :: r => by show (boolsT (r.map T.bl)).map _ = _; rw [boolsT_map r]; rfl
theorem intsT_map : ∀ bs : List Int, intsT (bs.map T.int) = some bs
  | [] => rfl
  | b :: r => by show (intsT (r.map T.int)).map _ = _; rw [intsT_map r]; rfl
theorem strsT_map : ∀ bs : List Str, strsT (bs.map T.str) = some bs
  | [] => rfl
  | b :: r => by show (strsT (r.map T.str)).map _ = _; rw [strsT_map r]; rfl

def leI (i j : Int) : Bool := decide (i ≤ j)
def leS (x y : Str) : Bool := decide (x.cps.toList ≤ y.cps.toList)
def srtI (ns : List Int) : List Int := srtT leI ns
def srtS (ns : List Str) : List Str := srtT leS ns
theorem srtI_one {ns ns' : List Int} (hp : ns'.Perm ns) (hs : ns'.Pairwise (· ≤ ·)) : ns' = srtI ns := by
  have h2 : (srtI ns).Pairwise (· ≤ ·) := (srtT_sorted leI (fun x y => by simp only [leI, decide_eq_true_eq]; omega) (fun x y z => by simp only [leI, decide_eq_true_eq]; omega) ns).imp fun h => by simpa [leI] using h
  exact List.Perm.eq_of_pairwise (fun x y _ _ h1 h2 => Int.le_antisymm h1 h2) hs h2 (hp.trans (srtT_perm leI ns).symm)
theorem str_ext {x y : Str} (h : x.cps.toList = y.cps.toList) : x = y := by
  cases x; cases y
  congr
  exact Array.toList_inj.mp h
theorem leS_tot (x y : Str) : leS x y = true ∨ leS y x = true := by
  simp only [leS, decide_eq_true_eq]
  exact List.le_total _ _
theorem leS_tr (x y z : Str) (h1 : leS x y = true) (h2 : leS y z = true) : leS x z = true := by
  simp only [leS, decide_eq_true_eq] at h1 h2 ⊢
  exact List.le_trans h1 h2
theorem srtS_one {ns ns' : List Str} (hp : ns'.Perm ns) (hs : ns'.Pairwise (fun a b => leS a b = true)) : ns' = srtS ns := by
  have h2 := srtT_sorted leS leS_tot leS_tr ns
  exact List.Perm.eq_of_pairwise (fun x y _ _ h1 h2 => str_ext (by simp only [leS, decide_eq_true_eq] at h1 h2; exact List.le_antisymm h1 h2)) hs h2 (hp.trans (srtT_perm leS ns).symm)
theorem risingS_pw : ∀ (r : List Str) (p : Str), risingS p r = true → (p :: r).Pairwise (fun a b => leS a b = true)
  | [], p, _ => List.pairwise_cons.mpr ⟨fun _ h => (nomatch h), .nil⟩
  | x :: r, p, h => by
    unfold risingS at h
    rw [Bool.and_eq_true, ltCps_eq] at h
    have h1 : leS p x = true := by
      have h2 : ¬ x.cps.toList < p.cps.toList := by simpa using h.1
      simp only [leS, decide_eq_true_eq]
      exact List.not_lt.mp h2
    have ih := risingS_pw r x h.2
    refine List.pairwise_cons.mpr ⟨fun z hz => ?_, ih⟩
    rcases List.mem_cons.mp hz with rfl | hz
    · exact h1
    · exact leS_tr _ _ _ h1 ((List.pairwise_cons.mp ih).1 z hz)
theorem sortedS_pw : ∀ (l : List Str), sortedS l = true → l.Pairwise (fun a b => leS a b = true)
  | [], _ => .nil
  | x :: r, h => risingS_pw r x h

def charsT (z : Str) : List T := z.cps.toList.map fun c => .str ⟨#[c]⟩
/-! ### built-in functions -/
inductive BI where
  | len | abs | int | str | min2 | max2 | all | any | sum | list | tuple | sorted | minL | maxL | dict
  deriving DecidableEq
/-- pairs of a tuple and a value -/
def pairsQ : List T → Option (List (List Key × T))
  | [] => some []
  | .tup [.tup ks, v] :: r => match keysT ks, pairsQ r with
    | some k, some s => some ((k, v) :: s)
    | _, _ => none
  | _ => none
def mrgQ (acc : List (List Key × T)) : List (List Key × T) → List (List Key × T)
  | [] => acc
  | kv :: r => mrgQ (putT acc kv.1 kv.2) r
def biT : BI → List T → Option T
  | .len, [d] => (lenT d).map fun (n : Nat) => .int (n : Int)
  | .abs, [.int i] => some (.int (if i < 0 then -i else i))
  | .int, [.int i] => some (.int i)
  | .int, [.bl k] => some (.int (if k then 1 else 0))
  | .str, [.int i] => if i.natAbs.log2 < 1920 then some (.str (toString i : Str)) else none
  | .min2, [.int i, .int j] => some (.int (if j < i then j else i))
  | .max2, [.int i, .int j] => some (.int (if j > i then j else i))
  | .all, [.lst ds] => (boolsT ds).map fun bs => .bl (bs.all id)
  | .any, [.lst ds] => (boolsT ds).map fun bs => .bl (bs.any id)
  | .sum, [.lst ds] => (intsT ds).map fun ns => .int ns.sum
  | .list, [.lst ds] => some (.lst ds)
  | .list, [.tup ds] => some (.lst ds)
  | .list, [.scr ns] => some (.lst (ns.map T.int))
  | .tuple, [.lst ds] => some (.tup ds)
  | .tuple, [.tup ds] => some (.tup ds)
  | .tuple, [.str z] => if z.length ≤ line then some (.tup (charsT z)) else none
  | .sorted, [.lst ds] => (sortT ds).map T.lst
  | .sorted, [.tup ds] => (sortT ds).map T.lst
  | .dict, [.lst ds] => (pairsQ ds).map fun kvs => .dT (mrgQ [] kvs)
  | .minL, [.lst ds] => match intsT ds with
    | some (n :: ns) => some (.int (ns.foldl min n))
    | _ => none
  | .maxL, [.lst ds] => match intsT ds with
    | some (n :: ns) => some (.int (ns.foldl max n))
    | _ => none
  | _, _ => none
/-- the name, and what it stands for -/
def BI.nm : BI → Str
  | .len => "len" | .abs => "abs" | .int => "int" | .str => "str" | .min2 => "min" | .max2 => "max" | .all => "all" | .any => "any" | .sum => "sum" | .list => "list" | .tuple => "tuple" | .sorted => "sorted" | .minL => "min" | .maxL => "max" | .dict => "dict"
def BI.vl : BI → Value
  | .len => .builtin "len" | .abs => .builtin "abs" | .int => .type "int" | .str => .type "str" | .min2 => .builtin "min" | .max2 => .builtin "max" | .all => .builtin "all" | .any => .builtin "any" | .sum => .builtin "sum" | .list => .type "list" | .tuple => .type "tuple"
  | .dict => .type "dict" | .sorted => .builtin "sorted" | .minL => .builtin "min" | .maxL => .builtin "max"
theorem BI.boot (b : BI) : bootBuiltins b.nm = some b.vl := by cases b <;> decide +kernel

section
variable {X : Cx}
theorem CallR.pick {f : Value} {r : List V → Hp → VK → Prop} (h : ∀ xs H Q, r xs H Q → ∃ r', CallR X f r' ∧ r' xs H Q) : CallR X f r :=
  fun pins s σ H xs us Q I rx z => let ⟨_, h1, h2⟩ := h xs H Q z; h1 pins s σ H xs us Q I rx h2
theorem VwL.one {K : PySem.W.Frag} {G H : Hp} {xs : List V} {d : T} (h : VwL K G H xs [d]) : ∃ x, xs = [x] ∧ Vw K G H x d := by
  cases h with | cons h t => cases t; exact ⟨_, rfl, h⟩
theorem VwL.two {K : PySem.W.Frag} {G H : Hp} {xs : List V} {d e : T} (h : VwL K G H xs [d, e]) : ∃ x y, xs = [x, y] ∧ Vw K G H x d ∧ Vw K G H y e := by
  cases h with | cons h t => cases t with | cons h' t => cases t; exact ⟨_, _, rfl, h, h'⟩
theorem call_len_d : CallR X (.builtin "len") (fun xs H Q => ∃ a kvs, xs = [.ref a] ∧ Rd H a (.dK kvs) ∧ Q (.int kvs.length) H) := by
  intro pins s σ H xs us Q I r h
  obtain ⟨a, kvs, rfl, h1, q⟩ := h
  obtain ⟨u, rfl, ru⟩ := vals1 r
  cases ru
  exact d_len I h1 fun t s' I' => ⟨.int kvs.length, H, I', ⟨t, rfl⟩, q⟩
theorem len_T {G H : Hp} {x : V} {d : T} {n : Nat} (f : Fz G H) (hx : Vw X.K G H x d) (h : lenT d = some n) : LenV X.K x H n ∨ ∃ a kvs, x = .ref a ∧ Rd H a (.dK kvs) ∧ n = kvs.length := by
  unfold lenT at h
  split at h
  · cases h; obtain ⟨a, xs, rfl, h1, h2⟩ := hx.lst_inv f
    exact .inl (.inl ⟨xs, .inl h1, h2.length.symm⟩)
  · cases h; obtain ⟨a, rfl, h1⟩ := hx.scr_inv f
    exact .inl (.inl ⟨_, h1, by rw [List.length_map]⟩)
  · cases h; obtain ⟨a, xs, rfl, h1, h2⟩ := hx.tup_inv f
    exact .inl (.inr ⟨xs, SqT.of h1, h2.length.symm⟩)
  · split at h
    · rename_i hl
      cases h; cases hx.str_inv
      exact .inl ⟨by rw [← line_eq]; exact hl, rfl⟩
    · cases h
  · cases h; obtain ⟨a, xs, rfl, h1, h2⟩ := hx.dK_inv f
    exact .inr ⟨a, xs, rfl, h1, h2.length.symm⟩
  · cases h
theorem foldl_min_le : ∀ (ns : List Int) (n : Int), ns.foldl min n ≤ n ∧ (∀ y ∈ ns, ns.foldl min n ≤ y) ∧ (ns.foldl min n = n ∨ ns.foldl min n ∈ ns)
  | [], n => ⟨Int.le_refl _, fun _ h => (nomatch h), .inl rfl⟩
  | a :: r, n => by
    obtain ⟨h1, h2, h3⟩ := foldl_min_le r (min n a)
    rw [List.foldl_cons]
    refine ⟨by omega, fun y hy => ?_, ?_⟩
    · rcases List.mem_cons.mp hy with rfl | hy
      · omega
      · exact h2 y hy
    · rcases h3 with h3 | h3
      · rw [h3]
        by_cases h : n ≤ a
        · exact .inl (by omega)
        · exact .inr (List.mem_cons.mpr (.inl (by omega)))
      · exact .inr (List.mem_cons.mpr (.inr h3))
theorem foldl_max_le : ∀ (ns : List Int) (n : Int), n ≤ ns.foldl max n ∧ (∀ y ∈ ns, y ≤ ns.foldl max n) ∧ (ns.foldl max n = n ∨ ns.foldl max n ∈ ns)
  | [], n => ⟨Int.le_refl _, fun _ h => (nomatch h), .inl rfl⟩
  | a :: r, n => by
    obtain ⟨h1, h2, h3⟩ := foldl_max_le r (max n a)
    rw [List.foldl_cons]
    refine ⟨by omega, fun y hy => ?_, ?_⟩
    · rcases List.mem_cons.mp hy with rfl | hy
      · omega
      · exact h2 y hy
    · rcases h3 with h3 | h3
      · rw [h3]
        by_cases h : a ≤ n
        · exact .inl (by omega)
        · exact .inr (List.mem_cons.mpr (.inl (by omega)))
      · exact .inr (List.mem_cons.mpr (.inr h3))
theorem foldl_min_one {n m : Int} {ns : List Int} (hm : m ∈ n :: ns) (hl : ∀ y, y ∈ n :: ns → m ≤ y) : m = ns.foldl min n := by
  obtain ⟨h1, h2, h3⟩ := foldl_min_le ns n
  have e1 : ns.foldl min n ≤ m := by
    rcases List.mem_cons.mp hm with rfl | hm
    · exact h1
    · exact h2 m hm
  have e2 : m ≤ ns.foldl min n := by
    rcases h3 with h3 | h3
    · rw [h3]; exact hl _ List.mem_cons_self
    · exact hl _ (List.mem_cons_of_mem _ h3)
  omega
theorem foldl_max_one {n m : Int} {ns : List Int} (hm : m ∈ n :: ns) (hl : ∀ y, y ∈ n :: ns → y ≤ m) : m = ns.foldl max n := by
  obtain ⟨h1, h2, h3⟩ := foldl_max_le ns n
  have e1 : m ≤ ns.foldl max n := by
    rcases List.mem_cons.mp hm with rfl | hm
    · exact h1
    · exact h2 m hm
  have e2 : ns.foldl max n ≤ m := by
    rcases h3 with h3 | h3
    · rw [h3]; exact hl _ List.mem_cons_self
    · exact hl _ (List.mem_cons_of_mem _ h3)
  omega
/-- tuple(x), x a text -/
theorem call_tupleS (hc : X.calm = true) : CallR X (.type "tuple") (fun xs H Q => ∃ z : Str, xs = [.str z] ∧ z.length ≤ sizeLine ∧ ∀ vs : List V, vs = (z.cps.toList.map fun c => V.str ⟨#[c]⟩) → ∀ p, H p = none → Q (.ref p) (upd H p (.tup vs))) := by
  intro pins s σ H xs us Q I r h
  obtain ⟨z, rfl, hz, q⟩ := h
  obtain ⟨u, rfl, ru⟩ := vals1 r
  obtain ⟨t, rfl⟩ := ru
  refine call_tuple_str (I.ok.hd hc) z t (fun h' tk acc hk ha => ?_) hz
  have I1 : L2.Inv X pins σ H { s with heap := h', toks := tk } := I.kept hk
  have rv : Vals (z.cps.toList.map fun c => V.str ⟨#[c]⟩) acc.toList := by
    have go : ∀ (cs : List Nat) (us : List Value), us.length = cs.length → (∀ (j : Nat) (v : Value), us[j]? = some v → ∃ (c : Nat) (t : Tok), cs[j]? = some c ∧ v = Value.str ⟨#[c]⟩ t) → Vals (cs.map fun c => V.str ⟨#[c]⟩) us := by
      intro cs
      induction cs with
      | nil => intro us hl _; cases us with
        | nil => exact .nil
        | cons _ _ => simp at hl
      | cons c r ih =>
        intro us hl hp
        cases us with
        | nil => simp at hl
        | cons u us =>
          obtain ⟨c', t', e, e2⟩ := hp 0 u rfl
          simp at e
          subst e e2
          exact .cons ⟨t', rfl⟩ (ih us (by simpa using hl) fun j v e => hp (j + 1) v e)
    refine go _ _ (by rw [Array.length_toList, Array.length_toList]; exact ha.1) fun j v e => ?_
    obtain ⟨c, t', h1, h2⟩ := ha.2 j v (by rw [← Array.getElem?_toList]; exact e)
    exact ⟨c, t', by rw [Array.getElem?_toList]; exact h1, h2⟩
  have I2 := I1.laid (a := h'.objs.size) (o := .tup (z.cps.toList.map fun c => V.str ⟨#[c]⟩)) (h' := h'.push { cls := .type "tuple", data := .seq acc }) (t' := tk) (fun _ _ e => Heap.get?_push_of_some _ e) (Nat.le_refl _)
    ⟨by rw [List.length_map, Array.length_toList]; exact hz, acc.toList, rv, ⟨_, Heap.get?_push_size _ rfl, rfl, 0, rfl⟩⟩
  exact ⟨.ref h'.objs.size, _, I2, rfl, q _ rfl _ (I1.hok.fresh (Nat.le_refl _))⟩
theorem charsT_rp {K : PySem.W.Frag} {G : Hp} (z : Str) (vs : List V) (h : vs = (z.cps.toList.map fun c => V.str ⟨#[c]⟩)) : RpL K G vs (charsT z) := by
  subst h
  unfold charsT
  generalize z.cps.toList = cs
  induction cs with
  | nil => exact .nil
  | cons c r ih => exact .cons (.str _) ih
end
section
variable {K : PySem.W.Frag} {G : Hp}
theorem RpQ.any (k : List Key) : ∀ {vs : List (List Key × V)} {ds : List (List Key × T)}, RpQ K G vs ds → (vs.any fun kv => decide (kv.1 = k)) = ds.any fun kv => decide (kv.1 = k)
  | _, _, .nil => rfl
  | _, _, .cons r q => by rw [List.any_cons, List.any_cons, RpQ.any k q]
theorem RpQ.repl (k : List Key) {v : V} {d : T} (r : Rp K G v d) : ∀ {vs : List (List Key × V)} {ds : List (List Key × T)}, RpQ K G vs ds → RpQ K G (vs.map fun kv => if kv.1 = k then (kv.1, v) else kv) (ds.map fun kv => if kv.1 = k then (kv.1, d) else kv)
  | _, _, .nil => .nil
  | _, _, .cons (k := j) r' q => by
    rw [List.map_cons, List.map_cons]
    by_cases e : j = k
    · simp only [e, if_true]
      exact .cons r (RpQ.repl k r q)
    · simp only [e, if_false]
      exact .cons r' (RpQ.repl k r q)
theorem RpQ.append : ∀ {vs ws : List (List Key × V)} {ds es : List (List Key × T)}, RpQ K G vs ds → RpQ K G ws es → RpQ K G (vs ++ ws) (ds ++ es)
  | _, _, _, _, .nil, s => s
  | _, _, _, _, .cons r t, s => .cons r (RpQ.append t s)
theorem RpQ.put (k : List Key) {v : V} {d : T} (r : Rp K G v d) {vs : List (List Key × V)} {ds : List (List Key × T)} (h : RpQ K G vs ds) : RpQ K G (putK vs k v) (putT ds k d) := by
  unfold putK putT
  rw [h.any k]
  split
  · exact h.repl k r
  · exact h.append (.cons r .nil)
theorem RpQ.merge : ∀ {vs : List (List Key × V)} {ds : List (List Key × T)} {vs0 : List (List Key × V)} {ds0 : List (List Key × T)}, RpQ K G vs ds → RpQ K G vs0 ds0 → RpQ K G (mrgV vs0 vs) (mrgQ ds0 ds)
  | _, _, _, _, .nil, r => r
  | _, _, _, _, .cons (k := k) r t, r0 => by
    unfold mrgV mrgQ
    exact RpQ.merge t (r0.put k r)
theorem pairsQ_ok {H : Hp} (f : Fz G H) : ∀ {ds : List T} {kvs : List (List Key × T)} {xs : List V}, pairsQ ds = some kvs → RpL K G xs ds → ∃ (ps : List Addr) (ws : List (List Key × V)), xs = ps.map V.ref ∧
    Paired (fun p kv => ∃ b, SqT K H p [V.ref b, kv.2] ∧ H b = some (.tup (kv.1.map kV))) ps ws ∧ RpQ K G ws kvs
  | [], kvs, xs, h, r => by
    cases h
    cases r
    exact ⟨[], [], rfl, .nil, .nil⟩
  | d :: r, kvs, xs, h, rr => by
    unfold pairsQ at h
    split at h
    · rename_i z; cases z
    · rename_i ks v r0 z
      cases z
      split at h
      · rename_i k s hk hs
        cases h
        cases rr with
        | cons r1 r2 =>
          obtain ⟨ps, ws, rfl, h2, h3⟩ := pairsQ_ok f hs r2
          cases r1 with
          | tup g1 q1 =>
            rename_i p xs1
            cases q1 with
            | cons y1 y2 =>
              cases y1 with
              | tup g2 q2 =>
                rename_i b xs2
                have e2 := keysT_r q2 hk
                cases y2 with
                | cons z1 z2 =>
                  cases z2
                  rename_i v1
                  refine ⟨p :: ps, (k, v1) :: ws, rfl, .cons ⟨b, SqT.of (f.tp _ _ g1), by rw [← e2]; exact f.tp _ _ g2⟩ h2, .cons z1 h3⟩
      · cases h
    · cases h
theorem alQ {H : Hp} {Q : VK} {ds : List (List Key × T)} (f : Fz G H) (q : ∀ v H' G', Al G H G' H' → Rp K G' v (.dT ds) → Q v H') {xs : List (List Key × V)} (h : RpQ K G xs ds) : ∀ p, H p = none → Q (.ref p) (upd H p (.dT xs)) := fun p hp =>
  q (.ref p) _ (upd G p (.dT xs)) (Al.lay f hp fun ob u z => by cases z) (.dT (.inl upd_same) (h.mono (Al.lay (o := .dT xs) f hp fun ob u z => by cases z).fz))
end
section
variable {X : Cx}
theorem bi_ok (hu : X.A.units + 65 < cLine) (hc : X.calm = true) (b : BI) : CallR X b.vl (rC X.K (biT b)) := by
  refine CallR.pick ?_
  rintro xs H Q ⟨G, ds, r, f, hx, hb, q⟩
  unfold biT at hb
  split at hb
  · obtain ⟨x, rfl, h1⟩ := hx.one
    obtain ⟨n, hn, rfl⟩ := Option.map_eq_some_iff.mp hb
    rcases len_T f h1 hn with h | ⟨a, kvs, rfl, h, rfl⟩
    · exact ⟨_, call_len, x, n, rfl, h, al0 f q (.int _)⟩
    · exact ⟨_, call_len_d, a, kvs, rfl, h, al0 f q (.int _)⟩
  · obtain ⟨x, rfl, h1⟩ := hx.one
    cases h1.int_inv; cases hb
    exact ⟨_, call_abs, _, rfl, al0 f q (.int _)⟩
  · obtain ⟨x, rfl, h1⟩ := hx.one
    cases h1.int_inv; cases hb
    exact ⟨_, call_int1, .inl ⟨_, rfl, al0 f q (.int _)⟩⟩
  · obtain ⟨x, rfl, h1⟩ := hx.one
    cases h1.bl_inv; cases hb
    exact ⟨_, call_int1, .inr ⟨_, rfl, al0 f q (.int _)⟩⟩
  · obtain ⟨x, rfl, h1⟩ := hx.one
    cases h1.int_inv
    split at hb
    · rename_i hl; cases hb
      exact ⟨_, call_str_int, _, rfl, hl, al0 f q (.str _)⟩
    · cases hb
  · obtain ⟨x, y, rfl, h1, h2⟩ := hx.two
    cases h1.int_inv; cases h2.int_inv; cases hb
    exact ⟨_, call_min2 hc, _, _, rfl, al0 f q (.int _)⟩
  · obtain ⟨x, y, rfl, h1, h2⟩ := hx.two
    cases h1.int_inv; cases h2.int_inv; cases hb
    exact ⟨_, call_max2 hc, _, _, rfl, al0 f q (.int _)⟩
  · obtain ⟨x, rfl, h1⟩ := hx.one
    obtain ⟨bs, hn, rfl⟩ := Option.map_eq_some_iff.mp hb
    obtain ⟨a, ys, rfl, h2, h3⟩ := h1.lst_inv f
    rw [boolsT_inv hn] at h3
    rw [h3.bls_inv] at h2
    exact ⟨_, cr_all hc, a, bs, rfl, .inl h2, al0 f q (.bl _)⟩
  · obtain ⟨x, rfl, h1⟩ := hx.one
    obtain ⟨bs, hn, rfl⟩ := Option.map_eq_some_iff.mp hb
    obtain ⟨a, ys, rfl, h2, h3⟩ := h1.lst_inv f
    rw [boolsT_inv hn] at h3
    rw [h3.bls_inv] at h2
    exact ⟨_, cr_any hc, a, bs, rfl, .inl h2, al0 f q (.bl _)⟩
  · obtain ⟨x, rfl, h1⟩ := hx.one
    obtain ⟨bs, hn, rfl⟩ := Option.map_eq_some_iff.mp hb
    obtain ⟨a, ys, rfl, h2, h3⟩ := h1.lst_inv f
    rw [intsT_inv hn] at h3
    rw [h3.ints_inv] at h2
    exact ⟨_, cr_sum hc, a, bs, rfl, .inl h2, al0 f q (.int _)⟩
  · obtain ⟨x, rfl, h1⟩ := hx.one
    cases hb
    obtain ⟨a, ys, rfl, h2, h3⟩ := h1.lst_inv f
    exact ⟨_, call_list_of, a, ys, rfl, .inl (.inl h2), alL f q h3⟩
  · obtain ⟨x, rfl, h1⟩ := hx.one
    cases hb
    obtain ⟨a, ys, rfl, h2, h3⟩ := h1.tup_inv f
    exact ⟨_, call_list_of, a, ys, rfl, .inr (SqT.of h2), alL f q h3⟩
  · obtain ⟨x, rfl, h1⟩ := hx.one
    cases hb
    obtain ⟨a, rfl, h2⟩ := h1.scr_inv f
    exact ⟨_, call_list_of, a, _, rfl, .inl h2, alL f q (RpL.ints _)⟩
  · obtain ⟨x, rfl, h1⟩ := hx.one
    cases hb
    obtain ⟨a, ys, rfl, h2, h3⟩ := h1.lst_inv f
    exact ⟨_, call_tuple_of, a, ys, rfl, .inl ⟨.inl h2, alT f q h3⟩⟩
  · obtain ⟨x, rfl, h1⟩ := hx.one
    cases hb
    have h0 := h1.tup_r
    obtain ⟨a, ys, rfl, h2, h3⟩ := h1.tup_inv f
    exact ⟨_, call_tuple_of, a, ys, rfl, .inr ⟨SqT.of h2, al0 f q h0⟩⟩
  · obtain ⟨x, rfl, h1⟩ := hx.one
    cases h1.str_inv
    split at hb
    · rename_i hl; cases hb
      exact ⟨_, call_tupleS hc, _, rfl, by rw [← line_eq]; exact hl, fun vs hv => alT f q (charsT_rp _ vs hv)⟩
    · cases hb
  · obtain ⟨x, rfl, h1⟩ := hx.one
    obtain ⟨a, ys, rfl, h2, h3⟩ := h1.lst_inv f
    obtain ⟨es, hs, rfl⟩ := Option.map_eq_some_iff.mp hb
    exact ⟨_, cr_sortD hu, G, a, ys, _, es, rfl, f, .inl h2, h3, hs, fun ws hw => alL f q hw⟩
  · obtain ⟨x, rfl, h1⟩ := hx.one
    obtain ⟨a, ys, rfl, h2, h3⟩ := h1.tup_inv f
    obtain ⟨es, hs, rfl⟩ := Option.map_eq_some_iff.mp hb
    exact ⟨_, cr_sortD hu, G, a, ys, _, es, rfl, f, .inr h2, h3, hs, fun ws hw => alL f q hw⟩
  · obtain ⟨x, rfl, h1⟩ := hx.one
    obtain ⟨a, ys, rfl, h2, h3⟩ := h1.lst_inv f
    obtain ⟨kvs, hs, rfl⟩ := Option.map_eq_some_iff.mp hb
    obtain ⟨ps, ws, rfl, h4, h5⟩ := pairsQ_ok f hs h3
    exact ⟨_, call_dictQ hu hc, a, ps, ws, rfl, .inl h2, h4, alQ f q (RpQ.merge h5 .nil)⟩
  · obtain ⟨x, rfl, h1⟩ := hx.one
    obtain ⟨a, ys, rfl, h2, h3⟩ := h1.lst_inv f
    split at hb
    · rename_i n ns hn
      cases hb
      rw [intsT_inv hn] at h3
      rw [h3.ints_inv] at h2
      refine ⟨_, cr_min hc, a, n :: ns, rfl, .inl h2, by simp, fun m hm hl => ?_⟩
      rw [foldl_min_one hm hl]
      exact al0 f q (.int _)
    · cases hb
  · obtain ⟨x, rfl, h1⟩ := hx.one
    obtain ⟨a, ys, rfl, h2, h3⟩ := h1.lst_inv f
    split at hb
    · rename_i n ns hn
      cases hb
      rw [intsT_inv hn] at h3
      rw [h3.ints_inv] at h2
      refine ⟨_, cr_max hc, a, n :: ns, rfl, .inl h2, by simp, fun m hm hl => ?_⟩
      rw [foldl_max_one hm hl]
      exact al0 f q (.int _)
    · cases hb
  · cases hb

/-! ### isinstance -/
def tyT : T → Option String
  | .non => some "NoneType" | .bl _ => some "bool" | .int _ => some "int" | .str _ => some "str" | .lst _ => some "list" | .scr _ => some "list" | .tup _ => some "tuple" | .dK _ => some "dict" | .dT _ => none
def isiT (ty : String) (c : String) : Option Bool := kitB ty c
def isiAny (ty : String) : List String → Option Bool
  | [] => some false
  | c :: r => match kitB ty c with
    | some true => some true
    | some false => isiAny ty r
    | none => none
theorem tyT_ok {G H : Hp} {x : V} {d : T} {ty : String} (f : Fz G H) (hx : Vw X.K G H x d) (h : tyT d = some ty) : TyX X.K H x (.type ty) := by
  have rdl : ∀ {a : Addr} {xs : List V}, Rd H a (.lst xs) → TyX X.K H (.ref a) (.type "list") := fun h => by
    rcases h with h | ⟨ob, h⟩
    · exact .base (.lst h)
    · exact .base (.frz h)
  have rdk : ∀ {a : Addr} {xs : List (Key × V)}, Rd H a (.dK xs) → TyX X.K H (.ref a) (.type "dict") := fun h => by
    rcases h with h | ⟨ob, h⟩
    · exact .base (.dK h)
    · exact .fDict h
  cases d with
  | non => cases h; cases hx.non_inv; exact .base .non
  | bl b => cases h; cases hx.bl_inv; exact .base (.bl _)
  | int b => cases h; cases hx.int_inv; exact .base (.int _)
  | str b => cases h; cases hx.str_inv; exact .base (.str _)
  | lst ds => cases h; obtain ⟨a, xs, rfl, h1, _⟩ := hx.lst_inv f; exact rdl h1
  | tup ds => cases h; obtain ⟨a, xs, rfl, h1, _⟩ := hx.tup_inv f; exact .base (.tup h1)
  | scr ns =>
    cases h; obtain ⟨a, rfl, h1⟩ := hx.scr_inv f
    rcases h1 with h1 | ⟨o, its, n, h2, h3, _⟩
    · exact rdl h1
    · exact .kList h2 h3
  | dK ds => cases h; obtain ⟨a, xs, rfl, h1, _⟩ := hx.dK_inv f; exact rdk h1
  | dT ds => cases h
end
end Qq

set_option maxHeartbeats 4000000
/-! Q4: the text in short, and what it does. -/
namespace Qq
open PySem PySem.Spec PyProof.Rows L2

/-- a target -/
inductive Tg where
  | n (i : Nat) | nil | cons (a r : Tg)
/-- what is gone through -/
inductive IK where
  | seq | r1 | r2 | enum | zip | items
  deriving DecidableEq
/-- an expression in short -/
inductive C where
  | var (i : Nat) | cst (d : T)
  | bin (fr : Bool) (op : Operator) (a b : C) | neg (a : C)
  | cmp (op : CmpOp) (a b : C) | chn (op op2 : CmpOp) (a b c : C)
  | andV (a b : C) | orV (a b : C) | notV (a : C) | ife (t a b : C) | tru (a : C)
  | tup (l : C) | lst (fr : Bool) (l : C) | nil | cons (a r : C)
  | call (f : Nat) (l : C) | callk (f g : Nat) (l k : C)
  | bi (fr : Bool) (b : BI) (l : C) | isi (a : C) (cs : List String) (one : Bool)
  | idx (a b : C) | sl (fr : Bool) (a : C) (lo hi : Option Unit) (b c : C)
  | mth (m : Str) (o l : C)
  | dct (fr tk : Bool) | rev (a : C) | frz (a : C) | spl (a r : C) | dsp (fr : Bool) (a k v : C)
  | dcm (fr : Bool) (vs : List Nat) (g : Tg) (k : IK) (l t ek ev : C)
  | comp (fr : Bool) (vs : List Nat) (g : Tg) (k : IK) (l t e : C)
/-- a statement in short -/
inductive P where
  | nil | seq (a r : P)
  | asg (g : Tg) (c : C) | par (gs : List Nat) (l : C) | aug (i : Nat) (op : Operator) (c : C)
  | setI (o i c : C) | drop (c : C) | ret (c : C) | retN
  | ite (t : C) (a b : P) | whl (t : C) (b : P) | for_ (g : Tg) (k : IK) (l : C) (b : P)
  | brk | cnt | pass | never
/-- how a statement ends -/
inductive Fl where
  | nx | brk | cnt | ret (d : D)

def D.tr : D → Option T
  | .t d => some d
  | _ => none
def D.ls : D → Option (List D)
  | .l ds => some ds
  | _ => none
def T.bool : T → Option Bool
  | .bl b => some b
  | _ => none
def D.bool : D → Option Bool
  | .t (.bl b) => some b
  | _ => none
def rdL (S : Sto) : List D → Option (List T)
  | [] => some []
  | d :: r => match rd S d, rdL S r with
    | some t, some ts => some (t :: ts)
    | _, _ => none
def trL : List D → Option (List T)
  | [] => some []
  | .t d :: r => (trL r).map fun ts => d :: ts
  | _ :: _ => none
def T.cl : T → Option Cl
  | .lst xs => some (.lst xs)
  | .dK kvs => some (.dK kvs)
  | .dT kvs => some (.dT kvs)
  | _ => none
/-- a result: a tree, or a new thing that may change -/
def own (fr : Bool) (d : T) (S : Sto) : R D := match fr with
  | false => .ok (.t d) S
  | true => match d.cl with
    | some c => .ok (.o S.length) (S ++ [c])
    | none => .bad
def R.nox {α : Type} : R α → R α
  | .exc _ _ => .bad
  | r => r
def R.cut {α : Type} (n : Nat) : R α → R α
  | .ok a S => .ok a (S.take n)
  | .exc x S => .exc x (S.take n)
  | .bad => .bad

/-- the items of a starred part, of what is taken apart -/
def T.its : T → Option (List T)
  | .lst ds => some ds
  | .tup ds => some ds
  | _ => none
def asgX : Tg → (T → Env → Option Env) × (List T → Env → Option Env)
  | .n i => (fun d r => some (r.set i (some (.t d))), fun _ _ => none)
  | .nil => (fun d r => match d.its with
    | some [] => some r
    | _ => none, fun ds r => match ds with
    | [] => some r
    | _ => none)
  | .cons a g => (fun d r => match d.its with
    | some (d :: ds) => (match (asgX a).1 d r with
      | some r' => (asgX g).2 ds r'
      | none => none)
    | _ => none, fun ds r => match ds with
    | d :: ds => (match (asgX a).1 d r with
      | some r' => (asgX g).2 ds r'
      | none => none)
    | _ => none)
def asgT (g : Tg) (d : T) (r : Env) : Option Env := (asgX g).1 d r
def asgD : Tg → D → Env → Option Env
  | .n i, d, r => some (r.set i (some d))
  | g, .t d, r => asgT g d r
  | _, _, _ => none
def asgP : List Nat → List D → Env → Option Env
  | [], [], r => some r
  | i :: is, d :: ds, r => asgP is ds (r.set i (some d))
  | _, _, _ => none

def enumT (n : Nat) : List T → List T
  | [] => []
  | d :: r => .tup [.int n, d] :: enumT (n + 1) r
def zipT : List T → List T → List T
  | d :: r, e :: s => .tup [d, e] :: zipT r s
  | _, _ => []
def upT (a : Int) : Nat → List T
  | 0 => []
  | n + 1 => .int a :: upT (a + 1) n
def kT : Key → T
  | .inl i => .int i
  | .inr x => .str x
/-- what is gone through item by item -/
def seqT : T → Option (List T)
  | .lst ds => some ds
  | .tup ds => some ds
  | .scr ns => some (ns.map T.int)
  | .str z => some (charsT z)
  | _ => none
def itT : IK → List T → Option (List T)
  | .seq, [.dK kvs] => some (kvs.map fun kv => kT kv.1)
  | .items, [.dK kvs] => some (kvs.map fun kv => .tup [kT kv.1, kv.2])
  | .seq, [.lst ds] => some ds
  | .seq, [.tup ds] => some ds
  | .seq, [.scr ns] => some (ns.map T.int)
  | .seq, [.str z] => some (charsT z)
  | .r1, [.int j] => if -(2 ^ 62) ≤ j ∧ j ≤ 16777216 then some (upT 0 j.toNat) else none
  | .r2, [.int i, .int j] => if -(2 ^ 62) ≤ i ∧ i < 2 ^ 62 ∧ -(2 ^ 62) ≤ j ∧ j < 2 ^ 62 ∧ j - i ≤ 16777216 then some (upT i (j - i).toNat) else none
  | .enum, [d] => (seqT d).map (enumT 0)
  | .zip, [d, e] => match seqT d, seqT e with
    | some ds, some es => some (zipT ds es)
    | _, _ => none
  | _, _ => none
def dkB : List T → Bool
  | [.dK _] => true
  | [.dT _] => true
  | _ => false
/-- a dict that may change is not gone through -/
def itC (k : IK) : List D → List T → Option (List T)
  | [.o _], ts => if dkB ts then none else itT k ts
  | _, ts => itT k ts

/-- what is gone through is locked: one thing that may change at most -/
def lkOf : List D → Option (Option Nat)
  | [.o j] => some (some j)
  | [] => some none
  | .t _ :: r => match r with
    | [] => some none
    | .t _ :: r' => (match r' with
      | [] => some none
      | _ => none)
    | _ => none
  | _ => none
def lockS (lk : Option Nat) (S : Sto) : Sto := match lk with
  | none => S
  | some j => match S[j]? with
    | some (.gon _) => S
    | some c => S.set j (.lck c)
    | none => S
/-- S₀ : as it was ahead of the loop -/
def unlockS (lk : Option Nat) (S₀ S : Sto) : Sto := match lk with
  | none => S
  | some j => match S₀[j]? with
    | some (.gon _) => S
    | some c => S.set j c
    | none => S

def compGo {α : Type} (f : T → Sto → R (Option α)) : List T → Sto → R (List α)
  | [], S => .ok [] S
  | d :: r, S => (f d S).bind fun o S1 => (compGo f r S1).bind fun xs S2 => .ok (match o with
    | some x => x :: xs
    | none => xs) S2
def forGo (f : T → Env → Sto → R (Fl × Env)) : List T → Env → Sto → R (Fl × Env)
  | [], r, S => .ok (.nx, r) S
  | d :: ds, r, S => (f d r S).bind fun fr S1 => match fr.1 with
    | .nx => forGo f ds fr.2 S1
    | .cnt => forGo f ds fr.2 S1
    | .brk => .ok (.nx, fr.2) S1
    | .ret d => .ok (.ret d, fr.2) S1
def whlGo (t : Env → Sto → R Bool) (f : Env → Sto → R (Fl × Env)) : Nat → Env → Sto → R (Fl × Env)
  | 0, _, _ => .bad
  | n + 1, r, S => (t r S).bind fun b S1 => match b with
    | false => .ok (.nx, r) S1
    | true => (f r S1).bind fun fr S2 => match fr.1 with
      | .nx => whlGo t f n fr.2 S2
      | .cnt => whlGo t f n fr.2 S2
      | .brk => .ok (.nx, fr.2) S2
      | .ret d => .ok (.ret d, fr.2) S2

/-- a part of a slice -/
def partT : Option Unit → D → Option (Option Int)
  | none, _ => some none
  | some _, .t (.int i) => some (some i)
  | _, _ => none
/-- what is gone through: what is locked, the items -/
def srcT (k : IK) (x : D) (S : Sto) : Option (Option Nat × List T) := match x.ls with
  | none => none
  | some ds => match lkOf ds, (rdL S ds).bind (itC k ds) with
    | some lk, some is => if is.length ≤ line then some (lk, is) else none
    | _, _ => none
/-- methods -/
inductive MI where
  | append | lpop | dget | dpop | join
  deriving DecidableEq
def MI.T : MI → String
  | .append => "list" | .lpop => "list" | .dget => "dict" | .dpop => "dict" | .join => "str"
def MI.nm : MI → Str
  | .append => "append" | .lpop => "pop" | .dget => "get" | .dpop => "pop" | .join => "join"
def MI.id : MI → String
  | .append => "list.append" | .lpop => "list.pop" | .dget => "dict.get" | .dpop => "dict.pop" | .join => "str.join"
/-- which one, by what the receiver is -/
def miOf (t : T) (m : Str) : Option MI := match t with
  | .lst _ => if m = MI.nm .append then some .append else if m = MI.nm .lpop then some .lpop else none
  | .dK _ => if m = MI.nm .dget then some .dget else if m = MI.nm .dpop then some .dpop else none
  | .dT _ => if m = MI.nm .dget then some .dget else none
  | .str _ => if m = MI.nm .join then some .join else none
  | _ => none
def sumL : List Str → Nat
  | [] => 0
  | x :: r => x.length + sumL r
def joinT (a : Str) (ds : List T) : Option T := match strsT ds with
  | some ys => if sumL ys + ys.length * a.length ≤ 16777216 then some (.str (Txt.join a ys)) else none
  | none => none
/-- the receiver, the arguments -/
def mthS (mi : MI) (o : D) (ds : List D) (S : Sto) : R D := match mi, o, ds with
  | .append, .o i, [.t t] => (match S[i]? with
    | some (.lst xs) => if xs.length < line then .ok (.t .non) (S.set i (.lst (xs ++ [t]))) else .bad
    | _ => .bad)
  | .lpop, .o i, [] => (match S[i]? with
    | some (.lst xs) => (match xs[xs.length - 1]? with
      | some y => .ok (.t y) (S.set i (.lst xs.dropLast))
      | none => .bad)
    | _ => .bad)
  | .lpop, .o i, [.t (.int k)] => (match S[i]? with
    | some (.lst xs) => if -(2 ^ 63) ≤ k ∧ k < 2 ^ 63 then (match seqIndex? k xs.length with
      | some j => (match xs[j]? with
        | some y => .ok (.t y) (S.set i (.lst (xs.eraseIdx j)))
        | none => .bad)
      | none => .bad) else .bad
    | _ => .bad)
  | .dget, o, [k] => R.opt (match rd S o, rd S k with
    | some d, some e => (getT d e).map fun v => .t (v.getD .non)
    | _, _ => none) S
  | .dget, o, [k, z] => (match rd S o, rd S k with
    | some d, some e => (match getT d e with
      | some (some v) => .ok (.t v) S
      | some none => .ok z S
      | none => .bad)
    | _, _ => .bad)
  | .dpop, .o i, [k] => (match S[i]?, (rd S k).bind keyT with
    | some (.dK kvs), some k => (match valT kvs k with
      | some v => .ok (.t v) (S.set i (.dK (dropT kvs k)))
      | none => .bad)
    | _, _ => .bad)
  | .dpop, .o i, [k, z] => (match S[i]?, (rd S k).bind keyT with
    | some (.dK kvs), some k => (match valT kvs k with
      | some v => .ok (.t v) (S.set i (.dK (dropT kvs k)))
      | none => .ok z S)
    | _, _ => .bad)
  | .join, o, [l] => R.opt (match rd S o, rd S l with
    | some (.str a), some (.lst ds) => (joinT a ds).map D.t
    | some (.str a), some (.tup ds) => (joinT a ds).map D.t
    | _, _ => none) S
  | _, _, _ => .bad

/-- what a name tells: a thing that changes no more is a tree -/
def see (S : Sto) : D → D
  | .o j => match S[j]? with
    | some (.gon t) => .t t
    | _ => .o j
  | d => d
/-- from now on it changes no more -/
def frzS (S : Sto) : D → R D
  | .t t => .ok (.t t) S
  | .o j => match S[j]? with
    | some (.lst xs) => .ok (.t (.lst xs)) (S.set j (.gon (.lst xs)))
    | some (.dK xs) => .ok (.t (.dK xs)) (S.set j (.gon (.dK xs)))
    | some (.dT xs) => .ok (.t (.dT xs)) (S.set j (.gon (.dT xs)))
    | some (.gon t) => .ok (.t t) S
    | _ => .bad
  | .l _ => .bad
def T.dk : T → Option (List (Key × T))
  | .dK kvs => some kvs
  | _ => none
def D.key (d : D) : Option Key := d.tr.bind keyT
/-- a dict of pairs laid one behind another -/
def mrgT (acc : List (Key × T)) : List (Key × T) → List (Key × T)
  | [] => acc
  | kv :: r => mrgT (putT acc kv.1 kv.2) r
/-- back to front -/
def revT : T → Option T
  | .lst ds => some (.lst ds.reverse)
  | .tup ds => some (.tup ds.reverse)
  | _ => none
section
variable (cl : Nat → List D → Sto → R D) (pm : Nat → List D → List D → Option (List D))
def ev : C → Env → Sto → R D
  | .var i, r, S => R.opt (match r[i]? with
    | some (some d) => some (see S d)
    | _ => none) S
  | .cst d, _, S => .ok (.t d) S
  | .bin fr op a b, r, S => (ev a r S).bind fun x S => (ev b r S).bind fun y S => (R.opt (match rd S x, rd S y with
    | some d, some e => binT op d e
    | _, _ => none) S).bind fun t S => own fr t S
  | .neg a, r, S => (ev a r S).bind fun x S => R.opt (match rd S x with
    | some (.int i) => some (.t (.int (-i)))
    | _ => none) S
  | .cmp op a b, r, S => (ev a r S).bind fun x S => (ev b r S).bind fun y S => R.opt (match rd S x, rd S y with
    | some d, some e => (cmpT op d e).map fun b => .t (.bl b)
    | _, _ => none) S
  | .chn op op2 a b c, r, S => (ev a r S).bind fun x S => (ev b r S).bind fun y S => (R.opt (match rd S x, rd S y with
    | some d, some e => cmpT op d e
    | _, _ => none) S).bind fun k S => match k with
      | false => .ok (.t (.bl false)) S
      | true => (ev c r S).bind fun z S => R.opt (match rd S y, rd S z with
        | some d, some e => (cmpT op2 d e).map fun b => .t (.bl b)
        | _, _ => none) S
  | .andV a b, r, S => (ev a r S).bind fun x S => (R.opt ((rd S x).bind truT) S).bind fun k S => match k with
    | true => ev b r S
    | false => .ok x S
  | .orV a b, r, S => (ev a r S).bind fun x S => (R.opt ((rd S x).bind truT) S).bind fun k S => match k with
    | true => .ok x S
    | false => ev b r S
  | .notV a, r, S => (ev a r S).bind fun x S => R.opt (((rd S x).bind truT).map fun k => .t (.bl (!k))) S
  | .ife t a b, r, S => (ev t r S).bind fun x S => (R.opt x.bool S).bind fun k S => match k with
    | true => ev a r S
    | false => ev b r S
  | .tru a, r, S => (ev a r S).bind fun x S => R.opt (((rd S x).bind truT).map fun k => .t (.bl k)) S
  | .tup l, r, S => (ev l r S).bind fun x S => R.opt (match x.ls.bind trL with
    | some ts => if ts.length ≤ line then some (.t (.tup ts)) else none
    | none => none) S
  | .lst fr l, r, S => (ev l r S).bind fun x S => (R.opt (match x.ls.bind trL with
    | some ts => if ts.length ≤ line then some ts else none
    | none => none) S).bind fun ts S => own fr (.lst ts) S
  | .nil, _, S => .ok (.l []) S
  | .cons a q, r, S => (ev a r S).bind fun x S => (ev q r S).bind fun y S => R.opt (y.ls.map fun ds => .l (x :: ds)) S
  | .call f l, r, S => (ev l r S).bind fun x S => (R.opt x.ls S).bind fun ds S => cl f ds S
  | .callk f g l k, r, S => (ev l r S).bind fun x S => (ev k r S).bind fun y S => (R.opt (match x.ls, y.ls with
    | some ds, some es => pm g ds es
    | _, _ => none) S).bind fun ds S => cl f ds S
  | .bi fr b l, r, S => (ev l r S).bind fun x S => (R.opt ((x.ls.bind (rdL S)).bind (biT b)) S).bind fun t S => own fr t S
  | .isi a cs _, r, S => (ev a r S).bind fun x S => R.opt ((((rd S x).bind tyT).bind fun ty => isiAny ty cs).map fun b => .t (.bl b)) S
  | .idx a b, r, S => (ev a r S).bind fun x S => (ev b r S).bind fun y S => R.opt (match rd S x, rd S y with
    | some d, some e => (idxT d e).map D.t
    | _, _ => none) S
  | .sl fr a lo hi b c, r, S => (ev a r S).bind fun x S => (ev b r S).bind fun y S => (R.opt (partT lo y) S).bind fun l S => (ev c r S).bind fun z S => (R.opt (partT hi z) S).bind fun u S => (R.opt ((rd S x).bind fun d => slT d l u) S).bind fun t S => own fr t S
  | .rev a, r, S => (ev a r S).bind fun x S => R.opt (((rd S x).bind revT).map D.t) S
  | .mth m o l, r, S => (ev o r S).bind fun x S => (R.opt ((rd S x).bind fun t => miOf t m) S).bind fun mi S => (ev l r S).bind fun y S => (R.opt y.ls S).bind fun ds S => mthS mi x ds S
  | .dct fr tk, _, S => own fr (if tk then .dT [] else .dK []) S
  | .frz a, r, S => (ev a r S).bind fun x S => frzS S x
  | .spl a q, r, S => (ev a r S).bind fun x S => (R.opt ((rd S x).bind T.its) S).bind fun ds S => (ev q r S).bind fun y S => R.opt (y.ls.map fun es => .l (ds.map D.t ++ es)) S
  | .dsp fr a k v, r, S => (ev a r S).bind fun x S1 => (R.opt ((x.tr.bind T.dk).bind fun kvs => if kvs.length < line ∧ S1.length = S.length then some kvs else none) S1).bind fun kvs S1 => (ev k r S1).bind fun y S2 => (R.opt y.key S2).bind fun key S2 => (ev v r S2).bind fun z S3 => (R.opt (z.tr.bind fun t => if S3.length = S.length then some t else none) S3).bind fun t S3 => own fr (.dK (putT kvs key t)) S3
  | .dcm fr vs g k l t ek ev', r, S => (ev l r S).bind fun x S => (R.opt (srcT k x S) S).bind fun dis S => (compGo (fun d S0 => match asgT g d (wip r vs) with
        | none => .bad
        | some r' => (((ev t r' S0).bind fun x S => (R.opt x.bool S).bind fun k S => match k with
          | false => .ok none S
          | true => (ev ek r' S).bind fun y S => (R.opt y.key S).bind fun key S => (ev ev' r' S).bind fun z S => R.opt (z.tr.map fun t => some (key, t)) S).nox).cut S0.length) dis.2 (lockS dis.1 S)).bind fun xs S' => own fr (.dK (mrgT [] xs)) (unlockS dis.1 S S')
  | .comp fr vs g k l t e, r, S => (ev l r S).bind fun x S => (R.opt (srcT k x S) S).bind fun dis S => (compGo (fun d S0 => match asgT g d (wip r vs) with
        | none => .bad
        | some r' => (((ev t r' S0).bind fun x S => (R.opt x.bool S).bind fun k S => match k with
          | false => .ok none S
          | true => (ev e r' S).bind fun y S => R.opt (y.tr.map some) S).nox).cut S0.length) dis.2 (lockS dis.1 S)).bind fun xs S' => own fr (.lst xs) (unlockS dis.1 S S')
end

section
variable (wf : Nat) (cl : Nat → List D → Sto → R D) (pm : Nat → List D → List D → Option (List D))
def exec : P → Env → Sto → R (Fl × Env)
  | .nil, r, S => .ok (.nx, r) S
  | .seq a q, r, S => (exec a r S).bind fun fr S => match fr.1 with
    | .nx => exec q fr.2 S
    | .brk => .ok fr S
    | .cnt => .ok fr S
    | .ret _ => .ok fr S
  | .asg g c, r, S => (ev cl pm c r S).bind fun x S => R.opt ((asgD g x r).map fun r' => (.nx, r')) S
  | .par gs l, r, S => (ev cl pm l r S).bind fun x S => R.opt ((x.ls.bind fun ds => asgP gs ds r).map fun r' => (.nx, r')) S
  | .aug i op c, r, S => (R.opt (match r[i]? with
    | some (some (.t d)) => some d
    | _ => none) S).bind fun d S => (ev cl pm c r S).bind fun y S => R.opt (match d, op, rd S y with
      | .int a, .Add, some (.int b) => some (.nx, r.set i (some (.t (.int (a + b)))))
      | .int a, .Sub, some (.int b) => some (.nx, r.set i (some (.t (.int (a - b)))))
      | _, _, _ => none) S
  | .setI o i c, r, S => (ev cl pm c r S).bind fun z S => (ev cl pm o r S).bind fun x S => (ev cl pm i r S).bind fun y S => (match x, rd S y, z with
    | .o a, some e, .t d => match S[a]? with
      | some (.lst xs) => match e with
        | .int k => (match ixN xs.length k with
          | some j => .ok (.nx, r) (S.set a (.lst (xs.set j d)))
          | none => .bad)
        | _ => .bad
      | some (.dK kvs) => match keyT e with
        | some k => if kvs.length < line then .ok (.nx, r) (S.set a (.dK (putT kvs k d))) else .bad
        | none => .bad
      | some (.dT kvs) => match e with
        | .tup es => (match keysT es with
          | some k => if kvs.length < line then .ok (.nx, r) (S.set a (.dT (putT kvs k d))) else .bad
          | none => .bad)
        | _ => .bad
      | _ => .bad
    | _, _, _ => .bad)
  | .drop c, r, S => (ev cl pm c r S).bind fun _ S => .ok (.nx, r) S
  | .ret c, r, S => (ev cl pm c r S).bind fun x S => .ok (.ret x, r) S
  | .retN, r, S => .ok (.ret (.t .non), r) S
  | .ite t a b, r, S => (ev cl pm t r S).bind fun x S => (R.opt x.bool S).bind fun k S => match k with
    | true => exec a r S
    | false => exec b r S
  | .whl t b, r, S => whlGo (fun r S => (ev cl pm t r S).bind fun x S => R.opt x.bool S) (fun r S => exec b r S) wf r S
  | .for_ g k l b, r, S => (ev cl pm l r S).bind fun x S => (R.opt (srcT k x S) S).bind fun dis S => (forGo (fun d r S => match asgT g d r with
        | none => .bad
        | some r' => exec b r' S) dis.2 r (lockS dis.1 S)).bind fun fr S' => .ok fr (unlockS dis.1 S S')
  | .brk, r, S => .ok (.brk, r) S
  | .cnt, r, S => .ok (.cnt, r) S
  | .pass, r, S => .ok (.nx, r) S
  | .never, _, _ => .bad
end

/-- a def in short: parameters, names, whether a new thing that may change is handed back as such -/
structure FI where
  np : Nat
  nn : Nat
  kp : Bool
  body : P
def fin (kp : Bool) (n : Nat) (fl : Fl) (S : Sto) : R D := match fl with
  | .nx => .ok (.t .non) (S.take n)
  | .ret (.t d) => .ok (.t d) (S.take n)
  | .ret (.o i) => if i < n then .ok (.o i) (S.take n) else match S[i]? with
    | some (.lst xs) => if kp then .ok (.o n) (S.take n ++ [.lst xs]) else .ok (.t (.lst xs)) (S.take n)
    | some (.dK xs) => if kp then .ok (.o n) (S.take n ++ [.dK xs]) else .ok (.t (.dK xs)) (S.take n)
    | some (.dT xs) => if kp then .ok (.o n) (S.take n ++ [.dT xs]) else .ok (.t (.dT xs)) (S.take n)
    | some (.gon t) => .ok (.t t) (S.take n)
    | _ => .bad
  | _ => .bad
def callF (fs : List FI) (wf : Nat) (pm : Nat → List D → List D → Option (List D)) : Nat → Nat → List D → Sto → R D
  | 0, _, _, _ => .bad
  | n + 1, f, ds, S => match fs[f]? with
    | none => .bad
    | some F => if ds.length = F.np then ((exec wf (callF fs wf pm n) pm F.body (ds.map some ++ List.replicate (F.nn - F.np) none) S).bind fun fr S' => fin F.kp S.length fr.1 S').cut (S.length + 1) else .bad
end Qq

set_option maxHeartbeats 4000000
/-! Q2x: a dict display with one mapping ahead of one pair. -/
namespace Qq
open PySem PySem.Spec PyProof.Rows L2

section
variable {prog : Program} {w : World} {A : Around} {E : Value → Shared → Prop} {s : Shared}
theorem mixKey_noref {k : Key} {v : Value} (h : (mixKind prog w).is k v = true) : ∀ a, v ≠ .ref a := by
  rcases keyIs_shape h with ⟨i, t, rfl, rfl⟩ | ⟨x, t, rfl, rfl⟩ <;> intro a z <;> cases z
theorem put_pairs {d : Addr} {kvs : List (Key × Value)} {k : Key} {key v : Value} {Q : Unit → Shared → Prop} (hkey : (mixKind prog w).is k key = true) (hm : s.heap.DictOf (mixKind prog w) d kvs)
    (hQ : ∀ h', h'.DictOf (mixKind prog w) d (stored kvs k v) → Heap.SameBut d s.heap h' → Q () { s with heap := h' })
    (hsz : kvs.length ≤ sizeLine) :
    wpAny (model prog w) A (dictPut d ((mixKind prog w).hash k) key v) Q E s := by
  obtain ⟨o, es, ep, ho, hc, hd, hk, hp, hn⟩ := hm
  have hes : es.size ≤ sizeLine := by
    have e1 := hp.length
    have e2 : es.toList.length = es.size := by simp
    omega
  unfold dictPut
  refine wpAny_bind (wpAny_dictFind_of hkey ho hd hk ?_)
  have hidx : (es.findIdx? fun e => (mixKind prog w).is k e.key) = kvs.findIdx? fun kv => decide (kv.1 = k) := by
    rw [← hp.findIdx k]; obtain ⟨l⟩ := es; simp
  cases hi : es.findIdx? fun e => (mixKind prog w).is k e.key with
  | some i =>
    refine wpAny_updateDict ho hd (hQ _ ⟨_, _, ep, Heap.get?_update_self _ ho (Obj.isFreed_of_dict (Obj.data_mapDict hd _)), hc.mapDict _, Obj.data_mapDict hd _, hk.modify _ _, ?_, ?_⟩ (Heap.SameBut.update ..))
    · rw [stored, if_pos (any_of_findIdx_some (hidx ▸ hi))]
      have hl : (es.toList.findIdx? fun e => (mixKind prog w).is k e.key) = some i := by rw [← hi]; obtain ⟨l⟩ := es; simp
      have := hp.modify hn hl v
      obtain ⟨l⟩ := es
      simpa using this
    · rw [stored, if_pos (any_of_findIdx_some (hidx ▸ hi)), keys_map_store]; exact hn
  | none =>
    have hnot : k ∉ kvs.map (·.1) := not_mem_of_findIdx_none (hidx ▸ hi)
    have hany : ¬ (kvs.any fun kv => decide (kv.1 = k)) = true := by
      rw [List.any_eq_true]; rintro ⟨kv, hkv, he⟩
      exact hnot (List.mem_map.mpr ⟨kv, hkv, of_decide_eq_true he⟩)
    refine wpAny_updateDictKeys (hz := hes) ho hd (hQ _ ⟨_, _, ep + 1, Heap.get?_update_self _ ho (Obj.isFreed_of_dict (Obj.data_mapDictKeys hd _)), hc.mapDictKeys _, Obj.data_mapDictKeys hd _, hk.push hkey _, ?_, ?_⟩ (Heap.SameBut.update ..))
    · rw [stored, if_neg hany]
      have := hp.append hkey ((mixKind prog w).hash k) v
      obtain ⟨l⟩ := es
      simpa using this
    · rw [stored, if_neg hany, List.map_append, List.nodup_append]
      refine ⟨hn, by simp, ?_⟩
      intro a ha b hb
      simp only [List.map_cons, List.map_nil, List.mem_singleton] at hb
      subst hb
      exact fun e => hnot (e ▸ ha)

theorem merge_map {d o : Addr} {kvs more : List (Key × Value)} {Q : Unit → Shared → Prop} (hdo : d ≠ o) (hoS : (o == sysModules) = false)
    (hd : s.heap.DictOf (mixKind prog w) d kvs) (ho : s.heap.DictOf (mixKind prog w) o more)
    (hQ : ∀ h', h'.DictOf (mixKind prog w) d (merged kvs more) → h'.DictOf (mixKind prog w) o more → Heap.SameBut d s.heap h' → Q () { s with heap := h' })
    (hsz : kvs.length + more.length ≤ sizeLine) :
    wpAny (model prog w) A (mergeMapping d (.ref o) false) Q E s := by
  obtain ⟨od, esd, epd, hod, hcd, hdd, hkd, hpd, hnd⟩ := id hd
  obtain ⟨oo, eso, epo, hoo, hco, hdo', hko, hpo, hno⟩ := id ho
  have hlen : more.length = eso.size := by rw [← hpo.length]; simp
  unfold mergeMapping
  refine wpAny_bind (wpAny_isInstance ho.typeIs isSubtype_dict_dict ?_)
  dsimp only
  rw [if_pos rfl]
  refine wpAny_bind (wpAny_specialOf ho.typeIs F.slot_dict_iter.lookup (wpAny_bind (wpAny_pure ?_)))
  simp only [beq_self_eq_true]
  rw [if_neg (by rw [hoS]; exact Bool.false_ne_true)]
  have loop : wpAny (model prog w) A (do
      let size := (← dictEntries o).size
      let epoch ← dictEpoch o
      for i in List.range size do
        let some e := (← dictEntries o)[i]? | unsupported "dict.changed-during-merge"
        holding [e.key, e.val] do
          if false then
            if (← dictFind d e.key e.hash).isSome then rule "dict.merge.duplicate-key"; raiseNew (← newExc (.type "KeyError") [e.key])
          dictPut d e.hash e.key e.val
        if (← dictEpoch o) != epoch then unsupported "dict.changed-during-merge") Q E s := by
    refine wpAny_bind (wpAny_dictEntries hoo hdo' ?_)
    refine wpAny_bind (wpAny_dictEpoch hoo hdo' ?_)
    refine wpAny_bind ?_
    rw [List.range_eq_range']
    refine wpAny_forIn_list _
      (fun rest _ s' => ∃ h' i, s' = { s with heap := h' } ∧ rest = List.range' i (eso.size - i) ∧ i ≤ eso.size ∧ h'.DictOf (mixKind prog w) d (merged kvs (more.take i)) ∧ h'.get? o = some oo ∧ Heap.SameBut d s.heap h')
      _ ?_ ?_ _ _ ⟨s.heap, 0, rfl, by simp, Nat.zero_le _, by simpa [merged] using hd, hoo, Heap.SameBut.refl _ _⟩
    · rintro x rest b s' ⟨h', i, rfl, hr, hi, hd', hoo', hs'⟩
      have hlt : i < eso.size := by
        rcases Nat.lt_or_ge i eso.size with h | h
        · exact h
        · rw [Nat.sub_eq_zero_of_le h] at hr; simp at hr
      obtain ⟨rfl, hrest⟩ : x = i ∧ rest = List.range' (i + 1) (eso.size - (i + 1)) := by
        have e : eso.size - i = (eso.size - (i + 1)) + 1 := by omega
        rw [e, List.range'_succ] at hr
        injection hr with h1 h2
        exact ⟨h1, h2⟩
      refine wpAny_bind (wpAny_dictEntries hoo' hdo' ?_)
      rw [Array.getElem?_eq_getElem hlt]
      obtain ⟨kv, hkv⟩ : ∃ kv, more[x]? = some kv := ⟨more[x]'(by rw [hlen]; exact hlt), List.getElem?_eq_getElem _⟩
      obtain ⟨k, v⟩ := kv
      obtain ⟨hkey, hval⟩ := hpo.get? (e := eso[x]) (by simp [hlt]) hkv
      obtain ⟨k', hkey', hhash⟩ := hko eso[x] (Array.getElem_mem hlt)
      obtain rfl : k' = k := (mixKind prog w).inj _ _ _ hkey' hkey
      have hmx : (merged kvs (more.take x)).length ≤ sizeLine := by
        have e1 := merged_length_le kvs (more.take x)
        have e2 : (more.take x).length ≤ more.length := by rw [List.length_take]; omega
        omega
      dsimp only
      rw [hhash, hval]
      simp only [Bool.false_eq_true, if_false]
      refine wpAny_bind (wpAny_holding (put_pairs hkey hd' (fun h'' hd'' hs'' => ?_) hmx))
      have hoo'' : h''.get? o = some oo := (hs''.2 o (Ne.symm hdo)).trans hoo'
      refine wpAny_bind (wpAny_dictEpoch hoo'' hdo' ?_)
      rw [if_neg (by simp)]
      exact wpAny_pure ⟨h'', x + 1, rfl, hrest, hlt, by rw [merged_take_succ kvs more x (k', v) hkv]; exact hd'', hoo'', hs'.trans hs''⟩
    · rintro b s' ⟨h', i, rfl, hr, hi, hd', hoo', hs'⟩
      have hin : i = eso.size := by
        rcases Nat.lt_or_ge i eso.size with h | h
        · have e : eso.size - i = (eso.size - (i + 1)) + 1 := by omega
          rw [e, List.range'_succ] at hr; exact nomatch hr
        · exact Nat.le_antisymm hi h
      refine wpAny_pure (hQ h' ?_ ⟨oo, eso, epo, hoo', hco, hdo', hko, hpo, hno⟩ hs')
      rw [hin, ← hlen, List.take_length] at hd'; exact hd'
  refine wpAny_bind (wpAny_dictEntries hod hdd ?_)
  split
  · refine wpAny_bind (wpAny_dictEntries hoo hdo' ?_)
    rw [← Array.forIn_toList]
    refine wpAny_bind (wpAny_forIn_list _ (fun rest _ s' => s' = s ∧ ∀ e ∈ rest, e ∈ eso.toList) _ ?_ ?_ _ _ ⟨rfl, fun e he => he⟩)
    · rintro x rest b s' ⟨rfl, hm⟩
      obtain ⟨k, hk, _⟩ := hko x (Array.mem_toList_iff.mp (hm x List.mem_cons_self))
      have hz := mixKey_noref hk
      cases hx : x.key with
      | ref a => exact absurd hx (hz a)
      | _ =>
        dsimp only
        exact wpAny_pure ⟨rfl, fun e he => hm e (List.mem_cons_of_mem _ he)⟩
    · rintro b s' ⟨rfl, _⟩
      exact loop
  · exact loop
end

/-- {**e, k: v}; the new dicts stand while the parts are read -/
def tDStar (te tk tv : TE) : TE := fun σ H Q => ∀ d, H d = none → te σ (upd H d (.dK [])) fun x H1 => ∃ a kvs, x = .ref a ∧ a ≠ d ∧ Rd H1 a (.dK kvs) ∧ H1 d = some (.dK []) ∧ kvs.length < sizeLine ∧
  ∀ b, upd H1 d (.dK kvs) b = none → tk σ (upd (upd H1 d (.dK kvs)) b (.dK [])) fun y H3 => tv σ H3 fun z H4 => ∃ k, y = kV k ∧ H4 d = some (.dK kvs) ∧ H4 b = some (.dK []) ∧
    Q (.ref d) (upd (upd H4 b (.dK [(k, z)])) d (.dK (putK kvs k z)))
theorem disp_star {m k v : Sem Value} : dictDisplay [(none, m), (some k, v)] = (do
    let d ← alloc { cls := .type "dict", data := .dict #[] }
    let m ← holding [.ref d] m
    (((holding [.ref d, m] (mergeMapping d m false)).onRaise fun x => do let _ ← holding [.ref d, m, x] (runValue (.builtin "proto.let_go" {}))).tryCatch fun e => do
        if ← isInstance e (.type "AttributeError") then
          rule "dict.display.not-a-mapping"; raiseError "TypeError" s!"'{← typeNameOf m}' object is not a mapping"
        throw e).onRaise fun x => do let _ ← holding [.ref d, x] (runValue (.builtin "proto.let_go" {}))
    let sub ← holding [.ref d] (subDict [(k, v)])
    (holding [.ref d, .ref sub] (mergeMapping d (.ref sub) false)).onRaise fun x => do let _ ← holding [.ref d, x] (runValue (.builtin "proto.let_go" {}))
    pure (.ref d)) := by
  unfold dictDisplay
  simp only [List.forIn_cons, List.forIn_nil, List.isEmpty_nil, if_true, pure_bind, bind_assoc, List.nil_append, List.length_cons, List.length_nil, List.isEmpty_cons, Bool.false_eq_true, if_false, show ((0 + 1 : Nat) == 17) = false from rfl]
theorem pe_dstar {X : Cx} {pos : Pos} {e k v : Expr} {te tk tv : TE} (he : PE X e te) (hk : PE X k tk) (hv : PE X v tv) : PE X (.Dict [none, some k] [e, v] pos) (tDStar te tk tv) := by
  refine ⟨fun pins s σ H Q I q => ?_⟩
  rw [arm_eval_Dict]
  refine wpAny_bind (wpAny_standAt ?_)
  show wpAny _ _ (dictDisplay [(none, do let x ← eval e X.env; standAt pos; pure x), (some (eval k X.env), do let x ← eval v X.env; standAt pos; pure x)]) _ _ _
  rw [disp_star]
  have hn := I.hok.fresh (Nat.le_refl s.heap.objs.size)
  have I1 := I.laid (a := s.heap.objs.size) (o := .dK []) (h' := s.heap.push { cls := .type "dict", data := .dict #[] }) (t' := s.toks) (fun _ _ q => Heap.get?_push_of_some _ q) (Nat.le_refl _) (dk_empty s.heap I.big)
  refine wpAny_bind (wpAny_alloc ?_)
  generalize hd0 : s.heap.objs.size = d at *
  refine wpAny_bind (wpAny_holding ?_)
  refine wpAny_bind (thn (he.run pins _ σ _ _ I1 (q _ hn)) fun u s2 ⟨x, H2, I2, ru, a, kvs, ex, had, hrd, hd2, hlen, q2⟩ => ?_)
  subst ex
  cases ru
  refine wpAny_bind (wpAny_standAt (wpAny_pure ?_))
  obtain ⟨z, hda, vs, rel, dd⟩ := dk_rd I2.hok hrd
  obtain ⟨z0, hdd, vs0, r0, dd0⟩ := dk_of I2.hok hd2
  cases r0
  have hno : (vs.map (·.1)).Nodup := by
    obtain ⟨_, _, _, _, _, _, _, _, hno⟩ := dd
    exact hno
  refine wpAny_bind (wpAny_onRaise (wpAny_tryCatch (wpAny_onRaise (wpAny_holding (merge_map (Ne.symm had) hda dd0 dd (fun h' dd' _ hs => ?_) (by rw [List.length_nil, ← rel.length]; omega))))))
  rw [merged_nil_of_nodup vs hno] at dd'
  have I3 : Inv X pins σ (upd H2 d (.dK kvs)) { s2 with heap := h' } := by
    have he' : ∃ q, h'.get? d = some q := let ⟨q, _, _, hq, _⟩ := dd'; ⟨q, hq⟩
    exact d_write I2 (by rw [hd2]; exact True.intro) hs he' (dk_new z hdd rel dd')
  have hn3 := I3.hok.fresh (Nat.le_refl _)
  have hbd : ({ s2 with heap := h' } : Shared).heap.objs.size ≠ d := by
    intro e
    rw [e, upd_same] at hn3
    cases hn3
  have I4 := I3.laid (a := h'.objs.size) (o := .dK []) (h' := h'.push { cls := .type "dict", data := .dict #[] }) (t' := s2.toks) (fun _ _ q => Heap.get?_push_of_some _ q) (Nat.le_refl _) (dk_empty h' I3.big)
  refine wpAny_bind (wpAny_holding ?_)
  refine wpAny_subDict (knd := mixKind X.prog X.w) (by simp) ?_
  show wpAny _ _ (evalPairs (pairTrees [some k] [v] X.env pos)) _ _ _
  refine pairTrees_cons_walk (thn (hk.run pins _ σ _ _ I4 (q2 _ hn3)) fun u s5 ⟨y, H5, I5, ry, q5⟩ => thn (hv.run pins _ σ _ _ I5 q5) fun u2 s6 ⟨y2, H6, I6, ry2, k0, ek, hd6, hb6, q6⟩ => pairTrees_nil_walk ?_)
  subst ek
  obtain ⟨z6, hd6', vs6, r6, dd6⟩ := dk_of I6.hok hd6
  obtain ⟨zb, hdb, vsb, rb, ddb⟩ := dk_of I6.hok hb6
  cases rb
  refine ⟨[(k0, u2)], ⟨kV_is ry, rfl, True.intro⟩, ddb, fun h7 ddb7 hs7 => ?_⟩
  have rk : KV [(k0, y2)] [(k0, u2)] := .cons ⟨rfl, ry2⟩ .nil
  have em : merged [] [(k0, u2)] = [(k0, u2)] := rfl
  rw [em] at ddb7
  have I7 : Inv X pins σ (upd H6 h'.objs.size (.dK [(k0, y2)])) { s6 with heap := h7, toks := s6.toks + 1 } := by
    have he' : ∃ q, h7.get? h'.objs.size = some q := let ⟨q, _, _, hq, _⟩ := ddb7; ⟨q, hq⟩
    exact d_write I6 (by rw [hb6]; exact True.intro) hs7 he' (dk_new (by rw [sizeLine_eq]; simp) hdb rk ddb7)
  have hdb7 : h7.DictOf (mixKind X.prog X.w) d vs6 := dd6.sameBut hs7 (Ne.symm hbd)
  have hz : vs6.length < sizeLine := by rw [← r6.length]; exact hlen
  refine wpAny_bind (wpAny_onRaise (wpAny_holding (merge_map (Ne.symm hbd) hdb hdb7 ddb7 (fun h8 dd8 _ hs8 => ?_) (by simp; omega))))
  have em2 : merged vs6 [(k0, u2)] = stored vs6 k0 u2 := rfl
  rw [em2] at dd8
  have hH7 : upd H6 h'.objs.size (.dK [(k0, y2)]) d = some (.dK kvs) := by rw [upd_ne (Ne.symm hbd)]; exact hd6
  have I8 : Inv X pins σ (upd (upd H6 h'.objs.size (.dK [(k0, y2)])) d (.dK (putK kvs k0 y2))) { s6 with heap := h8, toks := s6.toks + 1 } := by
    have he' : ∃ q, h8.get? d = some q := let ⟨q, _, _, hq, _⟩ := dd8; ⟨q, hq⟩
    have hl : (putK kvs k0 y2).length ≤ sizeLine := by have := length_putK kvs k0 y2; omega
    exact d_write (s := { s6 with heap := h7, toks := s6.toks + 1 }) I7 (by rw [hH7]; exact True.intro) hs8 he' (dk_new hl hd6' (r6.put k0 ry2) dd8)
  exact wpAny_pure ⟨.ref d, _, I8, rfl, q6⟩
end Qq

set_option maxHeartbeats 4000000
/-! Q5: expressions: what is said in short is what the text does. -/
namespace Qq
open PySem PySem.Spec PyProof.Rows L2

def RD (K : PySem.W.Frag) : Hp → Hp → List Addr → D → V → Prop := fun G _ m d v => RpD K G m d v
def RL (K : PySem.W.Frag) : Hp → Hp → List Addr → D → List V → Prop := fun G _ m d vs => ∃ ds, d = .l ds ∧ RpDs K G m ds vs
def RB : Hp → Hp → List Addr → D → Bool → Prop := fun _ _ _ d b => d = .t (.bl b)

section
variable (K : PySem.W.Frag) (W : WX) (cl : Nat → List D → Sto → R D) (pm : Nat → List D → List D → Option (List D))
def tE (c : C) : TE := fun σ H Q => ∃ B G m S r, Pre K B G m S H ∧ RelE K G m r σ ∧ Post K B W σ G m (RD K) Q (ev cl pm c r S)
def tA (c : C) : TA := fun σ H Q => ∃ B G m S r, Pre K B G m S H ∧ RelE K G m r σ ∧ Post K B W σ G m (RL K) Q (ev cl pm c r S)
def tT (c : C) : TT := fun σ H Q => ∃ B G m S r, Pre K B G m S H ∧ RelE K G m r σ ∧ Post K B W σ G m RB Q (ev cl pm c r S)
end

theorem PE.imp {X : Cx} {e : Expr} {t t' : TE} (h : PE X e t) (q : ∀ σ H Q, t' σ H Q → t σ H Q) : PE X e t' := ⟨fun pins s σ H Q I z => h.run pins s σ H Q I (q _ _ _ z)⟩
theorem PT.imp {X : Cx} {e : Expr} {t t' : TT} (h : PT X e t) (q : ∀ σ H Q, t' σ H Q → t σ H Q) : PT X e t' := ⟨fun pins s σ H Q I z => h.run pins s σ H Q I (q _ _ _ z)⟩
theorem PA.imp {X : Cx} {e : List Expr} {t t' : TA} (h : PA X e t) (q : ∀ σ H Q, t' σ H Q → t σ H Q) : PA X e t' := ⟨fun pos pins s σ H Q I z => h.run pos pins s σ H Q I (q _ _ _ z)⟩

theorem pre_rfl {α : Type} (m : List α) : m <+: m := ⟨[], List.append_nil m⟩

section
variable {K : PySem.W.Frag} {W : WX} {cl : Nat → List D → Sto → R D} {pm : Nat → List D → List D → Option (List D)} {B G H : Hp} {m : List Addr} {S : Sto} {r : Env} {σ : L2.St}
variable {α β : Type} {Rs : Hp → Hp → List Addr → α → β → Prop} {Q : β → Hp → Prop}
theorem stepE {c : C} {f : D → Sto → R α} (h : Pre K B G m S H) (e : RelE K G m r σ) (q : Post K B W σ G m Rs Q ((ev cl pm c r S).bind f)) :
    tE K W cl pm c σ H (fun v H1 => ∃ G1 m1 S1 d, m <+: m1 ∧ Fz G G1 ∧ Pre K B G1 m1 S1 H1 ∧ RelE K G1 m1 r σ ∧ RpD K G1 m1 d v ∧ Post K B W σ G1 m1 Rs Q (f d S1)) :=
  ⟨B, G, m, S, r, h, e, (q.bind (Rr := RD K)).mono fun v H1 ⟨G1, m1, S1, d, h1, h2, h3, h4, h5⟩ => ⟨G1, m1, S1, d, h1, h2, h3, e.mono h2 h1, h4, h5⟩⟩
theorem stepA {c : C} {f : D → Sto → R α} (h : Pre K B G m S H) (e : RelE K G m r σ) (q : Post K B W σ G m Rs Q ((ev cl pm c r S).bind f)) :
    tA K W cl pm c σ H (fun v H1 => ∃ G1 m1 S1 ds, m <+: m1 ∧ Fz G G1 ∧ Pre K B G1 m1 S1 H1 ∧ RelE K G1 m1 r σ ∧ RpDs K G1 m1 ds v ∧ Post K B W σ G1 m1 Rs Q (f (.l ds) S1)) :=
  ⟨B, G, m, S, r, h, e, (q.bind (Rr := RL K)).mono fun v H1 ⟨G1, m1, S1, d, h1, h2, h3, ⟨ds, h4, h6⟩, h5⟩ => by subst h4; exact ⟨G1, m1, S1, ds, h1, h2, h3, e.mono h2 h1, h6, h5⟩⟩
theorem stepT {c : C} {f : D → Sto → R α} (h : Pre K B G m S H) (e : RelE K G m r σ) (q : Post K B W σ G m Rs Q ((ev cl pm c r S).bind f)) :
    tT K W cl pm c σ H (fun b H1 => ∃ G1 m1 S1, m <+: m1 ∧ Fz G G1 ∧ Pre K B G1 m1 S1 H1 ∧ RelE K G1 m1 r σ ∧ Post K B W σ G1 m1 Rs Q (f (.t (.bl b)) S1)) :=
  ⟨B, G, m, S, r, h, e, (q.bind (Rr := RB)).mono fun v H1 ⟨G1, m1, S1, d, h1, h2, h3, h4, h5⟩ => by
    have h4 : d = .t (.bl v) := h4
    subst h4; exact ⟨G1, m1, S1, h1, h2, h3, e.mono h2 h1, h5⟩⟩
/-- a tree, at once -/
theorem Post.tree {Q : VK} {t : T} (q : Post K B W σ G m (RD K) Q (.ok (.t t) S)) (p : Pre K B G m S H) {v : V} {H' G' : Hp} (a : Al G H G' H') (h : Rp K G' v t) : Q v H' :=
  q v H' G' m (pre_rfl m) a.fz (a.pre p) (.t h)
theorem Post.treeB {Q : Bool → Hp → Prop} {b : Bool} (q : Post K B W σ G m RB Q (.ok (.t (.bl b)) S)) (p : Pre K B G m S H) : Q b H :=
  q b H G m (pre_rfl m) (Fz.refl G) p rfl
theorem own_lst {Q : VK} {fr : Bool} {ds : List T} {xs : List V} (p : Pre K B G m S H) (q : Post K B W σ G m (RD K) Q (own fr (.lst ds) S)) (h : RpL K G xs ds) : ∀ a, H a = none → Q (.ref a) (upd H a (.lst xs)) := fun a ha => by
  cases fr with
  | false =>
    have al : Al G H (upd G a (.lst xs)) (upd H a (.lst xs)) := Al.lay p.fz ha fun ob u z => by cases z
    exact Post.tree q p al (.lst (.inl upd_same) (h.mono al.fz))
  | true =>
    refine q (.ref a) _ G (m ++ [a]) ⟨[a], rfl⟩ (Fz.refl G) (p.own ha (.lst h)) (.o ?_)
    rw [← p.len, List.getElem?_append_right (Nat.le_refl _), Nat.sub_self]; rfl
theorem own_dct {Q : VK} {fr tk : Bool} (p : Pre K B G m S H) (q : Post K B W σ G m (RD K) Q (own fr (if tk then .dT [] else .dK []) S)) : ∀ a, H a = none → Q (.ref a) (upd H a (if tk then .dT [] else .dK [])) := fun a ha => by
  have hz : ∀ ob u, (if tk = true then HO.dT [] else HO.dK []) ≠ .frz ob u := fun ob u z => by cases tk <;> cases z
  cases fr with
  | false =>
    have al : Al G H (upd G a (if tk then .dT [] else .dK [])) (upd H a (if tk then .dT [] else .dK [])) := Al.lay p.fz ha hz
    refine Post.tree q p al ?_
    cases tk with
    | false => exact .dK (.inl upd_same) .nil
    | true => exact .dT (.inl upd_same) .nil
  | true =>
    cases tk with
    | false =>
      refine q (.ref a) _ G (m ++ [a]) ⟨[a], rfl⟩ (Fz.refl G) (p.own ha (.dK .nil)) (.o ?_)
      rw [← p.len, List.getElem?_append_right (Nat.le_refl _), Nat.sub_self]; rfl
    | true =>
      refine q (.ref a) _ G (m ++ [a]) ⟨[a], rfl⟩ (Fz.refl G) (p.own ha (.dT .nil)) (.o ?_)
      rw [← p.len, List.getElem?_append_right (Nat.le_refl _), Nat.sub_self]; rfl
theorem RpDs.vw (p : Pre K B G m S H) : ∀ {ds : List D} {vs : List V} {ts : List T}, RpDs K G m ds vs → rdL S ds = some ts → VwL K G H vs ts
  | [], _, _, h, e => by cases h; cases e; exact .nil
  | d :: r, _, _, h, e => by
    cases h with
    | cons h1 h2 =>
      unfold rdL at e
      cases e1 : rd S d with
      | none => rw [e1] at e; cases e
      | some t =>
        cases e2 : rdL S r with
        | none => rw [e1, e2] at e; cases e
        | some ts => rw [e1, e2] at e; cases e; exact .cons (rd_ok p h1 e1) (RpDs.vw p h2 e2)
theorem RpDs.tr : ∀ {ds : List D} {vs : List V} {ts : List T}, RpDs K G m ds vs → trL ds = some ts → RpL K G vs ts
  | [], _, _, h, e => by cases h; cases e; exact .nil
  | d :: r, _, _, h, e => by
    cases h with
    | cons h1 h2 =>
      cases h1 with
      | t h1 =>
        unfold trL at e
        obtain ⟨ts, e2, rfl⟩ := Option.map_eq_some_iff.mp e
        exact .cons h1 (RpDs.tr h2 e2)
      | o h1 => cases e
theorem Post.optB {γ : Type} {o : Option γ} {f : γ → Sto → R α} (q : Post K B W σ G m Rs Q ((R.opt o S).bind f)) : ∃ t, o = some t ∧ Post K B W σ G m Rs Q (f t S) := by
  cases o with
  | none => exact q.elim
  | some t => exact ⟨t, rfl, q⟩
theorem tE_mono {c : C} {Q Q' : VK} (h : tE K W cl pm c σ H Q) (hq : ∀ v H', Q v H' → Q' v H') : tE K W cl pm c σ H Q' :=
  let ⟨B, G, m, S, r, h1, h2, h3⟩ := h; ⟨B, G, m, S, r, h1, h2, h3.mono hq⟩
theorem tA_mono {c : C} {Q Q' : List V → Hp → Prop} (h : tA K W cl pm c σ H Q) (hq : ∀ v H', Q v H' → Q' v H') : tA K W cl pm c σ H Q' :=
  let ⟨B, G, m, S, r, h1, h2, h3⟩ := h; ⟨B, G, m, S, r, h1, h2, h3.mono hq⟩
theorem tT_mono {c : C} {Q Q' : Bool → Hp → Prop} (h : tT K W cl pm c σ H Q) (hq : ∀ v H', Q v H' → Q' v H') : tT K W cl pm c σ H Q' :=
  let ⟨B, G, m, S, r, h1, h2, h3⟩ := h; ⟨B, G, m, S, r, h1, h2, h3.mono hq⟩
theorem Post.opt1' {o : Option α} (q : Post K B W σ G m Rs Q (R.opt o S)) : ∃ t, o = some t ∧ Post K B W σ G m Rs Q (.ok t S) := by
  cases o with
  | none => exact q.elim
  | some t => exact ⟨t, rfl, q⟩
theorem Post.opt1 {o : Option α} (q : Post K B W σ G m Rs Q (R.opt o S)) : ∃ t, o = some t ∧ Post K B W σ G m Rs Q (.ok t S) := by
  cases o with
  | none => exact q.elim
  | some t => exact ⟨t, rfl, q⟩
theorem bool_inv {d : D} {b : Bool} (h : d.bool = some b) : d = .t (.bl b) := by
  unfold D.bool at h
  split at h
  · cases h; rfl
  · cases h
theorem bl_inv {G' : Hp} {m' : List Addr} {v : V} {b : Bool} (h : RpD K G' m' (.t (.bl b)) v) : v = .bl b := by
  cases h with | t h => cases h; rfl
end

/-! ### expression by expression -/
theorem see_ok {K : PySem.W.Frag} {B G H : Hp} {m : List Addr} {S : Sto} (p : Pre K B G m S H) {d : D} {v : V} (h : RpD K G m d v) : RpD K G m (see S d) v := by
  cases h with
  | t h => exact .t h
  | o h =>
    rename_i i a
    show RpD K G m (match S[i]? with
      | some (.gon t) => .t t
      | _ => .o i) (.ref a)
    split
    · rename_i t0 hs
      rcases p.cells _ _ _ hs h with ⟨_, o, _, q⟩ | ⟨⟨t, e, r⟩, _⟩
      · cases q
      · cases e; exact .t r
    · exact .o h
section
variable {X : Cx} {W : WX} {cl : Nat → List D → Sto → R D} {pm : Nat → List D → List D → Option (List D)} {pos : Pos} {e1 e2 e3 : Expr} {a b c : C}
theorem qe_frz {e : Expr} (ha : PE X e (tE X.K W cl pm a)) : PE X e (tE X.K W cl pm (.frz a)) := by
  refine PE.imp ha ?_
  rintro σ H Q ⟨B, G, m, S, r, hP, hE, q⟩
  refine tE_mono (stepE hP hE q) ?_
  rintro v H1 ⟨G1, m1, S1, d, i1, f1, P1, E1, r1, q1⟩
  cases r1 with
  | t r1 => exact Post.tree q1 P1 (Al.refl P1.fz) r1
  | o h =>
    rename_i i ad
    have key : ∀ (c : Cl) (t : T) (o : HO), S1[i]? = some c → (∀ c0, c ≠ .lck c0) → c.gonB = false → H1 ad = some o → (∀ ob u, o ≠ .frz ob u) → (∀ G', Fz G1 G' → G' ad = some o → Rp X.K G' (.ref ad) t) → Post X.K B W σ G1 m1 (RD X.K) Q (.ok (.t t) (S1.set i (.gon t))) → Q (.ref ad) H1 := by
      intro c t o hc h1 h2 ho hz hr q
      obtain ⟨f2, P2⟩ := P1.gone (t := t) hc ⟨h1, h2⟩ h ho hz hr
      exact q _ H1 _ m1 (pre_rfl m1) f2 P2 (.t (hr _ f2 upd_same))
    have q2 : Post X.K B W σ G1 m1 (RD X.K) Q (match S1[i]? with
      | some (.lst xs) => .ok (.t (.lst xs)) (S1.set i (.gon (.lst xs)))
      | some (.dK xs) => .ok (.t (.dK xs)) (S1.set i (.gon (.dK xs)))
      | some (.dT xs) => .ok (.t (.dT xs)) (S1.set i (.gon (.dT xs)))
      | some (.gon t) => .ok (.t t) S1
      | _ => .bad) := q1
    split at q2
    · rename_i xs hs
      obtain ⟨_, o, ho, hok⟩ := (P1.cells _ _ _ hs h).live rfl
      cases hok with
      | lst hr => exact key _ _ _ hs (fun _ z => by cases z) rfl ho (fun _ _ z => by cases z) (fun G' f hG => .lst (.inl hG) (hr.mono f)) q2
    · rename_i xs hs
      obtain ⟨_, o, ho, hok⟩ := (P1.cells _ _ _ hs h).live rfl
      cases hok with
      | dK hr => exact key _ _ _ hs (fun _ z => by cases z) rfl ho (fun _ _ z => by cases z) (fun G' f hG => .dK (.inl hG) (hr.mono f)) q2
    · rename_i xs hs
      obtain ⟨_, o, ho, hok⟩ := (P1.cells _ _ _ hs h).live rfl
      cases hok with
      | dT hr => exact key _ _ _ hs (fun _ z => by cases z) rfl ho (fun _ _ z => by cases z) (fun G' f hG => .dT (.inl hG) (hr.mono f)) q2
    · rename_i t hs
      rcases P1.cells _ _ _ hs h with ⟨_, o, _, z⟩ | ⟨⟨t', e, rr⟩, _⟩
      · cases z
      · cases e; exact Post.tree q2 P1 (Al.refl P1.fz) rr
    · exact q2.elim
theorem qe_var {i : Nat} {x : Str} (hN : X.N[i]? = some x) (hv : Vis X.env.scope x) (hd : (x == ("__debug__" : Str)) = false) (hcd : (x == ("__classdict__" : Str)) = false) : PE X (.Name x pos) (tE X.K W cl pm (.var i)) := by
  refine PE.imp (pe_var (i := i) hN hv hd hcd) ?_
  rintro σ H Q ⟨B, G, m, S, r, hP, hE, q⟩
  simp only [ev] at q
  cases hi : r[i]? with
  | none => rw [hi] at q; exact q.elim
  | some o =>
    cases o with
    | none => rw [hi] at q; exact q.elim
    | some d =>
      rw [hi] at q
      obtain ⟨v, h1, h2⟩ := hE.at_ i d hi
      exact ⟨v, h1, q v H G m (pre_rfl m) (Fz.refl G) hP (see_ok hP h2)⟩
theorem qe_cst {e : Expr} {t : T} {v : V} (h : PE X e (tC v)) (hr : ∀ G, Rp X.K G v t) : PE X e (tE X.K W cl pm (.cst t)) := by
  refine PE.imp h ?_
  rintro σ H Q ⟨B, G, m, S, r, hP, hE, q⟩
  exact Post.tree q hP (Al.refl hP.fz) (hr G)
theorem qe_bin {op : Operator} (ha : PE X e1 (tE X.K W cl pm a)) (hb : PE X e2 (tE X.K W cl pm b)) : PE X (.BinOp e1 op e2 pos) (tE X.K W cl pm (.bin false op a b)) := by
  refine PE.imp (pe_op (op_bin op) ha hb) ?_
  rintro σ H Q ⟨B, G, m, S, r, hP, hE, q⟩
  refine tE_mono (stepE hP hE q) ?_
  rintro v H1 ⟨G1, m1, S1, d, i1, f1, P1, E1, r1, q1⟩
  refine tE_mono (stepE P1 E1 q1) ?_
  rintro v2 H2 ⟨G2, m2, S2, d2, i2, f2, P2, E2, r2, q2⟩
  obtain ⟨t, ht, q3⟩ := q2.optB
  split at ht
  · rename_i x y e1 e2
    exact ⟨G2, x, y, t, P2.fz, rd_ok P2 (r1.mono f2 i2) e1, rd_ok P2 r2 e2, ht, fun v' H' G' al rp => Post.tree q3 P2 al rp⟩
  · cases ht
/-- a new list by + -/
theorem qe_binF (ha : PE X e1 (tE X.K W cl pm a)) (hb : PE X e2 (tE X.K W cl pm b)) : PE X (.BinOp e1 .Add e2 pos) (tE X.K W cl pm (.bin true .Add a b)) := by
  refine PE.imp (pe_op op_catG ha hb) ?_
  rintro σ H Q ⟨B, G, m, S, r, hP, hE, q⟩
  refine tE_mono (stepE hP hE q) ?_
  rintro v H1 ⟨G1, m1, S1, d, i1, f1, P1, E1, r1, q1⟩
  refine tE_mono (stepE P1 E1 q1) ?_
  rintro v2 H2 ⟨G2, m2, S2, d2, i2, f2, P2, E2, r2, q2⟩
  obtain ⟨t, ht, q3⟩ := q2.optB
  split at ht
  · rename_i x y e1 e2
    have hx := rd_ok P2 (r1.mono f2 i2) e1
    have hy := rd_ok P2 r2 e2
    unfold binT at ht
    split at ht <;> rename_i hop <;> first | cases hop | skip
    · cases ht; exact q3.elim
    · split at ht
      · cases ht; exact q3.elim
      · cases ht
    · split at ht
      · rename_i hl
        cases ht
        obtain ⟨a1, xs, rfl, h1, h2⟩ := hx.lst_inv P2.fz
        obtain ⟨b1, ys, rfl, h3, h4⟩ := hy.lst_inv P2.fz
        exact ⟨a1, b1, xs, ys, rfl, rfl, h1, h3, by rw [← line_eq, h2.length, h4.length]; exact hl, own_lst P2 q3 (h2.append h4)⟩
      · cases ht
    · split at ht
      · cases ht; exact q3.elim
      · cases ht
    · cases ht
  · cases ht
theorem qe_neg (ha : PE X e1 (tE X.K W cl pm a)) : PE X (.UnaryOp .USub e1 pos) (tE X.K W cl pm (.neg a)) := by
  refine PE.imp (pe_un un_neg ha) ?_
  rintro σ H Q ⟨B, G, m, S, r, hP, hE, q⟩
  refine tE_mono (stepE hP hE q) ?_
  rintro v H1 ⟨G1, m1, S1, d, i1, f1, P1, E1, r1, q1⟩
  obtain ⟨t, ht, q3⟩ := q1.opt1
  split at ht
  · rename_i i e1
    cases ht
    cases (rd_ok P1 r1 e1).int_inv
    exact ⟨_, rfl, Post.tree q3 P1 (Al.refl P1.fz) (.int _)⟩
  · cases ht
theorem qe_cmp (hu : X.A.units + 65 < cLine) {op : CmpOp} (ha : PE X e1 (tE X.K W cl pm a)) (hb : PE X e2 (tE X.K W cl pm b)) (hm : behindInMarks op e2 = false) : PE X (.Compare e1 [op] [e2] pos) (tE X.K W cl pm (.cmp op a b)) := by
  refine PE.imp (pe_cmpR (op_cmp hu op) ha hb hm) ?_
  rintro σ H Q ⟨B, G, m, S, r, hP, hE, q⟩
  refine tE_mono (stepE hP hE q) ?_
  rintro v H1 ⟨G1, m1, S1, d, i1, f1, P1, E1, r1, q1⟩
  refine tE_mono (stepE P1 E1 q1) ?_
  rintro v2 H2 ⟨G2, m2, S2, d2, i2, f2, P2, E2, r2, q2⟩
  obtain ⟨t, ht, q3⟩ := q2.opt1
  split at ht
  · rename_i x y e1 e2
    obtain ⟨k, hk, rfl⟩ := Option.map_eq_some_iff.mp ht
    exact ⟨G2, x, y, k, P2.fz, rd_ok P2 (r1.mono f2 i2) e1, rd_ok P2 r2 e2, hk, Post.tree q3 P2 (Al.refl P2.fz) (.bl _)⟩
  · cases ht
theorem qe_chn (hu : X.A.units + 65 < cLine) {op op2 : CmpOp} (ha : PE X e1 (tE X.K W cl pm a)) (hb : PE X e2 (tE X.K W cl pm b)) (hc : PE X e3 (tE X.K W cl pm c)) (hm : behindInMarks op e2 = false) (hm2 : behindInMarks op2 e3 = false) :
    PE X (.Compare e1 [op, op2] [e2, e3] pos) (tE X.K W cl pm (.chn op op2 a b c)) := by
  refine PE.imp (pe_chain (op_cmp hu op) (op_cmp hu op2) ha hb hc (show lastMarks [op, op2] [e2, e3] = false from hm2)) ?_
  rintro σ H Q ⟨B, G, m, S, r, hP, hE, q⟩
  refine tE_mono (stepE hP hE q) ?_
  rintro v H1 ⟨G1, m1, S1, d, i1, f1, P1, E1, r1, q1⟩
  refine tE_mono (stepE P1 E1 q1) ?_
  rintro v2 H2 ⟨G2, m2, S2, d2, i2, f2, P2, E2, r2, q2⟩
  obtain ⟨t, ht, q3⟩ := q2.optB
  split at ht
  · rename_i x y e1 e2
    refine ⟨G2, x, y, t, P2.fz, rd_ok P2 (r1.mono f2 i2) e1, rd_ok P2 r2 e2, ht, t, rfl, ?_⟩
    cases t with
    | false =>
      refine iteF ?_
      exact Post.tree q3 P2 (Al.refl P2.fz) (.bl _)
    | true =>
      refine iteT ?_
      refine tE_mono (stepE P2 E2 q3) ?_
      rintro v3 H3 ⟨G3, m3, S3, d3, i3, f3, P3, E3, r3, q4⟩
      obtain ⟨t2, ht2, q5⟩ := q4.opt1
      split at ht2
      · rename_i x2 y2 e3 e4
        obtain ⟨k, hk, rfl⟩ := Option.map_eq_some_iff.mp ht2
        exact ⟨G3, x2, y2, k, P3.fz, rd_ok P3 (r2.mono f3 i3) e3, rd_ok P3 r3 e4, hk, Post.tree q5 P3 (Al.refl P3.fz) (.bl _)⟩
      · cases ht2
  · cases ht
theorem qe_and {rest : List Expr} (ha : PE X e1 (tE X.K W cl pm a)) (hb : PE X (.BoolOp .And (e2 :: rest) pos) (tE X.K W cl pm b)) : PE X (.BoolOp .And (e1 :: e2 :: rest) pos) (tE X.K W cl pm (.andV a b)) := by
  refine PE.imp (pe_andT ha hb) ?_
  rintro σ H Q ⟨B, G, m, S, r, hP, hE, q⟩
  refine tE_mono (stepE hP hE q) ?_
  rintro v H1 ⟨G1, m1, S1, d, i1, f1, P1, E1, r1, q1⟩
  obtain ⟨k, hk, q2⟩ := q1.optB
  obtain ⟨t, e1, e2⟩ := Option.bind_eq_some_iff.mp hk
  refine ⟨k, tru_T P1.fz (rd_ok P1 r1 e1) e2, ?_⟩
  cases k with
  | false => exact iteF (q2 v H1 G1 m1 (pre_rfl m1) (Fz.refl G1) P1 r1)
  | true => exact iteT ⟨B, G1, m1, S1, r, P1, E1, q2⟩
theorem qe_or {rest : List Expr} (ha : PE X e1 (tE X.K W cl pm a)) (hb : PE X (.BoolOp .Or (e2 :: rest) pos) (tE X.K W cl pm b)) : PE X (.BoolOp .Or (e1 :: e2 :: rest) pos) (tE X.K W cl pm (.orV a b)) := by
  refine PE.imp (pe_orT ha hb) ?_
  rintro σ H Q ⟨B, G, m, S, r, hP, hE, q⟩
  refine tE_mono (stepE hP hE q) ?_
  rintro v H1 ⟨G1, m1, S1, d, i1, f1, P1, E1, r1, q1⟩
  obtain ⟨k, hk, q2⟩ := q1.optB
  obtain ⟨t, e1, e2⟩ := Option.bind_eq_some_iff.mp hk
  refine ⟨k, tru_T P1.fz (rd_ok P1 r1 e1) e2, ?_⟩
  cases k with
  | true => exact iteT (q2 v H1 G1 m1 (pre_rfl m1) (Fz.refl G1) P1 r1)
  | false => exact iteF ⟨B, G1, m1, S1, r, P1, E1, q2⟩
theorem qe_one {op} (ha : PE X e1 (tE X.K W cl pm a)) : PE X (.BoolOp op [e1] pos) (tE X.K W cl pm a) := pe_one ha
theorem qe_not (ha : PE X e1 (tE X.K W cl pm a)) : PE X (.UnaryOp .Not e1 pos) (tE X.K W cl pm (.notV a)) := by
  refine PE.imp (pe_notT ha) ?_
  rintro σ H Q ⟨B, G, m, S, r, hP, hE, q⟩
  refine tE_mono (stepE hP hE q) ?_
  rintro v H1 ⟨G1, m1, S1, d, i1, f1, P1, E1, r1, q1⟩
  obtain ⟨t, ht, q2⟩ := q1.opt1
  obtain ⟨k, hk, rfl⟩ := Option.map_eq_some_iff.mp ht
  obtain ⟨t', e1, e2⟩ := Option.bind_eq_some_iff.mp hk
  exact ⟨k, tru_T P1.fz (rd_ok P1 r1 e1) e2, Post.tree q2 P1 (Al.refl P1.fz) (.bl _)⟩
theorem qe_ife (hc : PT X e3 (tT X.K W cl pm c)) (ha : PE X e1 (tE X.K W cl pm a)) (hb : PE X e2 (tE X.K W cl pm b)) : PE X (.IfExp e3 e1 e2 pos) (tE X.K W cl pm (.ife c a b)) := by
  refine PE.imp (pe_ifExp hc ha hb) ?_
  rintro σ H Q ⟨B, G, m, S, r, hP, hE, q⟩
  refine tT_mono (stepT hP hE q) ?_
  rintro k H1 ⟨G1, m1, S1, i1, f1, P1, E1, q1⟩
  cases k with
  | true => exact iteT ⟨B, G1, m1, S1, r, P1, E1, q1⟩
  | false => exact iteF ⟨B, G1, m1, S1, r, P1, E1, q1⟩

/-! ### tests -/
/-- by its value's truth -/
theorem qt_tru (ha : PE X e1 (tE X.K W cl pm a)) (he : ∀ whole, isTrue e1 X.env whole = (do let v ← whole; standAt e1.pos; holding [v] (truthy v))) : PT X e1 (tT X.K W cl pm (.tru a)) := by
  refine PT.imp (pt_truth ha he) ?_
  rintro σ H Q ⟨B, G, m, S, r, hP, hE, q⟩
  refine tE_mono (stepE hP hE q) ?_
  rintro v H1 ⟨G1, m1, S1, d, i1, f1, P1, E1, r1, q1⟩
  obtain ⟨t, ht, q2⟩ := q1.opt1
  obtain ⟨k, hk, rfl⟩ := Option.map_eq_some_iff.mp ht
  obtain ⟨t', e1, e2⟩ := Option.bind_eq_some_iff.mp hk
  exact ⟨k, tru_T P1.fz (rd_ok P1 r1 e1) e2, Post.treeB q2 P1⟩
theorem qt_cmp (hu : X.A.units + 65 < cLine) {op : CmpOp} (ha : PE X e1 (tE X.K W cl pm a)) (hb : PE X e2 (tE X.K W cl pm b)) (hm : behindInMarks op e2 = false) : PT X (.Compare e1 [op] [e2] pos) (tT X.K W cl pm (.cmp op a b)) := by
  refine PT.imp (pt_cmpR (op_cmp hu op) ha hb hm) ?_
  rintro σ H Q ⟨B, G, m, S, r, hP, hE, q⟩
  refine tE_mono (stepE hP hE q) ?_
  rintro v H1 ⟨G1, m1, S1, d, i1, f1, P1, E1, r1, q1⟩
  refine tE_mono (stepE P1 E1 q1) ?_
  rintro v2 H2 ⟨G2, m2, S2, d2, i2, f2, P2, E2, r2, q2⟩
  obtain ⟨t, ht, q3⟩ := q2.opt1
  split at ht
  · rename_i x y e1 e2
    obtain ⟨k, hk, rfl⟩ := Option.map_eq_some_iff.mp ht
    exact ⟨G2, x, y, k, P2.fz, rd_ok P2 (r1.mono f2 i2) e1, rd_ok P2 r2 e2, hk, k, rfl, Post.treeB q3 P2⟩
  · cases ht
theorem qt_chn (hu : X.A.units + 65 < cLine) {op op2 : CmpOp} (ha : PE X e1 (tE X.K W cl pm a)) (hb : PE X e2 (tE X.K W cl pm b)) (hc : PE X e3 (tE X.K W cl pm c)) (hm : behindInMarks op e2 = false) (hm2 : behindInMarks op2 e3 = false) :
    PT X (.Compare e1 [op, op2] [e2, e3] pos) (tT X.K W cl pm (.chn op op2 a b c)) := by
  refine PT.imp (pt_chain (op_cmp hu op) (op_cmp hu op2) ha hb hc (show lastMarks [op, op2] [e2, e3] = false from hm2)) ?_
  rintro σ H Q ⟨B, G, m, S, r, hP, hE, q⟩
  refine tE_mono (stepE hP hE q) ?_
  rintro v H1 ⟨G1, m1, S1, d, i1, f1, P1, E1, r1, q1⟩
  refine tE_mono (stepE P1 E1 q1) ?_
  rintro v2 H2 ⟨G2, m2, S2, d2, i2, f2, P2, E2, r2, q2⟩
  obtain ⟨t, ht, q3⟩ := q2.optB
  split at ht
  · rename_i x y e1 e2
    refine ⟨G2, x, y, t, P2.fz, rd_ok P2 (r1.mono f2 i2) e1, rd_ok P2 r2 e2, ht, t, rfl, ?_⟩
    cases t with
    | false =>
      refine iteF ?_
      exact ⟨false, rfl, Post.treeB q3 P2⟩
    | true =>
      refine iteT ?_
      refine tE_mono (stepE P2 E2 q3) ?_
      rintro v3 H3 ⟨G3, m3, S3, d3, i3, f3, P3, E3, r3, q4⟩
      obtain ⟨t2, ht2, q5⟩ := q4.opt1
      split at ht2
      · rename_i x2 y2 e3 e4
        obtain ⟨k, hk, rfl⟩ := Option.map_eq_some_iff.mp ht2
        exact ⟨G3, x2, y2, k, P3.fz, rd_ok P3 (r2.mono f3 i3) e3, rd_ok P3 r3 e4, hk, k, rfl, Post.treeB q5 P3⟩
      · cases ht2
  · cases ht
theorem PW.imp {e : Expr} {t t' : TT} (h : PW X e t) (q : ∀ σ H Q, t' σ H Q → t σ H Q) : PW X e t' := ⟨fun wh pins s σ H Q I z => h.run wh pins s σ H Q I (q _ _ _ z)⟩
theorem qw_and1 (ha : PT X e1 (tT X.K W cl pm a)) : PW X (.BoolOp .And [e1] pos) (tT X.K W cl pm a) := pw_and1 ha
theorem qw_or1 (ha : PT X e1 (tT X.K W cl pm a)) : PW X (.BoolOp .Or [e1] pos) (tT X.K W cl pm a) := pw_or1 ha
theorem qw_and {rest : List Expr} (ha : PT X e1 (tT X.K W cl pm a)) (hb : PW X (.BoolOp .And (e2 :: rest) pos) (tT X.K W cl pm b)) : PW X (.BoolOp .And (e1 :: e2 :: rest) pos) (tT X.K W cl pm (.andV a b)) := by
  refine PW.imp (pw_and ha hb) ?_
  rintro σ H Q ⟨B, G, m, S, r, hP, hE, q⟩
  refine tT_mono (stepT hP hE q) ?_
  rintro k H1 ⟨G1, m1, S1, i1, f1, P1, E1, q1⟩
  cases k with
  | true => exact iteT ⟨B, G1, m1, S1, r, P1, E1, q1⟩
  | false => exact iteF (Post.treeB q1 P1)
theorem qw_or {rest : List Expr} (ha : PT X e1 (tT X.K W cl pm a)) (hb : PW X (.BoolOp .Or (e2 :: rest) pos) (tT X.K W cl pm b)) : PW X (.BoolOp .Or (e1 :: e2 :: rest) pos) (tT X.K W cl pm (.orV a b)) := by
  refine PW.imp (pw_or ha hb) ?_
  rintro σ H Q ⟨B, G, m, S, r, hP, hE, q⟩
  refine tT_mono (stepT hP hE q) ?_
  rintro k H1 ⟨G1, m1, S1, i1, f1, P1, E1, q1⟩
  cases k with
  | false => exact iteF ⟨B, G1, m1, S1, r, P1, E1, q1⟩
  | true => exact iteT (Post.treeB q1 P1)
theorem qt_not (ha : PT X e1 (tT X.K W cl pm a)) : PT X (.UnaryOp .Not e1 pos) (tT X.K W cl pm (.notV a)) := by
  refine PT.imp (pt_not ha) ?_
  rintro σ H Q ⟨B, G, m, S, r, hP, hE, q⟩
  refine tT_mono (stepT hP hE q) ?_
  rintro k H1 ⟨G1, m1, S1, i1, f1, P1, E1, q1⟩
  exact Post.treeB q1 P1

/-! ### arguments, displays -/
theorem qa_nil : PA X [] (tA X.K W cl pm .nil) := by
  refine PA.imp pa_nil ?_
  rintro σ H Q ⟨B, G, m, S, r, hP, hE, q⟩
  exact q [] H G m (pre_rfl m) (Fz.refl G) hP ⟨[], rfl, .nil⟩
theorem qa_cons {es : List Expr} (ha : PE X e1 (tE X.K W cl pm a)) (hb : PA X es (tA X.K W cl pm b)) (hs : starEach (e1 :: es) X.env = (false, eval e1 X.env) :: starEach es X.env) : PA X (e1 :: es) (tA X.K W cl pm (.cons a b)) := by
  refine PA.imp (pa_cons ha hb hs) ?_
  rintro σ H Q ⟨B, G, m, S, r, hP, hE, q⟩
  refine tE_mono (stepE hP hE q) ?_
  rintro v H1 ⟨G1, m1, S1, d, i1, f1, P1, E1, r1, q1⟩
  refine tA_mono (stepA P1 E1 q1) ?_
  rintro vs H2 ⟨G2, m2, S2, ds, i2, f2, P2, E2, r2, q2⟩
  exact q2 (v :: vs) H2 G2 m2 (pre_rfl m2) (Fz.refl G2) P2 ⟨d :: ds, rfl, .cons (r1.mono f2 i2) r2⟩
theorem qe_tup {es : List Expr} {k : Nat} (ha : PA X es (tA X.K W cl pm a)) : PE X (.Tuple es k pos) (tE X.K W cl pm (.tup a)) := by
  refine PE.imp (pe_tup ha) ?_
  rintro σ H Q ⟨B, G, m, S, r, hP, hE, q⟩
  refine tA_mono (stepA hP hE q) ?_
  rintro vs H1 ⟨G1, m1, S1, ds, i1, f1, P1, E1, r1, q1⟩
  obtain ⟨t, ht, q2⟩ := q1.opt1
  cases e1 : trL ds with
  | none =>
    have ht : (match trL ds with
      | some ts => if ts.length ≤ line then some (D.t (.tup ts)) else none
      | none => none) = some t := ht
    rw [e1] at ht; cases ht
  | some ts =>
    have ht : (match trL ds with
      | some ts => if ts.length ≤ line then some (D.t (.tup ts)) else none
      | none => none) = some t := ht
    rw [e1] at ht
    simp only at ht
    split at ht
    · rename_i hl
      cases ht
      have rl := r1.tr e1
      refine ⟨by rw [← line_eq, rl.length]; exact hl, fun p hp => ?_⟩
      have al : Al G1 H1 (upd G1 p (.tup vs)) (upd H1 p (.tup vs)) := Al.lay P1.fz hp fun ob u z => by cases z
      exact Post.tree q2 P1 al (.tup upd_same (rl.mono al.fz))
    · cases ht
theorem qe_lst {fr : Bool} {es : List Expr} (ha : PA X es (tA X.K W cl pm a)) : PE X (.List es pos) (tE X.K W cl pm (.lst fr a)) := by
  refine PE.imp (pe_lst ha) ?_
  rintro σ H Q ⟨B, G, m, S, r, hP, hE, q⟩
  refine tA_mono (stepA hP hE q) ?_
  rintro vs H1 ⟨G1, m1, S1, ds, i1, f1, P1, E1, r1, q1⟩
  obtain ⟨t, ht, q2⟩ := q1.optB
  have ht : (match trL ds with
    | some ts => if ts.length ≤ line then some ts else none
    | none => none) = some t := ht
  cases e1 : trL ds with
  | none => rw [e1] at ht; cases ht
  | some ts =>
    rw [e1] at ht
    simp only at ht
    split at ht
    · rename_i hl
      cases ht
      have rl := r1.tr e1
      exact ⟨by rw [← line_eq, rl.length]; exact hl, own_lst P1 q2 rl⟩
    · cases ht
theorem qe_dct {fr tk : Bool} : PE X (.Dict [] [] pos) (tE X.K W cl pm (.dct fr tk)) := by
  cases tk with
  | false =>
    refine PE.imp pe_dnewK ?_
    rintro σ H Q ⟨B, G, m, S, r, hP, hE, q⟩
    exact own_dct (tk := false) hP q
  | true =>
    refine PE.imp pe_dnewT ?_
    rintro σ H Q ⟨B, G, m, S, r, hP, hE, q⟩
    exact own_dct (tk := true) hP q
theorem RpL.toDs {K : PySem.W.Frag} {G : Hp} {m : List Addr} {es : List D} {ws : List V} (q : RpDs K G m es ws) : ∀ {vs : List V} {ds : List T}, RpL K G vs ds → RpDs K G m (ds.map D.t ++ es) (vs ++ ws)
  | _, _, .nil => q
  | _, _, .cons h t => .cons (.t h) (RpL.toDs q t)
/-- a starred part -/
theorem qa_spl {p : Pos} {es : List Expr} (ha : PE X e1 (tE X.K W cl pm a)) (hb : PA X es (tA X.K W cl pm b)) : PA X (.Starred e1 p :: es) (tA X.K W cl pm (.spl a b)) := by
  refine PA.imp (StX.pa_star ha hb rfl) ?_
  rintro σ H Q ⟨B, G, m, S, r, hP, hE, q⟩
  refine tE_mono (stepE hP hE q) ?_
  rintro x H1 ⟨G1, m1, S1, d, i1, f1, P1, E1, r1, q1⟩
  obtain ⟨ds, hds, q2⟩ := q1.optB
  obtain ⟨t, ht, hi⟩ := Option.bind_eq_some_iff.mp hds
  have vw := rd_ok P1 r1 ht
  have key : ∃ a xs, x = .ref a ∧ (SqT X.K H1 a xs ∨ SqL X.K H1 a xs) ∧ RpL X.K G1 xs ds := by
    unfold T.its at hi
    split at hi
    · cases hi
      obtain ⟨a, xs, rfl, h2, h3⟩ := vw.lst_inv P1.fz
      exact ⟨a, xs, rfl, .inr (.inl h2), h3⟩
    · cases hi
      obtain ⟨a, xs, rfl, h2, h3⟩ := vw.tup_inv P1.fz
      exact ⟨a, xs, rfl, .inl (SqT.of h2), h3⟩
    · cases hi
  obtain ⟨a, xs, rfl, hsq, hr⟩ := key
  refine ⟨a, xs, rfl, hsq, tA_mono (stepA P1 E1 q2) ?_⟩
  rintro vs H2 ⟨G2, m2, S2, es2, i2, f2, P2, E2, r2, q3⟩
  obtain ⟨y, hy, q4⟩ := q3.opt1
  have hy : some (D.l (ds.map D.t ++ es2)) = some y := hy
  cases hy
  refine q4 (xs ++ vs) H2 G2 m2 (pre_rfl m2) (Fz.refl G2) P2 ⟨_, rfl, ?_⟩
  exact RpL.toDs r2 (hr.mono f2)
/-! ### {**a, k: v} -/
theorem Post.bindB {K : PySem.W.Frag} {B B' G : Hp} {W : WX} {σ : L2.St} {m : List Addr} {α β α' β' : Type} {Rr : Hp → Hp → List Addr → α → β → Prop} {Rs : Hp → Hp → List Addr → α' → β' → Prop} {Q : β' → Hp → Prop} {r : R α} {f : α → Sto → R α'}
    (rel : ∀ G' m' S' H', Pre K B' G' m' S' H' → Pre K B G' m' S' H') (h : Post K B W σ G m Rs Q (r.bind f)) :
    Post K B' W σ G m Rr (fun v H1 => ∃ G1 m1 S1 d, m <+: m1 ∧ Fz G G1 ∧ Pre K B' G1 m1 S1 H1 ∧ Rr G1 H1 m1 d v ∧ Post K B W σ G1 m1 Rs Q (f d S1)) r := by
  cases r with
  | bad => exact h
  | exc x S => exact fun c dd H' G' m' a b p z => h c dd H' G' m' a b (rel _ _ _ _ p) z
  | ok d S =>
    intro v H' G' m' h1 h2 h3 h4
    refine ⟨G', m', S, d, h1, h2, h3, h4, ?_⟩
    have h' : Post K B W σ G m Rs Q (f d S) := h
    exact h'.later h1 h2
theorem pre_len {α : Type} {m m' : List α} (h : m <+: m') (e : m'.length = m.length) : m' = m := (h.eq_of_length e.symm).symm
theorem key_rp {K : PySem.W.Frag} {G : Hp} {m : List Addr} {d : D} {v : V} {k : Key} (r : RpD K G m d v) (h : d.key = some k) : v = kV k := by
  cases r with
  | t r => exact keyT_r r h
  | o _ => cases h
theorem RpK.any (k : Key) {K : PySem.W.Frag} {G : Hp} : ∀ {vs : List (Key × V)} {ds : List (Key × T)}, RpK K G vs ds → (vs.any fun kv => decide (kv.1 = k)) = ds.any fun kv => decide (kv.1 = k)
  | _, _, .nil => rfl
  | _, _, .cons r q => by rw [List.any_cons, List.any_cons, RpK.any k q]
theorem RpK.repl (k : Key) {K : PySem.W.Frag} {G : Hp} {v : V} {d : T} (r : Rp K G v d) : ∀ {vs : List (Key × V)} {ds : List (Key × T)}, RpK K G vs ds → RpK K G (vs.map fun kv => if kv.1 = k then (kv.1, v) else kv) (ds.map fun kv => if kv.1 = k then (kv.1, d) else kv)
  | _, _, .nil => .nil
  | _, _, .cons (k := j) r' q => by
    rw [List.map_cons, List.map_cons]
    by_cases e : j = k
    · simp only [e, if_true]
      exact .cons r (RpK.repl k r q)
    · simp only [e, if_false]
      exact .cons r' (RpK.repl k r q)
theorem RpK.append {K : PySem.W.Frag} {G : Hp} : ∀ {vs ws : List (Key × V)} {ds es : List (Key × T)}, RpK K G vs ds → RpK K G ws es → RpK K G (vs ++ ws) (ds ++ es)
  | _, _, _, _, .nil, s => s
  | _, _, _, _, .cons r t, s => .cons r (RpK.append t s)
theorem RpK.put (k : Key) {K : PySem.W.Frag} {G : Hp} {v : V} {d : T} (r : Rp K G v d) {vs : List (Key × V)} {ds : List (Key × T)} (h : RpK K G vs ds) : RpK K G (putK vs k v) (putT ds k d) := by
  unfold putK putT
  rw [h.any k]
  split
  · exact h.repl k r
  · exact h.append (.cons r .nil)
/-- a hidden dict comes out -/
theorem own_dK {K : PySem.W.Frag} {B G H : Hp} {W : WX} {σ : L2.St} {m : List Addr} {S : Sto} {Q : VK} {fr : Bool} {d : Addr} {xs : List (Key × V)} {kvs : List (Key × T)} (p : Pre K B G m S H) (hd : H d = some (.dK xs)) (gd : G d = none) (hm : d ∉ m) (hB : B d = none) (hr : RpK K G xs kvs)
    (q : Post K B W σ G m (RD K) Q (own fr (.dK kvs) S)) : Q (.ref d) H := by
  cases fr with
  | false =>
    obtain ⟨f5, P5⟩ := p.frzAt hd gd hm hB fun ob u z => by cases z
    exact q (.ref d) H _ m (pre_rfl m) f5 P5 (.t (.dK (.inl upd_same) (hr.mono f5)))
  | true =>
    have P5 := p.ownAt hd gd hm hB (CellOk.dK hr)
    refine q (.ref d) H G (m ++ [d]) ⟨[d], rfl⟩ (Fz.refl G) P5 (.o ?_)
    rw [← p.len, List.getElem?_append_right (Nat.le_refl _), Nat.sub_self]; rfl
theorem pre_notin {K : PySem.W.Frag} {B G H : Hp} {m : List Addr} {S : Sto} (p : Pre K B G m S H) {d : Addr} (hd : H d = none) : d ∉ m := fun hm => by
  obtain ⟨j, hj⟩ := List.getElem?_of_mem hm
  have hi : j < S.length := by rw [← p.len]; exact (List.getElem?_eq_some_iff.mp hj).1
  obtain ⟨o, ho⟩ := (p.cells j S[j] d (by simp [hi]) hj).here
  rw [hd] at ho; cases ho
theorem pre_noB {K : PySem.W.Frag} {B G H : Hp} {m : List Addr} {S : Sto} (p : Pre K B G m S H) {d : Addr} (hd : H d = none) : B d = none := by
  cases e : B d with
  | none => rfl
  | some o => have := (p.hid d o e).1; rw [hd] at this; cases this
theorem qe_dsp {fr : Bool} (ha : PE X e1 (tE X.K W cl pm a)) (hb : PE X e2 (tE X.K W cl pm b)) (hc : PE X e3 (tE X.K W cl pm c)) : PE X (.Dict [none, some e2] [e1, e3] pos) (tE X.K W cl pm (.dsp fr a b c)) := by
  refine PE.imp (pe_dstar ha hb hc) ?_
  rintro σ H Q ⟨B, G, m, S, r, hP, hE, q⟩ d hd
  have hm := pre_notin hP hd
  have hB := pre_noB hP hd
  refine ⟨_, G, m, S, r, hP.hide (o := .dK []) hd, hE, (Post.bindB (Rr := RD X.K) (fun _ _ _ _ p => p.unhide hB) q).mono ?_⟩
  rintro v H1 ⟨G1, m1, S1, dx, i1, f1, P1, r1, q1⟩
  obtain ⟨kvs, hk, q2⟩ := q1.optB
  obtain ⟨kvs', h2, h3⟩ := Option.bind_eq_some_iff.mp hk
  obtain ⟨t, h4, h5⟩ := Option.bind_eq_some_iff.mp h2
  split at h3
  · rename_i hl
    cases h3
    have em : m1 = m := pre_len i1 (by rw [P1.len, hP.len]; exact hl.2)
    subst em
    obtain ⟨hd1, gd1, _⟩ := P1.hid d _ upd_same
    cases r1 with
    | o _ => cases h4
    | t r1 =>
      cases h4
      unfold T.dk at h5
      split at h5
      · cases h5
        cases r1 with
        | dK hrd hrk =>
          rename_i ad xs
          have had : ad ≠ d := by
            rintro rfl
            rcases hrd with z | ⟨o, z⟩ <;> rw [gd1] at z <;> cases z
          refine ⟨ad, xs, rfl, had, P1.fz.rd _ _ hrd, hd1, by rw [← line_eq, hrk.length]; exact hl.1, fun b0 hb0 => ?_⟩
          have P2 := P1.rehide (o' := .dK xs) hm
          have hbd : b0 ≠ d := by rintro rfl; rw [upd_same] at hb0; cases hb0
          have hmb := pre_notin P2 hb0
          have hBb := pre_noB P2 hb0
          have E1 := hE.mono f1 i1
          have rel : ∀ G' m' S' H', Pre X.K (upd (upd B d (.dK xs)) b0 (.dK [])) G' m' S' H' → Pre X.K B G' m' S' H' := fun _ _ _ _ p => (p.unhide hBb).unhide hB
          refine ⟨_, G1, m1, S1, r, P2.hide (o := .dK []) hb0, E1, (Post.bindB (Rr := RD X.K) rel q2).mono ?_⟩
          rintro y H3 ⟨G3, m3, S3, dy, i3, f3, P3, r3, q3⟩
          obtain ⟨key, hkey, q4⟩ := q3.optB
          have hy := key_rp r3 hkey
          subst hy
          refine ⟨_, G3, m3, S3, r, P3, E1.mono f3 i3, (Post.bindB (Rr := RD X.K) rel q4).mono ?_⟩
          rintro z H4 ⟨G4, m4, S4, dz, i4, f4, P4, r4, q5⟩
          obtain ⟨tz, hz, q6⟩ := q5.optB
          obtain ⟨tz', h6, h7⟩ := Option.bind_eq_some_iff.mp hz
          split at h7
          · rename_i hl4
            cases h7
            have em : m4 = m1 := pre_len (i3.trans i4) (by rw [P4.len, hl4, hP.len])
            subst em
            cases r4 with
            | o _ => cases h6
            | t r4 =>
              cases h6
              obtain ⟨hb4, gb4, _⟩ := P4.hid b0 _ upd_same
              obtain ⟨hd4, gd4, _⟩ := P4.hid d _ (by rw [upd_ne (Ne.symm hbd)]; exact upd_same)
              refine ⟨key, rfl, hd4, hb4, ?_⟩
              have P5 := (P4.rehide (o' := .dK [(key, z)]) hmb).unhide hBb
              have P6 := (P5.rehide (o' := .dK (putK xs key z)) hm).unhide hB
              exact own_dK P6 upd_same gd4 hm hB ((hrk.mono (f3.trans f4)).put key r4) q6
          · cases h7
      · cases h5
  · cases h3
/-! ### subscripts -/
theorem qe_idx (hu : X.A.units + 1 < cLine) (ha : PE X e1 (tE X.K W cl pm a)) (hb : PE X e2 (tE X.K W cl pm b)) (hs : PlainIx e2) : PE X (.Subscript e1 e2 pos) (tE X.K W cl pm (.idx a b)) := by
  refine PE.imp (pe_ix (ix_T hu) ha hb hs) ?_
  rintro σ H Q ⟨B, G, m, S, r, hP, hE, q⟩
  refine tE_mono (stepE hP hE q) ?_
  rintro v H1 ⟨G1, m1, S1, d, i1, f1, P1, E1, r1, q1⟩
  refine tE_mono (stepE P1 E1 q1) ?_
  rintro v2 H2 ⟨G2, m2, S2, d2, i2, f2, P2, E2, r2, q2⟩
  obtain ⟨t, ht, q3⟩ := q2.opt1
  split at ht
  · rename_i x y e1 e2
    obtain ⟨z, hz, rfl⟩ := Option.map_eq_some_iff.mp ht
    exact ⟨G2, x, y, z, P2.fz, rd_ok P2 (r1.mono f2 i2) e1, rd_ok P2 r2 e2, hz, fun v' H' G' al rp => Post.tree q3 P2 al rp⟩
  · cases ht

/-! ### slices -/
def tO (K : PySem.W.Frag) (W : WX) (cl : Nat → List D → Sto → R D) (pm : Nat → List D → List D → Option (List D)) (lo : Option Unit) (b : C) : TO := match lo with
  | none => tNoPart
  | some _ => tPart (tE K W cl pm b)
theorem tO_mono {K : PySem.W.Frag} {H : Hp} {σ : L2.St} {lo : Option Unit} {Q Q' : Option Int → Hp → Prop} (h : tO K W cl pm lo b σ H Q) (hq : ∀ v H', Q v H' → Q' v H') : tO K W cl pm lo b σ H Q' := by
  cases lo with
  | none => unfold tO at h ⊢; exact hq _ _ h
  | some u => unfold tO at h ⊢; exact tE_mono h fun v H' ⟨i, e, q⟩ => ⟨i, e, hq _ _ q⟩
theorem tO_step {K : PySem.W.Frag} {B G H : Hp} {m : List Addr} {S : Sto} {r : Env} {σ : L2.St} {α β : Type} {Rs : Hp → Hp → List Addr → α → β → Prop} {Q : β → Hp → Prop} {f : Option Int → Sto → R α} {lo : Option Unit} (nl : lo = none → b = .nil) (h : Pre K B G m S H) (e : RelE K G m r σ)
    (q : Post K B W σ G m Rs Q ((ev cl pm b r S).bind fun y S => (R.opt (partT lo y) S).bind f)) :
    tO K W cl pm lo b σ H (fun l H1 => ∃ G1 m1 S1, m <+: m1 ∧ Fz G G1 ∧ Pre K B G1 m1 S1 H1 ∧ RelE K G1 m1 r σ ∧ Post K B W σ G1 m1 Rs Q (f l S1)) := by
  cases lo with
  | none =>
    have hb := nl rfl
    subst hb
    unfold tO
    exact ⟨G, m, S, pre_rfl m, Fz.refl G, h, e, q⟩
  | some u =>
    unfold tO
    refine tE_mono (stepE h e q) ?_
    rintro v H1 ⟨G1, m1, S1, d, i1, f1, P1, E1, r1, q1⟩
    obtain ⟨t, ht, q2⟩ := q1.optB
    unfold partT at ht
    split at ht
    · rename_i z; cases z
    · cases ht
      cases r1 with
      | t r1 => cases r1; exact ⟨_, rfl, G1, m1, S1, i1, f1, P1, E1, q2⟩
    · cases ht
theorem qe_sl {lo hi : Option Unit} {el eh : Option Expr} {p2 : Pos} (ha : PE X e1 (tE X.K W cl pm a)) (hl : PO X el (tO X.K W cl pm lo b)) (hh : PO X eh (tO X.K W cl pm hi c)) (nl : lo = none → b = .nil) (nh : hi = none → c = .nil) :
    PE X (.Subscript e1 (.Slice el eh none p2) pos) (tE X.K W cl pm (.sl false a lo hi b c)) := by
  refine PE.imp (pe_slice sl_G ha hl hh) ?_
  rintro σ H Q ⟨B, G, m, S, r, hP, hE, q⟩
  refine tE_mono (stepE hP hE q) ?_
  rintro v H1 ⟨G1, m1, S1, d, i1, f1, P1, E1, r1, q1⟩
  refine tO_mono (tO_step nl P1 E1 q1) ?_
  rintro l H2 ⟨G2, m2, S2, i2, f2, P2, E2, q2⟩
  refine tO_mono (tO_step nh P2 E2 q2) ?_
  rintro u H3 ⟨G3, m3, S3, i3, f3, P3, E3, q3⟩
  obtain ⟨t, ht, q4⟩ := q3.optB
  obtain ⟨d0, e, ht2⟩ := Option.bind_eq_some_iff.mp ht
  exact ⟨G3, d0, t, P3.fz, rd_ok P3 (r1.mono (f2.trans f3) (i2.trans i3)) e, ht2, fun v' H' G' al rp => Post.tree q4 P3 al rp⟩

theorem RpL.reverse {K : PySem.W.Frag} {G : Hp} : ∀ {vs : List V} {ds : List T}, RpL K G vs ds → RpL K G vs.reverse ds.reverse
  | _, _, .nil => .nil
  | _, _, .cons r t => by rw [List.reverse_cons, List.reverse_cons]; exact (RpL.reverse t).append (.cons r .nil)
theorem qe_rev {k : Nat} {p1 p2 p3 : Pos} (ha : PE X e1 (tE X.K W cl pm a)) : PE X (.Subscript e1 (.Slice none none (some (.UnaryOp .USub (.Constant (.int 1) k p1) p2)) p3) pos) (tE X.K W cl pm (.rev a)) := by
  refine PE.imp (pe_rev ha) ?_
  rintro σ H Q ⟨B, G, m, S, r, hP, hE, q⟩
  refine tE_mono (stepE hP hE q) ?_
  rintro v H1 ⟨G1, m1, S1, d, i1, f1, P1, E1, r1, q1⟩
  obtain ⟨t, ht, q2⟩ := Post.opt1 q1
  obtain ⟨t0, h0, rfl⟩ := Option.map_eq_some_iff.mp ht
  obtain ⟨d0, e, ht2⟩ := Option.bind_eq_some_iff.mp h0
  have hv := rd_ok P1 r1 e
  unfold revT at ht2
  split at ht2
  · cases ht2
    obtain ⟨a, xs, rfl, h2, h3⟩ := hv.lst_inv P1.fz
    exact ⟨a, xs, rfl, .inl ⟨.inl h2, alL P1.fz (fun v' H' G' al rp => Post.tree q2 P1 al rp) h3.reverse⟩⟩
  · cases ht2
    obtain ⟨a, xs, rfl, h2, h3⟩ := hv.tup_inv P1.fz
    exact ⟨a, xs, rfl, .inr ⟨SqT.of h2, alT P1.fz (fun v' H' G' al rp => Post.tree q2 P1 al rp) h3.reverse⟩⟩
  · cases ht2

/-! ### calls -/
theorem Post.slots {K : PySem.W.Frag} {B G : Hp} {m : List Addr} {σ : L2.St} {α β : Type} {Rs : Hp → Hp → List Addr → α → β → Prop} {Q : β → Hp → Prop} {q : R α} (h : Post K B W σ G m Rs Q q) : Post K B (fun c d _ H => W c d σ H) [] G m Rs Q q := by
  cases q <;> exact h
/-- what a def in short promises -/
def spF (K : PySem.W.Frag) (cl : Nat → List D → Sto → R D) (f np : Nat) : Sp := fun vs H Q E => ∃ B G m S ds, ds.length = np ∧ Pre K B G m S H ∧ RpDs K G m ds vs ∧ Post K B (fun c d _ H => E c d H) [] G m (RD K) Q (cl f ds S)
/-- a def of the text, by its number -/
structure FnAt (X : Cx) (cl : Nat → List D → Sto → R D) (n f : Nat) (x : Str) (np : Nat) : Prop where
  ex : ∃ (a : Addr) (fd : FuncData) (ps : List Str), X.mg x = some (.ref a) ∧ PySem.W.keepIn X.K (.ref a) = true ∧ Binds X.K fd ps [] ∧ FnOk X.prog X.w X.K X.mg X.base (L2.CX X.prog X.w) n a fd ps (spF X.K cl f np)
  ln : ∀ ds S, ds.length ≠ np → cl f ds S = .bad
theorem Post.ln {K : PySem.W.Frag} {B G : Hp} {m : List Addr} {σ : L2.St} {α β : Type} {Rs : Hp → Hp → List Addr → α → β → Prop} {Q : β → Hp → Prop} {q : R α} {p : Prop} (h : Post K B W σ G m Rs Q q) (hb : ¬ p → q = .bad) : p :=
  Classical.byContradiction fun z => by rw [hb z] at h; exact h
theorem qe_call {n f np : Nat} {x : Str} {p : Pos} {es : List Expr} (F : FnAt X cl n f x np) (hr : Room n X.A) (hg : Gl X x) (tk : Takes X W) (ha : PA X (e1 :: es) (tA X.K W cl pm a)) (hdb : (x == ("__debug__" : Str)) = false)
    (he : starEach (e1 :: es) X.env = (false, eval e1 X.env) :: starEach es X.env) (hpl : (backTo pos (starEach es X.env)).any (·.1) = false) : PE X (.Call (.Name x p) (e1 :: es) [] pos) (tE X.K W cl pm (.call f a)) := by
  obtain ⟨ad, fd, ps, hm, hk, hb, hF⟩ := F.ex
  refine PE.imp (pe_callSD (E := fun σ c d H => W c d σ H) hF hr hg hm hk hb .nil (fun σ => passAt tk σ) ha hdb he hpl) ?_
  rintro σ H Q ⟨B, G, m, S, r, hP, hE, q⟩
  refine tA_mono (stepA hP hE q) ?_
  rintro vs H1 ⟨G1, m1, S1, ds, i1, f1, P1, E1, r1, q1⟩
  have q2 : Post X.K B W σ G1 m1 (RD X.K) Q (cl f ds S1) := q1
  rw [List.append_nil]
  exact ⟨B, G1, m1, S1, ds, Post.ln q2 (F.ln ds S1), P1, r1, q2.slots⟩
theorem qe_call0 {n f np : Nat} {x : Str} {p : Pos} (F : FnAt X cl n f x np) (hr : Room n X.A) (hg : Gl X x) (tk : Takes X W) (hdb : (x == ("__debug__" : Str)) = false) : PE X (.Call (.Name x p) [] [] pos) (tE X.K W cl pm (.call f .nil)) := by
  obtain ⟨ad, fd, ps, hm, hk, hb, hF⟩ := F.ex
  refine ⟨fun pins s σ H Q I h => ?_⟩
  obtain ⟨B, G, m, S, r, hP, hE, q⟩ := h
  have q2 : Post X.K B W σ G m (RD X.K) Q (cl f [] S) := q
  refine wpAny_Call_Name_kw (ld_glob I hg hm ?_ hdb)
  exact PySem.W.callWith_K0 I.kIn hk (run_fnSD (E := fun σ c d H => W c d σ H) (vs := []) hF hr hb .nil (passAt tk σ) I .nil ⟨B, G, m, S, [], Post.ln q2 (F.ln [] S), hP, .nil, q2.slots⟩)

/-! ### built-in functions -/
theorem pe_bi {r : List V → Hp → VK → Prop} {p : Pos} {es : List Expr} {t : TA} (b : BI) (hc : CallR X b.vl r) (hg : Gl X b.nm) (hm : X.mg b.nm = none) (ha : PA X (e1 :: es) t)
    (he : starEach (e1 :: es) X.env = (false, eval e1 X.env) :: starEach es X.env) (hpl : (backTo pos (starEach es X.env)).any (·.1) = false) : PE X (.Call (.Name b.nm p) (e1 :: es) [] pos) (tCB r t) := by
  cases b <;> first
    | exact pe_callB hc hg hm (BI.boot _) ha (by decide) (by decide) he hpl
    | exact pe_callTy hc hg hm (BI.boot _) ha (by decide) (by decide) he hpl
def rCL (K : PySem.W.Frag) (f : List T → Option T) : List V → Hp → VK → Prop := fun xs H Q => ∃ G ds es, Fz G H ∧ VwL K G H xs ds ∧ f ds = some (.lst es) ∧ ∀ (vs : List V), RpL K G vs es → ∀ p, H p = none → Q (.ref p) (upd H p (.lst vs))
theorem bi_list_ok : CallR X (BI.vl .list) (rCL X.K (biT .list)) := by
  refine CallR.pick ?_
  rintro xs H Q ⟨G, ds, r, f, hx, hb, q⟩
  unfold biT at hb
  split at hb <;> rename_i hh <;> first | cases hh | skip
  · obtain ⟨x, rfl, h1⟩ := hx.one
    cases hb
    obtain ⟨a, ys, rfl, h2, h3⟩ := h1.lst_inv f
    exact ⟨_, call_list_of, a, ys, rfl, .inl (.inl h2), q _ h3⟩
  · obtain ⟨x, rfl, h1⟩ := hx.one
    cases hb
    obtain ⟨a, ys, rfl, h2, h3⟩ := h1.tup_inv f
    exact ⟨_, call_list_of, a, ys, rfl, .inr (SqT.of h2), q _ h3⟩
  · obtain ⟨x, rfl, h1⟩ := hx.one
    cases hb
    obtain ⟨a, rfl, h2⟩ := h1.scr_inv f
    exact ⟨_, call_list_of, a, _, rfl, .inl h2, q _ (RpL.ints _)⟩
  · cases hb
theorem qe_bi {p : Pos} {es : List Expr} (hu : X.A.units + 65 < cLine) (hc : X.calm = true) (b : BI) (hg : Gl X b.nm) (hm : X.mg b.nm = none) (ha : PA X (e1 :: es) (tA X.K W cl pm a))
    (he : starEach (e1 :: es) X.env = (false, eval e1 X.env) :: starEach es X.env) (hpl : (backTo pos (starEach es X.env)).any (·.1) = false) : PE X (.Call (.Name b.nm p) (e1 :: es) [] pos) (tE X.K W cl pm (.bi false b a)) := by
  refine PE.imp (pe_bi b (bi_ok hu hc b) hg hm ha he hpl) ?_
  rintro σ H Q ⟨B, G, m, S, r, hP, hE, q⟩
  refine tA_mono (stepA hP hE q) ?_
  rintro vs H1 ⟨G1, m1, S1, ds, i1, f1, P1, E1, r1, q1⟩
  obtain ⟨t, ht, q2⟩ := q1.optB
  obtain ⟨ts, h1, h2⟩ := Option.bind_eq_some_iff.mp ht
  exact ⟨G1, ts, t, P1.fz, r1.vw P1 h1, h2, fun v' H' G' al rp => Post.tree q2 P1 al rp⟩
theorem own_true_lst {K : PySem.W.Frag} {B G : Hp} {m : List Addr} {S : Sto} {σ : L2.St} {Q : VK} {ts : List T} {t : T} (q : Post K B W σ G m (RD K) Q (own true t S)) (h : biT .list ts = some t) : ∃ es, t = .lst es := by
  unfold biT at h
  split at h <;> rename_i hh <;> first | cases hh | skip
  · cases h; exact ⟨_, rfl⟩
  · cases h; exact ⟨_, rfl⟩
  · cases h; exact ⟨_, rfl⟩
  · cases h
theorem qe_biF {p : Pos} {es : List Expr} (hg : Gl X (BI.nm .list)) (hm : X.mg (BI.nm .list) = none) (ha : PA X (e1 :: es) (tA X.K W cl pm a))
    (he : starEach (e1 :: es) X.env = (false, eval e1 X.env) :: starEach es X.env) (hpl : (backTo pos (starEach es X.env)).any (·.1) = false) : PE X (.Call (.Name (BI.nm .list) p) (e1 :: es) [] pos) (tE X.K W cl pm (.bi true .list a)) := by
  refine PE.imp (pe_bi .list bi_list_ok hg hm ha he hpl) ?_
  rintro σ H Q ⟨B, G, m, S, r, hP, hE, q⟩
  refine tA_mono (stepA hP hE q) ?_
  rintro vs H1 ⟨G1, m1, S1, ds, i1, f1, P1, E1, r1, q1⟩
  obtain ⟨t, ht, q2⟩ := q1.optB
  obtain ⟨ts, h1, h2⟩ := Option.bind_eq_some_iff.mp ht
  obtain ⟨es, rfl⟩ := own_true_lst q2 h2
  exact ⟨G1, ts, es, P1.fz, r1.vw P1 h1, h2, fun xs hx => own_lst P1 q2 hx⟩
theorem own_dT {K : PySem.W.Frag} {B G H : Hp} {m : List Addr} {S : Sto} {σ : L2.St} {W : WX} {Q : VK} {ds : List (List Key × T)} {xs : List (List Key × V)} (p : Pre K B G m S H) (q : Post K B W σ G m (RD K) Q (own true (.dT ds) S)) (h : RpQ K G xs ds) : ∀ a, H a = none → Q (.ref a) (upd H a (.dT xs)) := fun a ha => by
  refine q (.ref a) _ G (m ++ [a]) ⟨[a], rfl⟩ (Fz.refl G) (p.own ha (.dT h)) (.o ?_)
  rw [← p.len, List.getElem?_append_right (Nat.le_refl _), Nat.sub_self]; rfl
def rCQ (K : PySem.W.Frag) (f : List T → Option T) : List V → Hp → VK → Prop := fun xs H Q => ∃ G ds es, Fz G H ∧ VwL K G H xs ds ∧ f ds = some (.dT es) ∧ ∀ (vs : List (List Key × V)), RpQ K G vs es → ∀ p, H p = none → Q (.ref p) (upd H p (.dT vs))
theorem bi_dict_ok (hu : X.A.units + 65 < cLine) (hc : X.calm = true) : CallR X (BI.vl .dict) (rCQ X.K (biT .dict)) := by
  refine CallR.pick ?_
  rintro xs H Q ⟨G, ds, r, f, hx, hb, q⟩
  unfold biT at hb
  split at hb <;> rename_i hh <;> first | cases hh | skip
  · obtain ⟨x, rfl, h1⟩ := hx.one
    obtain ⟨a, ys, rfl, h2, h3⟩ := h1.lst_inv f
    obtain ⟨kvs, hs, e⟩ := Option.map_eq_some_iff.mp hb
    cases e
    obtain ⟨ps, ws, rfl, h4, h5⟩ := pairsQ_ok f hs h3
    exact ⟨_, call_dictQ hu hc, a, ps, ws, rfl, .inl h2, h4, q _ (RpQ.merge h5 .nil)⟩
  · cases hb
theorem own_true_dT {K : PySem.W.Frag} {B G : Hp} {m : List Addr} {S : Sto} {σ : L2.St} {W : WX} {Q : VK} {ts : List T} {t : T} (q : Post K B W σ G m (RD K) Q (own true t S)) (h : biT .dict ts = some t) : ∃ es, t = .dT es := by
  unfold biT at h
  split at h <;> rename_i hh <;> first | cases hh | skip
  · obtain ⟨kvs, hs, e⟩ := Option.map_eq_some_iff.mp h
    cases e; exact ⟨_, rfl⟩
  · cases h
theorem qe_biD {p : Pos} {es : List Expr} (hu : X.A.units + 65 < cLine) (hc : X.calm = true) (hg : Gl X (BI.nm .dict)) (hm : X.mg (BI.nm .dict) = none) (ha : PA X (e1 :: es) (tA X.K W cl pm a))
    (he : starEach (e1 :: es) X.env = (false, eval e1 X.env) :: starEach es X.env) (hpl : (backTo pos (starEach es X.env)).any (·.1) = false) : PE X (.Call (.Name (BI.nm .dict) p) (e1 :: es) [] pos) (tE X.K W cl pm (.bi true .dict a)) := by
  refine PE.imp (pe_bi .dict (bi_dict_ok hu hc) hg hm ha he hpl) ?_
  rintro σ H Q ⟨B, G, m, S, r, hP, hE, q⟩
  refine tA_mono (stepA hP hE q) ?_
  rintro vs H1 ⟨G1, m1, S1, ds, i1, f1, P1, E1, r1, q1⟩
  obtain ⟨t, ht, q2⟩ := q1.optB
  obtain ⟨ts, h1, h2⟩ := Option.bind_eq_some_iff.mp ht
  obtain ⟨es, rfl⟩ := own_true_dT q2 h2
  exact ⟨G1, ts, es, P1.fz, r1.vw P1 h1, h2, fun xs hx => own_dT P1 q2 hx⟩
/-- isinstance(x, c) -/
theorem qe_isi1 {p p2 : Pos} {c : Str} {ty : String} (hg : Gl X "isinstance") (hm : X.mg "isinstance" = none) (hgc : Gl X c) (hmc : X.mg c = none) (hbc : bootBuiltins c = some (.type ty)) (hn : c ≠ "__name__") (hdb : (c == ("__debug__" : Str)) = false)
    (ha : PE X e1 (tE X.K W cl pm a)) (he : starEach [e1, .Name c p2] X.env = (false, eval e1 X.env) :: starEach [.Name c p2] X.env) (hpl : (backTo pos (starEach [.Name c p2] X.env)).any (·.1) = false) (he2 : starEach [.Name c p2] X.env = (false, eval (.Name c p2) X.env) :: starEach [] X.env) :
    PE X (.Call (.Name "isinstance" p) [e1, .Name c p2] [] pos) (tE X.K W cl pm (.isi a [ty] true)) := by
  refine PE.imp (pe_callB call_isi hg hm boot_isinstance (pa_cons ha (pa_cons (pe_bltn (v := .ty ty) hgc hmc hbc rfl hn hdb) pa_nil he2) he) (by decide) (by decide) he hpl) ?_
  rintro σ H Q ⟨B, G, m, S, r, hP, hE, q⟩
  refine tE_mono (stepE hP hE q) ?_
  rintro v H1 ⟨G1, m1, S1, d, i1, f1, P1, E1, r1, q1⟩
  obtain ⟨t, ht, q2⟩ := q1.opt1
  obtain ⟨k, hk, rfl⟩ := Option.map_eq_some_iff.mp ht
  obtain ⟨ty', h1, h2⟩ := Option.bind_eq_some_iff.mp hk
  obtain ⟨t', h3, h4⟩ := Option.bind_eq_some_iff.mp h1
  have hb : kitB ty' ty = some k := by
    unfold isiAny at h2
    split at h2
    · rename_i e; cases h2; exact e
    · rename_i e; unfold isiAny at h2; cases h2; exact e
    · cases h2
  exact ⟨v, .ty ty, .type ty', .type ty, k, rfl, .ty ty, tyT_ok P1.fz (rd_ok P1 r1 h3) h4, kit_ty hb, Post.tree q2 P1 (Al.refl P1.fz) (.bl _)⟩
/-- the names of built-in classes -/
theorem pa_tys {env : PySem.Env} (henv : env = X.env) : ∀ (cs : List (Str × Pos)) (tys : List String), (∀ q ∈ cs, Gl X q.1 ∧ X.mg q.1 = none ∧ q.1 ≠ "__name__" ∧ (q.1 == ("__debug__" : Str)) = false) →
    Paired (fun (q : Str × Pos) (ty : String) => bootBuiltins q.1 = some (.type ty)) cs tys → PA X (cs.map fun q => .Name q.1 q.2) (fun _ H Q => Q (tys.map V.ty) H)
  | [], _, _, .nil => PA.imp pa_nil fun _ _ _ z => z
  | q :: cs, _, h, .cons (b := ty) r t => by
    obtain ⟨h1, h2, h3, h4⟩ := h q List.mem_cons_self
    refine PA.imp (pa_cons (pe_bltn (v := .ty ty) h1 h2 r rfl h3 h4) (pa_tys henv cs _ (fun q' hq => h q' (List.mem_cons_of_mem _ hq)) t) rfl) ?_
    intro σ H Q z
    exact z
theorem kitAny_of {K : PySem.W.Frag} {ty : String} : ∀ {cs : List String} {k : Bool}, isiAny ty cs = some k → PySem.W.kitAny K (.type ty) (cs.map Value.type) = some k
  | [], k, h => by cases h; exact kitAny_nil
  | c :: cs, k, h => by
    unfold isiAny at h
    split at h
    · rename_i e; cases h; exact kitAny_cons (kit_ty e) (fun z => nomatch z) fun _ => rfl
    · rename_i e; exact kitAny_cons (kit_ty e) (fun _ => kitAny_of h) fun z => nomatch z
    · cases h
theorem paired_ty : ∀ (tys : List String), Paired ClsV (tys.map V.ty) (tys.map Value.type)
  | [] => .nil
  | t :: r => .cons (.ty t) (paired_ty r)
theorem qe_isiN {p p2 : Pos} {k0 : Nat} {cs : List (Str × Pos)} {tys : List String} (hg : Gl X "isinstance") (hm : X.mg "isinstance" = none) (hcs : ∀ q ∈ cs, Gl X q.1 ∧ X.mg q.1 = none ∧ q.1 ≠ "__name__" ∧ (q.1 == ("__debug__" : Str)) = false)
    (hp : Paired (fun (q : Str × Pos) (ty : String) => bootBuiltins q.1 = some (.type ty)) cs tys) (hl : tys.length ≤ 1000) (ha : PE X e1 (tE X.K W cl pm a)) (he : starEach [e1, .Tuple (cs.map fun q => .Name q.1 q.2) k0 p2] X.env = (false, eval e1 X.env) :: starEach [.Tuple (cs.map fun q => .Name q.1 q.2) k0 p2] X.env) :
    PE X (.Call (.Name "isinstance" p) [e1, .Tuple (cs.map fun q => .Name q.1 q.2) k0 p2] [] pos) (tE X.K W cl pm (.isi a tys false)) := by
  refine PE.imp (pe_callB call_isiT hg hm boot_isinstance (pa_cons ha (pa_cons (pe_tup (pa_tys rfl cs tys hcs hp)) pa_nil rfl) he) (by decide) (by decide) he rfl) ?_
  rintro σ H Q ⟨B, G, m, S, r, hP, hE, q⟩
  refine tE_mono (stepE hP hE q) ?_
  rintro v H1 ⟨G1, m1, S1, d, i1, f1, P1, E1, r1, q1⟩
  obtain ⟨t, ht, q2⟩ := q1.opt1
  obtain ⟨k, hk, rfl⟩ := Option.map_eq_some_iff.mp ht
  obtain ⟨ty', h1, h2⟩ := Option.bind_eq_some_iff.mp hk
  obtain ⟨t', h3, h4⟩ := Option.bind_eq_some_iff.mp h1
  refine ⟨by rw [List.length_map]; exact Nat.le_trans hl (by decide), fun p hp => ?_⟩
  have al : Al G1 H1 (upd G1 p (.tup (tys.map V.ty))) (upd H1 p (.tup (tys.map V.ty))) := Al.lay P1.fz hp fun ob u z => by cases z
  exact ⟨v, p, _, .type ty', _, k, rfl, upd_same, paired_ty tys, tyT_ok al.fz' ((rd_ok P1 r1 h3).mono al) h4, kitAny_of h2, Post.tree q2 P1 al (.bl _)⟩

/-! ### calls with keywords -/
def gOf {α : Type} (p k : Nat) (ix : List Nat) (d : α) (us ws : List α) : List α := if us.length = p ∧ ws.length = k then ix.map fun j => (us ++ ws).getD j d else []
def pmOf (p k : Nat) (ix : List Nat) (ds es : List D) : Option (List D) := if ds.length = p ∧ es.length = k ∧ ix.all (fun j => j < p + k) then some (ix.map fun j => (ds ++ es).getD j (.l [])) else none
structure KwAt (X : Cx) (cl : Nat → List D → Sto → R D) (n f : Nat) (x : Str) (p k : Nat) (ks : List Str) (ix : List Nat) : Prop where
  ex : ∃ (a : Addr) (fd : FuncData) (ps : List Str), X.mg x = some (.ref a) ∧ PySem.W.keepIn X.K (.ref a) = true ∧ FnOk X.prog X.w X.K X.mg X.base (L2.CX X.prog X.w) n a fd ps (spF X.K cl f ix.length) ∧ ps.length = ix.length ∧
    ∀ (s : Shared) (us ws : List Value), us.length = p → ws.length = k → BindsTo s fd ⟨us, ks.zip ws⟩ (ps.zip (ix.map fun j => (us ++ ws).getD j .none))
  pos : ix ≠ []
theorem vals_getD {vs : List V} {us : List Value} (r : Vals vs us) (j : Nat) : RelV (vs.getD j .non) (us.getD j .none) := by
  rw [List.getD_eq_getElem?_getD, List.getD_eq_getElem?_getD]
  cases e : vs[j]? with
  | none => rw [r.none_of e]; rfl
  | some v =>
    obtain ⟨u, h1, h2⟩ := r.get e
    rw [h1]; exact h2
theorem KwAt.kb {n f : Nat} {x : Str} {p k : Nat} {ks : List Str} {ix : List Nat} (F : KwAt X cl n f x p k ks ix) : ∃ (a : Addr) (fd : FuncData) (ps : List Str), X.mg x = some (.ref a) ∧ PySem.W.keepIn X.K (.ref a) = true ∧ FnOk X.prog X.w X.K X.mg X.base (L2.CX X.prog X.w) n a fd ps (spF X.K cl f ix.length) ∧
    KBinds X.K fd ps ks (gOf p k ix .none) (gOf p k ix .non) := by
  obtain ⟨a, fd, ps, h1, h2, h3, h4, h5⟩ := F.ex
  refine ⟨a, fd, ps, h1, h2, h3, ⟨fun s us ws _ hl => ?_, fun {vs us zs ws} r1 r2 => ?_⟩⟩
  · unfold gOf at hl ⊢
    split
    · rename_i h; exact h5 s us ws h.1 h.2
    · rename_i h
      rw [if_neg h] at hl
      have : ix.length = 0 := by rw [← h4]; exact hl.symm
      exact absurd (List.length_eq_zero_iff.mp this) F.pos
  · unfold gOf
    rw [r1.length, r2.length]
    split
    · have go : ∀ l : List Nat, Vals (l.map fun j => (vs ++ zs).getD j .non) (l.map fun j => (us ++ ws).getD j .none) := fun l => by
        induction l with
        | nil => exact .nil
        | cons j l ih => exact .cons (vals_getD (r1.append r2) j) ih
      exact go ix
    · exact .nil
theorem rpDs_getD {K : PySem.W.Frag} {G : Hp} {m : List Addr} : ∀ {ds : List D} {vs : List V} (j : Nat), j < ds.length → RpDs K G m ds vs → RpD K G m (ds.getD j (.l [])) (vs.getD j .non)
  | _, _, j, h, .nil => by simp at h
  | _, _, 0, _, .cons r _ => r
  | _, _, j + 1, h, .cons _ t => by
    have := rpDs_getD j (by simpa using h) t
    simpa using this
theorem RpDs.append {K : PySem.W.Frag} {G : Hp} {m : List Addr} : ∀ {ds es : List D} {vs ws : List V}, RpDs K G m ds vs → RpDs K G m es ws → RpDs K G m (ds ++ es) (vs ++ ws)
  | _, _, _, _, .nil, s => s
  | _, _, _, _, .cons r t, s => .cons r (RpDs.append t s)
theorem pm_rp {K : PySem.W.Frag} {G : Hp} {m : List Addr} {p k : Nat} {ix : List Nat} {ds es fs : List D} {vs ws : List V} (r1 : RpDs K G m ds vs) (r2 : RpDs K G m es ws) (h : pmOf p k ix ds es = some fs) : RpDs K G m fs (gOf p k ix .non vs ws) := by
  unfold pmOf at h
  split at h
  · rename_i hh
    cases h
    unfold gOf
    rw [← r1.length, ← r2.length, if_pos ⟨hh.1, hh.2.1⟩]
    have go : ∀ l : List Nat, l.all (fun j => j < p + k) = true → RpDs K G m (l.map fun j => (ds ++ es).getD j (.l [])) (l.map fun j => (vs ++ ws).getD j .non) := fun l => by
      induction l with
      | nil => intro _; exact .nil
      | cons j l ih =>
        intro hl
        rw [List.all_cons, Bool.and_eq_true] at hl
        exact .cons (rpDs_getD j (by rw [List.length_append, hh.1, hh.2.1]; exact of_decide_eq_true hl.1) (r1.append r2)) (ih hl.2)
    exact go ix hh.2.2
  · cases h
/-- the values of the keywords -/
def kwEs (kws : List Keyword) : List Expr := kws.map fun q => q.value
theorem run_fnkS {n : Nat} {f : Addr} {fd : FuncData} {ps ks : List Str} {sp : Sp} {E : L2.St → XK} {g : List Value → List Value → List Value} {gV : List V → List V → List V} {pins : List (Addr × Obj)} {σ : L2.St} {H : Hp} {s : Shared} {Q : VK} {us ws : List Value} {vs zs : List V} (F : FnOk X.prog X.w X.K X.mg X.base (L2.CX X.prog X.w) n f fd ps sp) (hr : Room n X.A)
    (hb : KBinds X.K fd ps ks g gV) (hx : PassesAt (L2.CX X.prog X.w) X σ (E σ)) (I : L2.Inv X pins σ H s) (r : Vals vs us) (rz : Vals zs ws) (h : sp (gV vs zs) H Q (E σ)) : wpAny (model X.prog X.w) X.A (call (.ref f) us (ks.zip ws)) (EP X pins σ Q) X.xe s := by
  have r2 := hb.rel r rz
  have hl : (g us ws).length = ps.length := by rw [← r2.length]; exact F.len _ _ _ _ h
  refine wpAny_call (codeAny_mono (F.run X.A X.stack s H ⟨us, ks.zip ws⟩ (g us ws) (gV vs zs) Q (E σ) hr I.env0 (hb.to s us ws I.kIn hl) r2 h) fun r s' hq => ?_)
  cases r with
  | error e => exact hx pins H s e s' I hq
  | ok fl =>
    cases fl with
    | ret u => exact I.after hq
    | next => exact False.elim hq
    | brk => exact False.elim hq
    | cont => exact False.elim hq
theorem pk_of {kws : List Keyword} {t : TA} (h : PA X (kwEs kws) t) : True := trivial
inductive PKq (X : Cx) (W : WX) (cl : Nat → List D → Sto → R D) (pm : Nat → List D → List D → Option (List D)) : List Keyword → C → Prop
  | nil : PKq X W cl pm [] .nil
  | cons {nm : Option Str} {e : Expr} {p : Pos} {kws : List Keyword} {a b : C} : PE X e (tE X.K W cl pm a) → PKq X W cl pm kws b → PKq X W cl pm (⟨nm, e, p⟩ :: kws) (.cons a b)
theorem PKq.pk : ∀ {kws : List Keyword} {c : C}, PKq X W cl pm kws c → PK X kws (tA X.K W cl pm c)
  | _, _, .nil => ⟨fun pos pins s σ H Q I z => by
    obtain ⟨B, G, m, S, r, hP, hE, q⟩ := z
    exact pk_nil.run pos pins s σ H Q I (q [] H G m (pre_rfl m) (Fz.refl G) hP ⟨[], rfl, .nil⟩)⟩
  | _, _, .cons ha hb => ⟨fun pos pins s σ H Q I z => by
    obtain ⟨B, G, m, S, r, hP, hE, q⟩ := z
    refine (pk_cons ha hb.pk).run pos pins s σ H Q I ?_
    refine tE_mono (stepE hP hE q) ?_
    rintro v H1 ⟨G1, m1, S1, d, i1, f1, P1, E1, r1, q1⟩
    refine tA_mono (stepA P1 E1 q1) ?_
    rintro vs H2 ⟨G2, m2, S2, ds, i2, f2, P2, E2, r2, q2⟩
    exact q2 (v :: vs) H2 G2 m2 (pre_rfl m2) (Fz.refl G2) P2 ⟨d :: ds, rfl, .cons (r1.mono f2 i2) r2⟩⟩
theorem kw_fin {f g : Nat} {p k : Nat} {ix : List Nat} {σ : L2.St} {Q : VK} {B G1 G2 H2 : Hp} {m1 m2 : List Addr} {S2 : Sto} {ds es : List D} {vs zs : List V} (hpm : pm g = pmOf p k ix) (ln : ∀ ds S, ds.length ≠ ix.length → cl f ds S = .bad)
    (i2 : m1 <+: m2) (f2 : Fz G1 G2) (P2 : Pre X.K B G2 m2 S2 H2) (r1 : RpDs X.K G1 m1 ds vs) (r2 : RpDs X.K G2 m2 es zs)
    (q2 : Post X.K B W σ G2 m2 (RD X.K) Q ((R.opt (match (D.l ds).ls, (D.l es).ls with
    | some ds, some es => pm g ds es
    | _, _ => none) S2).bind fun ds S => cl f ds S)) : spF X.K cl f ix.length (gOf p k ix .non vs zs) H2 Q (fun c d H => W c d σ H) := by
  obtain ⟨fs, hfs, q3⟩ := q2.optB
  have hfs : pm g ds es = some fs := hfs
  rw [hpm] at hfs
  exact ⟨B, G2, m2, S2, fs, Post.ln q3 (ln fs S2), P2, pm_rp (r1.mono f2 i2) r2 hfs, q3.slots⟩
theorem qe_callk {n f g : Nat} {x : Str} {p k : Nat} {ks : List Str} {ix : List Nat} {np : Pos} {es : List Expr} {kws : List Keyword} (F : KwAt X cl n f x p k ks ix) (hpm : pm g = pmOf p k ix) (ln : ∀ ds S, ds.length ≠ ix.length → cl f ds S = .bad) (hr : Room n X.A) (hg : Gl X x) (tk : Takes X W)
    (ha : PA X (e1 :: es) (tA X.K W cl pm a)) (hkw : PKq X W cl pm kws b) (hall : (backToKw pos (keywordEach kws X.env)).all (·.1.isSome) = true) (hks : (backToKw pos (keywordEach kws X.env)).filterMap (·.1) = ks) (hdb : (x == ("__debug__" : Str)) = false)
    (he : starEach (e1 :: es) X.env = (false, eval e1 X.env) :: starEach es X.env) (hpl : ((backTo pos (starEach (e1 :: es) X.env)).any (·.1) || (backToKw pos (keywordEach kws X.env)).any (·.1.isNone)) = false) :
    PE X (.Call (.Name x np) (e1 :: es) kws pos) (tE X.K W cl pm (.callk f g a b)) := by
  obtain ⟨ad, fd, ps, hm, hk, hF, hb⟩ := F.kb
  refine ⟨fun pins s σ H Q I h => ?_⟩
  obtain ⟨B, G, m, S, r, hP, hE, q⟩ := h
  refine wpAny_Call_Name_kw (ld_glob I hg hm ?_ hdb)
  refine PySem.W.callWith_KW (h₀ := X.base) I.ok.mod.kin hk hall (thn (ha.run pos pins s σ H _ I (stepA hP hE q)) fun us s1 ⟨vs, H1, I1, rv, G1, m1, S1, ds, i1, f1, P1, E1, r1, q1⟩ => ?_) hpl he
  refine thn (hkw.pk.run pos pins s1 σ H1 _ I1 (stepA P1 E1 q1)) fun ws s2 ⟨zs, H2, I2, rz, G2, m2, S2, es', i2, f2, P2, E2, r2, q2⟩ => ⟨I2.kIn, ?_⟩
  rw [hks]
  exact run_fnkS (E := fun σ c d H => W c d σ H) hF hr hb (passAt tk σ) I2 rv rz (kw_fin hpm ln i2 f2 P2 r1 r2 q2)
theorem qe_callk0 {n f g : Nat} {x : Str} {k : Nat} {ks : List Str} {ix : List Nat} {np : Pos} {kws : List Keyword} (F : KwAt X cl n f x 0 k ks ix) (hpm : pm g = pmOf 0 k ix) (ln : ∀ ds S, ds.length ≠ ix.length → cl f ds S = .bad) (hr : Room n X.A) (hg : Gl X x) (tk : Takes X W)
    (hkw : PKq X W cl pm kws b) (hall : (backToKw pos (keywordEach kws X.env)).all (·.1.isSome) = true) (hks : (backToKw pos (keywordEach kws X.env)).filterMap (·.1) = ks) (hdb : (x == ("__debug__" : Str)) = false)
    (hpl : ((backTo pos (starEach [] X.env)).any (·.1) || (backToKw pos (keywordEach kws X.env)).any (·.1.isNone)) = false) :
    PE X (.Call (.Name x np) [] kws pos) (tE X.K W cl pm (.callk f g .nil b)) := by
  obtain ⟨ad, fd, ps, hm, hk, hF, hb⟩ := F.kb
  refine ⟨fun pins s σ H Q I h => ?_⟩
  obtain ⟨B, G, m, S, r, hP, hE, q⟩ := h
  refine wpAny_Call_Name_kw (ld_glob I hg hm ?_ hdb)
  refine PySem.W.callWith_KW0 (h₀ := X.base) I.ok.mod.kin hk hall (thn (hkw.pk.run pos pins s σ H _ I (stepA hP hE q)) fun ws s2 ⟨zs, H2, I2, rz, G2, m2, S2, es', i2, f2, P2, E2, r2, q2⟩ => ⟨I2.kIn, ?_⟩) hpl
  rw [hks]
  exact run_fnkS (E := fun σ c d H => W c d σ H) (vs := []) hF hr hb (passAt tk σ) I2 .nil rz (kw_fin (G1 := G) (m1 := m) (ds := []) (vs := []) hpm ln i2 f2 P2 .nil r2 q2)
end
end Qq

set_option maxHeartbeats 4000000
/-! Q6g: zip and enumerate of lists, tuples, texts in any mix. -/
namespace Qq
open PySem PySem.Spec PyProof.Rows L2

/-- what a draw goes through -/
inductive SK where
  | lst (a : Addr) | tup (a : Addr) | str (z : Str) (t : Tok)
def SK.vl : SK → Value
  | .lst a => .ref a
  | .tup a => .ref a
  | .str z t => .str z t
def chV (z : Str) : List V := z.cps.toList.map fun c => V.str ⟨#[c]⟩
def SK.has (K : PySem.W.Frag) (H : Hp) (xs : List V) : SK → Prop
  | .lst a => SqL K H a xs
  | .tup a => SqT K H a xs
  | .str z _ => xs = chV z
def SK.ib : SK → Obj
  | .lst a => { cls := .type "list_iterator", data := .fields #[.ref a, .int 0 0] }
  | .tup a => { cls := .type "tuple_iterator", data := .fields #[.ref a, .int 0 0] }
  | .str z t => { cls := .type (strIterType z), data := .fields #[.str z t, .int 0 0] }
def SK.at' (k : SK) (it : Addr) (i : Nat) (h : Heap) : Prop := match k with
  | .lst a => h.IsListIter it a i
  | .tup a => h.IsTupleIter it a i
  | .str z t => h.IsStrIter it (strIterType z) z t i
def SK.fp (it : Addr) : SK → List Addr
  | .lst a => [it, a]
  | .tup a => [it, a]
  | .str _ _ => [it]
theorem SK.fp_it (k : SK) (it : Addr) : it ∈ k.fp it := by cases k <;> simp [SK.fp]
/-- the object of the draw -/
theorem SK.live {k : SK} {it : Addr} {i : Nat} {h : Heap} (s : k.at' it i h) : ∃ o, h.get? it = some o ∧ ∀ v, o.data ≠ .cell v := by
  cases k with
  | lst a => obtain ⟨o, e, _, d⟩ := s; exact ⟨o, e, fun v z => by rw [d] at z; cases z⟩
  | tup a => obtain ⟨o, e, _, d⟩ := s; exact ⟨o, e, fun v z => by rw [d] at z; cases z⟩
  | str z t => obtain ⟨o, e, _, d⟩ := s; exact ⟨o, e, fun v z => by rw [d] at z; cases z⟩
theorem SK.keep {k : SK} {it : Addr} {i : Nat} {h h' : Heap} (s : k.at' it i h) (q : ∀ o, h.get? it = some o → h'.get? it = some o) : k.at' it i h' := by
  cases k with
  | lst a => obtain ⟨o, e, r⟩ := s; exact ⟨o, q o e, r⟩
  | tup a => obtain ⟨o, e, r⟩ := s; exact ⟨o, q o e, r⟩
  | str z t => obtain ⟨o, e, r⟩ := s; exact ⟨o, q o e, r⟩
theorem SK.at0 {k : SK} {it : Addr} {h : Heap} (e : h.get? it = some k.ib) : k.at' it 0 h := by
  cases k <;> exact ⟨_, e, rfl, rfl⟩
section
variable {X : Cx} {pins : List (Addr × Obj)} {σ : L2.St} {H : Hp} {s : Shared}
theorem SK.one (I : L2.Inv X pins σ H s) {k : SK} {xs ys : List V} (a : k.has X.K H xs) (b : k.has X.K H ys) : xs = ys := by
  cases k with
  | lst l => exact I.list_inj a b
  | tup l => exact I.tuple_inj a b
  | str z t => exact Eq.trans a (Eq.symm b)
/-- the draw, as the heap stands -/
theorem SK.draw (I : L2.Inv X pins σ H s) {k : SK} {xs : List V} {it : Addr} {B : Around} (hh : B.handled = none) (hit : it ∈ k.fp it → ∀ b ∈ k.fp it, b = it ∨ b ≠ it) (hne : ∀ l, (k = .lst l ∨ k = .tup l) → l ≠ it) (a : k.has X.K H xs) :
    ∃ (Pn : Nat → Value → Prop) (St : Nat → Heap → Prop), Draws X.prog X.w B it (k.fp it) xs.length Pn St ∧ (∀ i v, Pn i v → ∃ x, xs[i]? = some x ∧ RelV x v) ∧ (∀ i, k.at' it i s.heap → St i s.heap) ∧ ∀ i h, St i h → k.at' it i h := by
  have back : ∀ {xs : List V} {us : List Value}, Vals xs us → ∀ (i : Nat) (v : Value), us[i]? = some v → ∃ x, xs[i]? = some x ∧ RelV x v := by
    intro xs us r
    induction r with
    | nil => intro i v e; simp at e
    | cons h t ih =>
      intro i v e
      cases i with
      | zero => simp at e; subst e; exact ⟨_, rfl, h⟩
      | succ i => exact ih i v (by simpa using e)
  cases k with
  | lst l =>
    obtain ⟨its, r, p, _⟩ := I.list a
    have e : its.toArray.size = xs.length := by rw [List.size_toArray, r.length]
    refine ⟨fun i v => its.toArray[i]? = some v, fun i h => h.IsListIter it l i ∧ h.IsList l its.toArray, by rw [← e]; exact Draws.list hh it l (hne l (.inl rfl)) its.toArray, fun i v h => back r i v (by simpa using h), fun i h => ⟨h, p.isList⟩, fun i h z => z.1⟩
  | tup l =>
    obtain ⟨its, r, p, _⟩ := I.tuple a
    have e : its.toArray.size = xs.length := by rw [List.size_toArray, r.length]
    refine ⟨fun i v => its.toArray[i]? = some v, fun i h => h.IsTupleIter it l i ∧ h.IsTuple l its.toArray, by rw [← e]; exact Draws.tuple hh it l (hne l (.inr rfl)) its.toArray, fun i v h => back r i v (by simpa using h), fun i h => ⟨h, p⟩, fun i h z => z.1⟩
  | str z t =>
    have a : xs = chV z := a
    subst a
    have e : z.cps.size = (chV z).length := by unfold chV; rw [List.length_map, Array.length_toList]
    refine ⟨fun i v => ∃ c u, z.cps[i]? = some c ∧ v = .str ⟨#[c]⟩ u, fun i h => h.IsStrIter it (strIterType z) z t i, by rw [← e]; exact Draws.text hh it z t, fun i v ⟨c, u, h1, h2⟩ => ⟨.str ⟨#[c]⟩, ?_, by subst h2; exact ⟨u, rfl⟩⟩, fun i h => h, fun i h q => q⟩
    unfold chV
    rw [List.getElem?_map, Array.getElem?_toList, h1]; rfl
end
/-- pairs of the items -/
def ItZ (K : PySem.W.Frag) (k1 k2 : SK) : It :=
  ⟨fun i H => ∃ xs ys : List V, k1.has K H xs ∧ k2.has K H ys ∧ i < min xs.length ys.length,
    fun i H v H' => ∃ p x y, v = .ref p ∧ H p = none ∧ H' = upd H p (.tup [x, y]) ∧ (∀ xs, k1.has K H xs → xs[i]? = some x) ∧ ∀ ys, k2.has K H ys → ys[i]? = some y,
    fun i H => ∃ xs ys : List V, k1.has K H xs ∧ k2.has K H ys ∧ i = min xs.length ys.length⟩
/-- numbers and items -/
def ItE (K : PySem.W.Frag) (k : SK) : It :=
  ⟨fun i H => ∃ xs : List V, k.has K H xs ∧ i < xs.length,
    fun i H v H' => ∃ p x, v = .ref p ∧ H p = none ∧ H' = upd H p (.tup [.int (i : Nat), x]) ∧ ∀ xs, k.has K H xs → xs[i]? = some x,
    fun i H => ∃ xs : List V, k.has K H xs ∧ i = xs.length⟩
theorem sep_ne {N : Nat} {l it : Addr} (h : l < N) (h2 : N ≤ it) : l ≠ it := Nat.ne_of_lt (Nat.lt_of_lt_of_le h h2)
section
variable {P : Program} {w : World} {K : PySem.W.Frag} {es : List Expr} {kk : Nat} {tp : Pos}
theorem turnZ {k1 k2 : SK} {z p q a b : Addr} (S : ZipSep2 z p q a b (k1.fp a) (k2.fp b)) (n1 : ∀ l, (k1 = .lst l ∨ k1 = .tup l) → l ≠ a) (n2 : ∀ l, (k2 = .lst l ∨ k2 = .tup l) → l ≠ b) :
    Turn P w K (.Tuple es kk tp) (ItZ K k1 k2) [z, p, q, a, b] z (fun i h => IsZip h z p q .none ∧ IsTupOf2 h p (.ref a) (.ref b) ∧ (∃ x y, IsTupOf2 h q x y) ∧ k1.at' a i h ∧ k2.at' b i h) where
  mem := List.mem_cons_self
  obj := by
    rintro i h ⟨h1, h2, ⟨x, y, h3⟩, h4, h5⟩ c hc
    simp only [List.mem_cons, List.not_mem_nil, or_false] at hc
    rcases hc with rfl | rfl | rfl | rfl | rfl
    · exact ⟨_, h1, fun v u => nomatch u⟩
    · exact ⟨_, h2, fun v u => nomatch u⟩
    · exact ⟨_, h3, fun v u => nomatch u⟩
    · exact SK.live h4
    · exact SK.live h5
  keep := by
    rintro i h h' ⟨h1, h2, ⟨x, y, h3⟩, h4, h5⟩ u
    exact ⟨u z (by simp) _ h1, u p (by simp) _ h2, ⟨x, y, u q (by simp) _ h3⟩, SK.keep h4 (u a (by simp)), SK.keep h5 (u b (by simp))⟩
  item := by
    intro X hP hw hK hc i pins s σ H E I hf st hg
    subst hP hw hK
    have st0 := st
    obtain ⟨h1, h2, h3, h4, h5⟩ := st
    obtain ⟨xs, ys, hx, hy, hi⟩ := hg
    obtain ⟨P1, S1, d1, r1, m1, b1⟩ := SK.draw I (B := X.A.in1) (it := a) (I.ok.hd hc) (fun _ c _ => by by_cases e : c = a <;> simp [e]) n1 hx
    obtain ⟨P2, S2, d2, r2, m2, b2⟩ := SK.draw I (B := X.A.in1) (it := b) (I.ok.hd hc) (fun _ c _ => by by_cases e : c = b <;> simp [e]) n2 hy
    refine (GoesN.zip2 (elts := es) (x1 := kk) (pos := tp) S d1 d2).goes i s _ E hi ⟨h1, h2, h3, m1 i h4, m2 i h5⟩ ?_
    rintro v h' tk ⟨c, u1, u2, rfl, hc', y1, y2, hT⟩ ⟨g1, g2, g3, g4, g5⟩ hk ht
    obtain ⟨x1, ex1, rx1⟩ := r1 i u1 y1
    obtain ⟨x2, ex2, rx2⟩ := r2 i u2 y2
    have new : ObjOk X.prog X.w (upd H c (.tup [x1, x2])) h' c (.tup [x1, x2]) := ⟨by show 2 ≤ sizeLine; decide, [u1, u2], .cons rx1 (.cons rx2 .nil), by
      obtain ⟨o, ho, hcl, n, hd⟩ := hT
      exact ⟨o, ho, hcl, n, hd⟩⟩
    have I1 : L2.Inv X pins σ (upd H c (.tup [x1, x2])) { s with heap := h', toks := tk } := I.turnedNew (ch := [z, p, q, a, b]) (fun d o hd e => hk d o (fun hm => hd (by
      simp only [List.mem_cons, List.not_mem_nil, or_false] at hm ⊢
      rcases hm with e | e | e | e <;> simp [e])) e) hf hc' new
    refine ⟨.ref c, _, I1, rfl, ⟨c, x1, x2, rfl, I.hok.fresh hc', rfl, fun l hl => by rw [SK.one I hl hx]; exact ex1, fun l hl => by rw [SK.one I hl hy]; exact ex2⟩, ⟨g1, g2, g3, b1 _ _ g4, b2 _ _ g5⟩, fun d hd => ?_⟩
    have hlt : d < s.heap.objs.size := by
      simp only [List.mem_cons, List.not_mem_nil, or_false] at hd
      rcases hd with rfl | rfl | rfl | rfl | rfl
      · exact Heap.lt_size h1
      · exact Heap.lt_size h2
      · obtain ⟨_, _, e⟩ := h3; exact Heap.lt_size e
      · obtain ⟨_, e, _⟩ := SK.live h4; exact Heap.lt_size e
      · obtain ⟨_, e, _⟩ := SK.live h5; exact Heap.lt_size e
    rw [upd_ne (Nat.ne_of_lt (Nat.lt_of_lt_of_le hlt hc'))]
    exact (hf d hd).1
  done := by
    intro X hP hw hK hc i pins s σ H E I hf st hg
    subst hP hw hK
    obtain ⟨h1, h2, h3, h4, h5⟩ := st
    obtain ⟨xs, ys, hx, hy, rfl⟩ := hg
    obtain ⟨P1, S1, d1, r1, m1, b1⟩ := SK.draw I (B := X.A.in1) (it := a) (I.ok.hd hc) (fun _ c _ => by by_cases e : c = a <;> simp [e]) n1 hx
    obtain ⟨P2, S2, d2, r2, m2, b2⟩ := SK.draw I (B := X.A.in1) (it := b) (I.ok.hd hc) (fun _ c _ => by by_cases e : c = b <;> simp [e]) n2 hy
    exact (GoesN.zip2 (elts := es) (x1 := kk) (pos := tp) S d1 d2).stops s _ E ⟨h1, h2, h3, m1 _ h4, m2 _ h5⟩ fun h' tk hk ht => I.turnedL (ch := [z, p, q, a, b]) (fun d o hd e => hk d o (fun hm => hd (by
      simp only [List.mem_cons, List.not_mem_nil, or_false] at hm ⊢
      rcases hm with e | e | e | e <;> simp [e])) e) hf
  self := fun A i s Q E st h => wpAny_pyIter_zip st.1 h
theorem turnE {k : SK} {e it : Addr} (hei : e ≠ it) (hef : e ∉ k.fp it) (n1 : ∀ l, (k = .lst l ∨ k = .tup l) → l ≠ it) :
    Turn P w K (.Tuple es kk tp) (ItE K k) [e, it] e (fun i h => (∃ old, IsEnum h e it (0 + (i : Int)) old) ∧ k.at' it i h) where
  mem := List.mem_cons_self
  obj := by
    rintro i h ⟨⟨old, h1⟩, h2⟩ c hc
    simp only [List.mem_cons, List.not_mem_nil, or_false] at hc
    rcases hc with rfl | rfl
    · exact ⟨_, h1, fun v u => nomatch u⟩
    · exact SK.live h2
  keep := by
    rintro i h h' ⟨⟨old, h1⟩, h2⟩ u
    exact ⟨⟨old, u e (by simp) _ h1⟩, SK.keep h2 (u it (by simp))⟩
  item := by
    intro X hP hw hK hc i pins s σ H E I hf st hg
    subst hP hw hK
    obtain ⟨h1, h2⟩ := st
    obtain ⟨xs, hx, hi⟩ := hg
    obtain ⟨P1, S1, d1, r1, m1, b1⟩ := SK.draw I (B := X.A.in1) (it := it) (I.ok.hd hc) (fun _ c _ => by by_cases e : c = it <;> simp [e]) n1 hx
    refine (GoesN.enumFrom (elts := es) (x1 := kk) (pos := tp) 0 d1 e hei hef (k.fp_it it)).goes i s _ E hi ⟨h1, m1 i h2⟩ ?_
    rintro v h' tk ⟨c, t1, u2, rfl, hc', y2, hT⟩ ⟨g1, g2⟩ hk ht
    obtain ⟨x2, ex2, rx2⟩ := r1 i u2 y2
    have new : ObjOk X.prog X.w (upd H c (.tup [.int (i : Nat), x2])) h' c (.tup [.int (i : Nat), x2]) := ⟨by show 2 ≤ sizeLine; decide, [.int (0 + (i : Int)) t1, u2], .cons ⟨t1, by rw [Int.zero_add]⟩ (.cons rx2 .nil), by
      obtain ⟨o, ho, hcl, n, hd⟩ := hT
      exact ⟨o, ho, hcl, n, hd⟩⟩
    have I1 : L2.Inv X pins σ (upd H c (.tup [.int (i : Nat), x2])) { s with heap := h', toks := tk } := I.turnedNew (ch := [e, it]) (fun d o hd e => hk d o hd e) hf hc' new
    refine ⟨.ref c, _, I1, rfl, ⟨c, x2, rfl, I.hok.fresh hc', rfl, fun l hl => by rw [SK.one I hl hx]; exact ex2⟩, ⟨g1, b1 _ _ g2⟩, fun d hd => ?_⟩
    have hlt : d < s.heap.objs.size := by
      simp only [List.mem_cons, List.not_mem_nil, or_false] at hd
      rcases hd with rfl | rfl
      · obtain ⟨_, e⟩ := h1; exact Heap.lt_size e
      · obtain ⟨_, e, _⟩ := SK.live h2; exact Heap.lt_size e
    rw [upd_ne (Nat.ne_of_lt (Nat.lt_of_lt_of_le hlt hc'))]
    exact (hf d hd).1
  done := by
    intro X hP hw hK hc i pins s σ H E I hf st hg
    subst hP hw hK
    obtain ⟨h1, h2⟩ := st
    obtain ⟨xs, hx, rfl⟩ := hg
    obtain ⟨P1, S1, d1, r1, m1, b1⟩ := SK.draw I (B := X.A.in1) (it := it) (I.ok.hd hc) (fun _ c _ => by by_cases e : c = it <;> simp [e]) n1 hx
    exact (GoesN.enumFrom (elts := es) (x1 := kk) (pos := tp) 0 d1 e hei hef (k.fp_it it)).stops s _ E ⟨h1, m1 _ h2⟩ fun h' tk hk ht => I.turnedL (ch := [e, it]) (fun d o hd e => hk d o hd e) hf
  self := fun A i s Q E st h => let ⟨⟨_, he⟩, _⟩ := st; wpAny_pyIter_enum he h
end
end Qq

set_option maxHeartbeats 4000000
/-! Q6h: enumerate(e), zip(e, e2): the calls. -/
namespace Qq
open PySem PySem.Spec PyProof.Rows L2

theorem meets_enumT (l : Addr) (items : Array Value) :
    Meets (Builtin.«enumerate.__new__» ⟨[.type "enumerate", .ref l], []⟩) (fun _ R u => u.heap.IsTuple l items ∧
      R (.ok (.ret (.ref (u.heap.push { cls := .type "tuple_iterator", data := .fields #[.ref l, .int 0 0] }).objs.size)))
        { u with heap := (u.heap.push { cls := .type "tuple_iterator", data := .fields #[.ref l, .int 0 0] }).push { cls := .type "enumerate", data := .fields #[.none, .bool false, .ref u.heap.objs.size, rawInt 0, .none, .none] } }) :=
  .of_wp fun prog w A R u h => by
    obtain ⟨hp, g, d, tk, os⟩ := u
    obtain ⟨h1, h⟩ := h
    have hsub := sub_enumerate
    have qi : ∀ {B : Around} {E : Value → Shared → Prop} {Q : Value → Shared → Prop}, Q (.ref hp.objs.size) ⟨hp.push { cls := .type "tuple_iterator", data := .fields #[.ref l, .int 0 0] }, g, d, tk, os⟩ → wpAny (model prog w) B (pyIter (.ref l)) Q E ⟨hp, g, d, tk, os⟩ :=
      fun q => (begins_tuple l items).iter prog w _ _ ⟨hp, g, d, tk, os⟩ _ h1 q
    wp_walk using qi
    refine wpAny_stack_any fun st => wpAny_pure ?_
    split
    · rename_i c _ _ _ _ _
      cases (c == Value.type "enumerate") <;> (wp_walk using qi; exact ⟨_, rfl, h⟩)
    · wp_walk using qi
      exact ⟨_, rfl, h⟩
section
variable {prog : Program} {w : World} {A : Around} {E : Value → Shared → Prop} {s : Shared}
theorem call_enumT {l : Addr} {items : Array Value} {Q : Value → Shared → Prop} (h1 : s.heap.IsTuple l items)
    (h : ∀ h', IsEnum h' (s.heap.objs.size + 1) s.heap.objs.size 0 .none → h'.get? s.heap.objs.size = some { cls := .type "tuple_iterator", data := .fields #[.ref l, .int 0 0] } → h'.objs.size = s.heap.objs.size + 2 →
      (∀ b o, s.heap.get? b = some o → h'.get? b = some o) → Q (.ref (s.heap.objs.size + 1)) { s with heap := h' }) :
    wpAny (model prog w) A (call (.type "enumerate") [.ref l]) Q E s := by
  refine callType_new F.called_enumerate (by decide) (F.typeCall_enumerate_1 _) (F.newCall_enumerate_1 _) (fun obj => F.args_object_init_2 obj _) F.entry_enumerate_new (meets_enumT l items) ⟨h1, ?_⟩
  have hz : (s.heap.push { cls := .type "tuple_iterator", data := .fields #[.ref l, .int 0 0] }).objs.size = s.heap.objs.size + 1 := Heap.size_push ..
  show _ ∧ _
  rw [hz]
  have he : IsEnum ((s.heap.push { cls := .type "tuple_iterator", data := .fields #[.ref l, .int 0 0] }).push { cls := .type "enumerate", data := .fields #[.none, .bool false, .ref s.heap.objs.size, rawInt 0, .none, .none] })
      (s.heap.objs.size + 1) s.heap.objs.size 0 .none := by
    rw [← hz]; exact Heap.get?_push_size _ rfl
  exact ⟨⟨_, he, rfl⟩, h _ he (Heap.get?_push_of_some _ (Heap.get?_push_size _ rfl)) (by rw [Heap.size_push, hz]) fun b o x => Heap.get?_push_of_some _ (Heap.get?_push_of_some _ x)⟩
end
def SK.ok (k : SK) (h : Heap) : Prop := match k with
  | .lst a => ∃ its, h.IsList a its
  | .tup a => ∃ its, h.IsTuple a its
  | .str _ _ => True
def SK.of (K : PySem.W.Frag) (H : Hp) (x : V) : SK → Prop
  | .lst a => x = .ref a ∧ ∃ xs, SqL K H a xs
  | .tup a => x = .ref a ∧ ∃ xs, SqT K H a xs
  | .str z _ => x = .str z
def SK.same : SK → SK → Prop
  | .lst a, .lst b => a = b
  | .tup a, .tup b => a = b
  | .str z _, .str y _ => z = y
  | _, _ => False
theorem SK.real {X : Cx} {pins : List (Addr × Obj)} {σ : L2.St} {H : Hp} {s : Shared} (I : L2.Inv X pins σ H s) {x : V} {u : Value} {k : SK} (h : k.of X.K H x) (r : RelV x u) : ∃ k' : SK, k'.same k ∧ u = k'.vl ∧ k'.ok s.heap := by
  cases k with
  | lst a =>
    obtain ⟨rfl, xs, hx⟩ := h
    obtain ⟨its, _, p, _⟩ := I.list hx
    exact ⟨.lst a, rfl, r, _, p.isList⟩
  | tup a =>
    obtain ⟨rfl, xs, hx⟩ := h
    obtain ⟨its, _, p, _⟩ := I.tuple hx
    exact ⟨.tup a, rfl, r, its.toArray, p⟩
  | str z t =>
    have h : x = .str z := h
    subst h
    obtain ⟨t', rfl⟩ := r
    exact ⟨.str z t', rfl, rfl, trivial⟩
theorem SK.begins (k : SK) : Begins k.vl k.ib k.ok := by
  cases k with
  | lst a => exact ⟨fun prog w A E s Q ⟨its, h⟩ q => (begins_list a its).iter prog w A E s Q h q, fun h h' ⟨its, x⟩ q => ⟨its, (begins_list a its).keeps h h' x q⟩, rfl⟩
  | tup a => exact ⟨fun prog w A E s Q ⟨its, h⟩ q => (begins_tuple a its).iter prog w A E s Q h q, fun h h' ⟨its, x⟩ q => ⟨its, (begins_tuple a its).keeps h h' x q⟩, rfl⟩
  | str z t => exact begins_text z t
theorem SK.low {k : SK} {h : Heap} (q : k.ok h) : ∀ l, (k = .lst l ∨ k = .tup l) → l < h.objs.size := fun l e => by
  rcases e with rfl | rfl
  · obtain ⟨its, o, ho, _⟩ := q; exact Heap.lt_size ho
  · obtain ⟨its, o, ho, _⟩ := q; exact Heap.lt_size ho
def iZipS (K : PySem.W.Frag) (ta : TA) : TI := fun σ H R => ta σ H fun vs H1 => ∃ x y ka kb, vs = [x, y] ∧ SK.of K H1 x ka ∧ SK.of K H1 y kb ∧ ∀ k1 k2, SK.same k1 ka → SK.same k2 kb → R (ItZ K k1 k2) H1
def iEnumS (K : PySem.W.Frag) (ta : TA) : TI := fun σ H R => ta σ H fun vs H1 => ∃ x ka, vs = [x] ∧ SK.of K H1 x ka ∧ ∀ k, SK.same k ka → R (ItE K k) H1
section
variable {X : Cx} {e e2 : Expr} {ta : TA} {p pos tpos : Pos} {elts : List Expr} {kk : Nat}
theorem pi_zipS (hg : Gl X "zip") (hm : X.mg "zip" = none) (ha : PA X [e, e2] ta) (hs : starEach [e, e2] X.env = (false, eval e X.env) :: starEach [e2] X.env) (hpl : (backTo pos (starEach [e2] X.env)).any (·.1) = false) :
    PI X (.Tuple elts kk tpos) (.Call (.Name "zip" p) [e, e2] [] pos) (iZipS X.K ta) := by
  refine ⟨fun pins s σ H R I h => Call_ (ld_blt I hg hm PyProof.Rows.boot_zip (PyProof.Rows.callWith_type1 (thn (ha.run pos pins s σ H _ I h) fun us s1 q => ?_) hs hpl))⟩
  obtain ⟨vs, H1, I1, r1, x, y, ka, kb, rfl, hka, hkb, q⟩ := q
  obtain ⟨u, u2, rfl, r1, r2⟩ := vals2 r1
  obtain ⟨k1, o1, rfl, g1⟩ := SK.real I1 hka r1
  obtain ⟨k2, o2, rfl, g2⟩ := SK.real I1 hkb r2
  refine zip_begins2 k1.begins k2.begins g1 g2 fun h' z1 z2 z3 z4 z5 hsz hk => wpAny_pyIter_zip z1 ?_
  have l1 := SK.low g1
  have l2 := SK.low g2
  have S : ZipSep2 (s1.heap.objs.size + 4) (s1.heap.objs.size + 2) (s1.heap.objs.size + 3) s1.heap.objs.size (s1.heap.objs.size + 1) (k1.fp s1.heap.objs.size) (k2.fp (s1.heap.objs.size + 1)) := by
    have e1 : ∀ (k : SK) (it : Addr), (∀ l, (k = .lst l ∨ k = .tup l) → l < s1.heap.objs.size) → ∃ r, k.fp it = it :: r ∧ ∀ b ∈ r, b < s1.heap.objs.size := fun k it hl => by
      cases k with
      | lst a => exact ⟨[a], rfl, fun b hb => by have e : b = a := by simpa using hb
                                                 subst e; exact hl b (.inl rfl)⟩
      | tup a => exact ⟨[a], rfl, fun b hb => by have e : b = a := by simpa using hb
                                                 subst e; exact hl b (.inr rfl)⟩
      | str z t => exact ⟨[], rfl, fun b hb => nomatch hb⟩
    obtain ⟨f1, ef1, hf1⟩ := e1 k1 s1.heap.objs.size l1
    obtain ⟨f2, ef2, hf2⟩ := e1 k2 (s1.heap.objs.size + 1) l2
    rw [ef1, ef2]
    exact zip_sep2 hf1 hf2
  have I2 : L2.Inv X pins σ H1 { s1 with heap := h' } := I1.kept (t' := s1.toks) hk
  refine ⟨s1.heap.objs.size + 4, [s1.heap.objs.size + 4, s1.heap.objs.size + 2, s1.heap.objs.size + 3, s1.heap.objs.size, s1.heap.objs.size + 1], _, _, H1, rfl, I2, turnZ S (fun l hl => Nat.ne_of_lt (l1 l hl)) (fun l hl => Nat.ne_of_lt (Nat.lt_succ_of_lt (l2 l hl))), ⟨z1, z2, ⟨_, _, z3⟩, SK.at0 z4, SK.at0 z5⟩, fun c hc => ?_, q k1 k2 o1 o2⟩
  have hle : s1.heap.objs.size ≤ c := by
    simp only [List.mem_cons, List.not_mem_nil, or_false] at hc
    rcases hc with e | e | e | e | e <;> rw [e] <;> first | exact Nat.le_refl _ | exact Nat.le_add_right _ _
  exact I1.fpOk hle (I1.hok.fresh hle)
theorem pi_enumS (hg : Gl X "enumerate") (hm : X.mg "enumerate" = none) (ha : PA X [e] ta) (hs : starEach [e] X.env = [(false, eval e X.env)]) : PI X (.Tuple elts kk tpos) (.Call (.Name "enumerate" p) [e] [] pos) (iEnumS X.K ta) := by
  refine ⟨fun pins s σ H R I h => Call_ (ld_blt I hg hm boot_enumerate (PyProof.Rows.callWith_type1 (thn (ha.run pos pins s σ H _ I h) fun us s1 q => ?_) hs rfl))⟩
  obtain ⟨vs, H1, I1, r1, x, ka, rfl, hka, q⟩ := q
  obtain ⟨u, rfl, rx⟩ := vals1 r1
  obtain ⟨k, o1, rfl, g1⟩ := SK.real I1 hka rx
  have l1 := SK.low g1
  have fin : ∀ h', IsEnum h' (s1.heap.objs.size + 1) s1.heap.objs.size 0 .none → k.at' s1.heap.objs.size 0 h' → (∀ b o, s1.heap.get? b = some o → h'.get? b = some o) →
      wpAny (model X.prog X.w) X.A (pyIter (.ref (s1.heap.objs.size + 1))) (PIE X pins σ (.Tuple elts kk tpos) R) X.xe { s1 with heap := h' } := fun h' he ha hk => wpAny_pyIter_enum he (by
    have I2 : L2.Inv X pins σ H1 { s1 with heap := h' } := I1.kept (t' := s1.toks) hk
    refine ⟨s1.heap.objs.size + 1, [s1.heap.objs.size + 1, s1.heap.objs.size], _, _, H1, rfl, I2, turnE (k := k) (it := s1.heap.objs.size) (Nat.succ_ne_self _) (fun hm => ?_) (fun l hl => Nat.ne_of_lt (l1 l hl)), ⟨⟨.none, he⟩, ha⟩, fun c hc => ?_, q k o1⟩
    · cases k with
      | lst a =>
        have : s1.heap.objs.size + 1 = s1.heap.objs.size ∨ s1.heap.objs.size + 1 = a := by simpa [SK.fp] using hm
        have := l1 a (.inl rfl)
        rcases ‹_ ∨ _› with z | z
        · exact Nat.succ_ne_self _ z
        · rw [← z] at this; exact Nat.not_succ_lt_self this
      | tup a =>
        have : s1.heap.objs.size + 1 = s1.heap.objs.size ∨ s1.heap.objs.size + 1 = a := by simpa [SK.fp] using hm
        have := l1 a (.inr rfl)
        rcases ‹_ ∨ _› with z | z
        · exact Nat.succ_ne_self _ z
        · rw [← z] at this; exact Nat.not_succ_lt_self this
      | str z t =>
        have : s1.heap.objs.size + 1 = s1.heap.objs.size := by simpa [SK.fp] using hm
        exact Nat.succ_ne_self _ this
    · have hle : s1.heap.objs.size ≤ c := by
        simp only [List.mem_cons, List.not_mem_nil, or_false] at hc
        rcases hc with e | e <;> rw [e] <;> first | exact Nat.le_refl _ | exact Nat.le_add_right _ _
      exact I1.fpOk hle (I1.hok.fresh hle))
  cases k with
  | lst a =>
    obtain ⟨its, g⟩ := g1
    exact call_enumerate_list g fun h' he hit hsz hk => fin h' he hit hk
  | tup a =>
    obtain ⟨its, g⟩ := g1
    exact call_enumT g fun h' he hit hsz hk => fin h' he (SK.at0 hit) hk
  | str z t => exact call_enumerate_str fun h' he hit hsz hk => fin h' he hit hk
end
end Qq

set_option maxHeartbeats 4000000
/-! Q6: what loops go through; comprehensions. -/
namespace Qq
open PySem PySem.Spec PyProof.Rows L2

/-- an iterator over values that stand for the trees ts gives what stands for the items -/
structure SrcOk (K : PySem.W.Frag) (G0 : Hp) (J : It) (vs : List V) (ts is : List T) : Prop where
  go : ∀ i G H, Fz G0 G → Fz G H → VwL K G H vs ts → i < is.length → J.go i H
  stop : ∀ G H, Fz G0 G → Fz G H → VwL K G H vs ts → J.stop is.length H
  yld : ∀ i G H x H', Fz G0 G → Fz G H → VwL K G H vs ts → i < is.length → J.yld i H x H' → ∃ G' t, is[i]? = some t ∧ Al G H G' H' ∧ Rp K G' x t

theorem len_enumT : ∀ (ds : List T) (n : Nat), (enumT n ds).length = ds.length
  | [], _ => rfl
  | d :: r, n => by unfold enumT; rw [List.length_cons, List.length_cons, len_enumT r]
theorem get_enumT : ∀ (ds : List T) (n i : Nat) (d : T), ds[i]? = some d → (enumT n ds)[i]? = some (.tup [.int ((n + i : Nat) : Int), d])
  | [], _, _, _, h => by simp at h
  | e :: r, n, 0, d, h => by simp at h; subst h; rfl
  | e :: r, n, i + 1, d, h => by
    unfold enumT
    rw [List.getElem?_cons_succ] at h ⊢
    rw [get_enumT r (n + 1) i d h]
    have : n + 1 + i = n + (i + 1) := by omega
    rw [this]
theorem len_zipT : ∀ (ds es : List T), (zipT ds es).length = min ds.length es.length
  | [], _ => by simp [zipT]
  | _ :: _, [] => by simp [zipT]
  | d :: r, e :: s => by unfold zipT; rw [List.length_cons, List.length_cons, List.length_cons, len_zipT r s]; omega
theorem get_zipT : ∀ (ds es : List T) (i : Nat) (d e : T), ds[i]? = some d → es[i]? = some e → (zipT ds es)[i]? = some (.tup [d, e])
  | [], _, _, _, _, h, _ => by simp at h
  | _ :: _, [], _, _, _, _, h => by simp at h
  | a :: r, b :: s, 0, d, e, h, h' => by simp at h h'; subst h h'; rfl
  | a :: r, b :: s, i + 1, d, e, h, h' => by
    unfold zipT
    rw [List.getElem?_cons_succ] at h h' ⊢
    exact get_zipT r s i d e h h'
theorem len_upT : ∀ (n : Nat) (a : Int), (upT a n).length = n
  | 0, _ => rfl
  | n + 1, a => by unfold upT; rw [List.length_cons, len_upT n]
theorem get_upT : ∀ (n : Nat) (a : Int) (i : Nat), i < n → (upT a n)[i]? = some (.int (a + (i : Nat)))
  | 0, _, _, h => by omega
  | n + 1, a, 0, _ => by simp [upT]
  | n + 1, a, i + 1, h => by
    unfold upT
    rw [List.getElem?_cons_succ, get_upT n (a + 1) i (by omega)]
    congr 2
    push_cast
    omega
section
variable {K : PySem.W.Frag}
theorem RpL.get' {G : Hp} {vs : List V} {ds : List T} {i : Nat} {v : V} (r : RpL K G vs ds) (h : vs[i]? = some v) : ∃ d, ds[i]? = some d ∧ Rp K G v d := by
  have hi : i < ds.length := by rw [← r.length]; exact (List.getElem?_eq_some_iff.mp h).1
  obtain ⟨v', h1, h2⟩ := r.get (i := i) (d := ds[i]) (by simp [hi])
  rw [h] at h1; cases h1
  exact ⟨_, by simp [hi], h2⟩
theorem src_lst {G0 : Hp} {a : Addr} {ds : List T} : SrcOk K G0 (Itl K a) [.ref a] [.lst ds] ds where
  go := fun i G H _ f h hi => by
    obtain ⟨x, e, h1⟩ := h.one
    cases e
    obtain ⟨b, xs, e, h2, h3⟩ := h1.lst_inv f
    cases e
    have hi' : i < xs.length := by rw [h3.length]; exact hi
    exact ⟨xs, xs[i], .inl h2, by simp [hi']⟩
  stop := fun G H _ f h => by
    obtain ⟨x, e, h1⟩ := h.one
    cases e
    obtain ⟨b, xs, e, h2, h3⟩ := h1.lst_inv f
    cases e
    exact ⟨xs, .inl h2, by rw [h3.length]; exact Nat.le_refl _⟩
  yld := fun i G H x H' _ f h hi y => by
    obtain ⟨x', e, h1⟩ := h.one
    cases e
    obtain ⟨b, xs, e, h2, h3⟩ := h1.lst_inv f
    cases e
    obtain ⟨e, y⟩ := y
    subst e
    obtain ⟨d, h4, h5⟩ := h3.get' (y xs (.inl h2))
    exact ⟨G, d, h4, Al.refl f, h5⟩
theorem src_scr {G0 : Hp} {a : Addr} {ns : List Int} : SrcOk K G0 (Itl K a) [.ref a] [.scr ns] (ns.map T.int) where
  go := fun i G H _ f h hi => by
    obtain ⟨x, e, h1⟩ := h.one
    cases e
    obtain ⟨b, e, h2⟩ := h1.scr_inv f
    cases e
    have hi' : i < (ns.map V.int).length := by rw [List.length_map] at hi ⊢; exact hi
    exact ⟨_, (ns.map V.int)[i], h2, List.getElem?_eq_getElem hi'⟩
  stop := fun G H _ f h => by
    obtain ⟨x, e, h1⟩ := h.one
    cases e
    obtain ⟨b, e, h2⟩ := h1.scr_inv f
    cases e
    exact ⟨_, h2, by rw [List.length_map, List.length_map]; exact Nat.le_refl _⟩
  yld := fun i G H x H' _ f h hi y => by
    obtain ⟨x', e, h1⟩ := h.one
    cases e
    obtain ⟨b, e, h2⟩ := h1.scr_inv f
    cases e
    obtain ⟨e, y⟩ := y
    subst e
    obtain ⟨d, h4, h5⟩ := (RpL.ints (K := K) (G := G) ns).get' (y _ h2)
    exact ⟨G, d, h4, Al.refl f, h5⟩
theorem src_tup {G0 : Hp} {a : Addr} {ds : List T} : SrcOk K G0 (Itt K a) [.ref a] [.tup ds] ds where
  go := fun i G H _ f h hi => by
    obtain ⟨x, e, h1⟩ := h.one
    cases e
    obtain ⟨b, xs, e, h2, h3⟩ := h1.tup_inv f
    cases e
    have hi' : i < xs.length := by rw [h3.length]; exact hi
    exact ⟨xs, xs[i], SqT.of h2, by simp [hi']⟩
  stop := fun G H _ f h => by
    obtain ⟨x, e, h1⟩ := h.one
    cases e
    obtain ⟨b, xs, e, h2, h3⟩ := h1.tup_inv f
    cases e
    exact ⟨xs, SqT.of h2, by rw [h3.length]; exact Nat.le_refl _⟩
  yld := fun i G H x H' _ f h hi y => by
    obtain ⟨x', e, h1⟩ := h.one
    cases e
    obtain ⟨b, xs, e, h2, h3⟩ := h1.tup_inv f
    cases e
    obtain ⟨e, y⟩ := y
    subst e
    obtain ⟨d, h4, h5⟩ := h3.get' (y xs (SqT.of h2))
    exact ⟨G, d, h4, Al.refl f, h5⟩
theorem src_str {G0 : Hp} {z : Str} : SrcOk K G0 (Its z) [.str z] [.str z] (charsT z) where
  go := fun i G H _ f h hi => by
    unfold charsT at hi
    rw [List.length_map, Array.length_toList] at hi
    exact hi
  stop := fun G H _ f h => by
    unfold charsT
    show z.cps.size ≤ _
    rw [List.length_map, Array.length_toList]; exact Nat.le_refl _
  yld := fun i G H x H' _ f h hi y => by
    obtain ⟨e, c, hc, rfl⟩ := y
    subst e
    refine ⟨G, .str ⟨#[c]⟩, ?_, Al.refl f, .str _⟩
    unfold charsT
    rw [List.getElem?_map, Array.getElem?_toList, hc]; rfl
theorem src_rng {G0 : Hp} {lo : Int} {n : Nat} {vs : List V} {ts : List T} : SrcOk K G0 (Itr lo n) vs ts (upT lo n) where
  go := fun i G H _ f h hi => by rw [len_upT] at hi; exact hi
  stop := fun G H _ f h => by rw [len_upT]; exact Nat.le_refl n
  yld := fun i G H x H' _ f h hi y => by
    rw [len_upT] at hi
    obtain ⟨e, rfl⟩ := y
    subst e
    exact ⟨G, _, get_upT n lo i hi, Al.refl f, .int _⟩
theorem pair_al {G H H' : Hp} (f : Fz G H) {p : Addr} {x y : V} {d e : T} (hp : H p = none) (hH : H' = upd H p (.tup [x, y])) (h1 : Rp K G x d) (h2 : Rp K G y e) : ∃ G', Al G H G' H' ∧ Rp K G' (.ref p) (.tup [d, e]) := by
  subst hH
  have al : Al G H (upd G p (.tup [x, y])) (upd H p (.tup [x, y])) := Al.lay f hp fun ob u z => by cases z
  exact ⟨_, al, .tup upd_same (.cons (h1.mono al.fz) (.cons (h2.mono al.fz) .nil))⟩
/-- which draw goes through a tree -/
inductive SkD : SK → V → T → Prop
  | lst {a : Addr} {ds : List T} : SkD (.lst a) (.ref a) (.lst ds)
  | scr {a : Addr} {ns : List Int} : SkD (.lst a) (.ref a) (.scr ns)
  | tup {a : Addr} {ds : List T} : SkD (.tup a) (.ref a) (.tup ds)
  | str {z : Str} {t : Tok} : SkD (.str z t) (.str z) (.str z)
theorem SkD.like {k k' : SK} {x : V} {d : T} (h : SkD k x d) (e : k'.same k) : SkD k' x d := by
  cases h <;> cases k' <;> first | exact (show False from e).elim | skip
  · have e := (show _ = _ from e); subst e; exact .lst
  · have e := (show _ = _ from e); subst e; exact .scr
  · have e := (show _ = _ from e); subst e; exact .tup
  · have e := (show _ = _ from e); subst e; exact .str
theorem chV_rp {G : Hp} (z : Str) : RpL K G (chV z) (charsT z) := charsT_rp z _ rfl
theorem SkD.has {k : SK} {x : V} {d : T} {ds : List T} {G H : Hp} (h : SkD k x d) (f : Fz G H) (v : Vw K G H x d) (e : seqT d = some ds) : ∃ xs, k.has K H xs ∧ RpL K G xs ds := by
  cases h with
  | lst =>
    cases e
    obtain ⟨a, xs, e, h2, h3⟩ := v.lst_inv f
    cases e
    exact ⟨xs, .inl h2, h3⟩
  | scr =>
    cases e
    obtain ⟨a, e, h2⟩ := v.scr_inv f
    cases e
    exact ⟨_, h2, RpL.ints _⟩
  | tup =>
    cases e
    obtain ⟨a, xs, e, h2, h3⟩ := v.tup_inv f
    cases e
    exact ⟨xs, SqT.of h2, h3⟩
  | str => cases e; exact ⟨_, rfl, chV_rp _⟩
theorem SkD.mk {x : V} {d : T} {ds : List T} {G H : Hp} (f : Fz G H) (v : Vw K G H x d) (e : seqT d = some ds) : ∃ k : SK, SkD k x d ∧ k.of K H x := by
  unfold seqT at e
  split at e
  · obtain ⟨a, xs, rfl, h2, h3⟩ := v.lst_inv f
    exact ⟨_, .lst, rfl, xs, .inl h2⟩
  · obtain ⟨a, xs, rfl, h2, h3⟩ := v.tup_inv f
    exact ⟨_, .tup, rfl, xs, SqT.of h2⟩
  · obtain ⟨a, rfl, h2⟩ := v.scr_inv f
    exact ⟨_, .scr, rfl, _, h2⟩
  · cases v.str_inv
    exact ⟨_, .str (t := 0), rfl⟩
  · cases e
theorem src_enum {G0 : Hp} {k : SK} {x : V} {d : T} {ds : List T} (hk : SkD k x d) (he : seqT d = some ds) : SrcOk K G0 (ItE K k) [x] [d] (enumT 0 ds) where
  go := fun i G H _ f h hi => by
    rw [len_enumT] at hi
    obtain ⟨x', e, h1⟩ := h.one
    cases e
    obtain ⟨xs, h2, h3⟩ := hk.has f h1 he
    exact ⟨xs, h2, by rw [h3.length]; exact hi⟩
  stop := fun G H _ f h => by
    rw [len_enumT]
    obtain ⟨x', e, h1⟩ := h.one
    cases e
    obtain ⟨xs, h2, h3⟩ := hk.has f h1 he
    exact ⟨xs, h2, h3.length.symm⟩
  yld := fun i G H y H' _ f h hi yy => by
    rw [len_enumT] at hi
    obtain ⟨x', e, h1⟩ := h.one
    cases e
    obtain ⟨xs, h2, h3⟩ := hk.has f h1 he
    obtain ⟨p, u, rfl, hp, hH, e2⟩ := yy
    obtain ⟨d', h4, h5⟩ := h3.get' (e2 xs h2)
    obtain ⟨G', al, r⟩ := pair_al f hp hH (.int _) h5
    have := get_enumT ds 0 i d' h4
    rw [Nat.zero_add] at this
    exact ⟨G', _, this, al, r⟩
theorem src_zip {G0 : Hp} {k k' : SK} {x x' : V} {d d' : T} {ds ds' : List T} (hk : SkD k x d) (he : seqT d = some ds) (hk' : SkD k' x' d') (he' : seqT d' = some ds') : SrcOk K G0 (ItZ K k k') [x, x'] [d, d'] (zipT ds ds') where
  go := fun i G H _ f h hi => by
    rw [len_zipT] at hi
    obtain ⟨y, y', e, h1, h1'⟩ := h.two
    cases e
    obtain ⟨xs, h2, h3⟩ := hk.has f h1 he
    obtain ⟨xs', h2', h3'⟩ := hk'.has f h1' he'
    exact ⟨xs, xs', h2, h2', by rw [h3.length, h3'.length]; exact hi⟩
  stop := fun G H _ f h => by
    rw [len_zipT]
    obtain ⟨y, y', e, h1, h1'⟩ := h.two
    cases e
    obtain ⟨xs, h2, h3⟩ := hk.has f h1 he
    obtain ⟨xs', h2', h3'⟩ := hk'.has f h1' he'
    exact ⟨xs, xs', h2, h2', by rw [h3.length, h3'.length]⟩
  yld := fun i G H z H' _ f h hi yy => by
    rw [len_zipT] at hi
    obtain ⟨y, y', e, h1, h1'⟩ := h.two
    cases e
    obtain ⟨xs, h2, h3⟩ := hk.has f h1 he
    obtain ⟨xs', h2', h3'⟩ := hk'.has f h1' he'
    obtain ⟨p, u, w, rfl, hp, hH, e2, e3⟩ := yy
    obtain ⟨d1, h4, h5⟩ := h3.get' (e2 xs h2)
    obtain ⟨d2, h4', h5'⟩ := h3'.get' (e3 xs' h2')
    obtain ⟨G', al, r⟩ := pair_al f hp hH h5 h5'
    exact ⟨G', _, get_zipT ds ds' i d1 d2 h4 h4', al, r⟩
/-! dicts that are known exactly -/
theorem RpK.get : ∀ {G : Hp} {xs : List (Key × V)} {kvs : List (Key × T)} {i : Nat} {k : Key} {v : V}, RpK K G xs kvs → xs[i]? = some (k, v) → ∃ d, kvs[i]? = some (k, d) ∧ Rp K G v d
  | _, _, _, _, _, _, .nil, e => by simp at e
  | _, _, _, 0, _, _, .cons r _, e => by simp at e; obtain ⟨rfl, rfl⟩ := e; exact ⟨_, rfl, r⟩
  | _, _, _, i + 1, k, v, .cons _ t, e => RpK.get (i := i) t (by simpa using e)
theorem RpQ.get : ∀ {G : Hp} {xs : List (List Key × V)} {kvs : List (List Key × T)} {i : Nat} {k : List Key} {v : V}, RpQ K G xs kvs → xs[i]? = some (k, v) → ∃ d, kvs[i]? = some (k, d) ∧ Rp K G v d
  | _, _, _, _, _, _, .nil, e => by simp at e
  | _, _, _, 0, _, _, .cons r _, e => by simp at e; obtain ⟨rfl, rfl⟩ := e; exact ⟨_, rfl, r⟩
  | _, _, _, i + 1, k, v, .cons _ t, e => RpQ.get (i := i) t (by simpa using e)
theorem kT_rp {G : Hp} (k : Key) : Rp K G (kV k) (kT k) := by
  cases k with
  | inl i => exact .int i
  | inr x => exact .str x
theorem keys_rp {G : Hp} : ∀ ks : List Key, RpL K G (ks.map kV) (ks.map kT)
  | [] => .nil
  | k :: ks => .cons (kT_rp k) (keys_rp ks)
theorem frz_at {G0 G H : Hp} {d : Addr} {o : Obj} {u : HO} (g : G0 d = some (.frz o u)) (f0 : Fz G0 G) (f : Fz G H) : H d = some (.frz o u) := f.st _ _ (f0.st _ _ g trivial) trivial
theorem src_keys {G0 : Hp} {d : Addr} {o : Obj} {xs : List (Key × V)} {kvs : List (Key × T)} (g : G0 d = some (.frz o (.dK xs))) (r : RpK K G0 xs kvs) : SrcOk K G0 (Itk d o xs) [.ref d] [.dK kvs] (kvs.map fun kv => kT kv.1) where
  go := fun i G H f0 f h hi => ⟨frz_at g f0 f, by rw [List.length_map] at hi; rw [r.length]; exact hi⟩
  stop := fun G H f0 f h => ⟨frz_at g f0 f, by rw [List.length_map, r.length]; exact Nat.le_refl _⟩
  yld := fun i G H x H' f0 f h hi y => by
    obtain ⟨rfl, k, v, e, rfl⟩ := y
    obtain ⟨dd, h1, h2⟩ := r.get e
    exact ⟨G, kT k, by rw [List.getElem?_map, h1]; rfl, Al.refl f, kT_rp k⟩
theorem src_items {G0 : Hp} {d : Addr} {o : Obj} {xs : List (Key × V)} {kvs : List (Key × T)} (g : G0 d = some (.frz o (.dK xs))) (r : RpK K G0 xs kvs) : SrcOk K G0 (Iti d o xs) [.ref d] [.dK kvs] (kvs.map fun kv => .tup [kT kv.1, kv.2]) where
  go := fun i G H f0 f h hi => ⟨frz_at g f0 f, by rw [List.length_map] at hi; rw [r.length]; exact hi⟩
  stop := fun G H f0 f h => ⟨frz_at g f0 f, by rw [List.length_map, r.length]; exact Nat.le_refl _⟩
  yld := fun i G H x H' f0 f h hi y => by
    obtain ⟨p, k, v, e, rfl, hp, hH⟩ := y
    obtain ⟨dd, h1, h2⟩ := r.get e
    obtain ⟨G', al, q⟩ := pair_al f hp hH (kT_rp k) (h2.mono f0)
    exact ⟨G', _, by rw [List.getElem?_map, h1]; rfl, al, q⟩
end

/-! ### PI -/
section
variable {X : Cx} {W : WX} {cl : Nat → List D → Sto → R D} {pm : Nat → List D → List D → Option (List D)} {pos : Pos} {tg e1 e2 e3 : Expr} {a b c : C}
theorem PI.imp {t t' : TI} (h : PI X tg e1 t) (q : ∀ σ H R, t' σ H R → t σ H R) : PI X tg e1 t' := ⟨fun pins s σ H R I z => h.run pins s σ H R I (q _ _ _ z)⟩
/-- a list, a tuple, a text -/
theorem pi_any {te : TE} (he : PE X e1 te) : PI X tg e1 (fun σ H R => te σ H fun x H1 => (∃ a xs, x = .ref a ∧ SqL X.K H1 a xs ∧ R (Itl X.K a) H1) ∨ (∃ a xs, x = .ref a ∧ SqT X.K H1 a xs ∧ R (Itt X.K a) H1) ∨ (∃ z, x = .str z ∧ R (Its z) H1) ∨ ∃ d kvs, x = .ref d ∧ ((∃ o, H1 d = some (.frz o (.dK kvs)) ∧ R (Itk d o kvs) H1) ∨ (H1 d = some (.dK kvs) ∧ ∀ o, R (Itk d o kvs) (upd H1 d (.frz o (.dK kvs)))))) := by
  have go : ∀ (P : V → Hp → Prop), (∀ (x : V) (H1 : Hp), P x H1 → True) → True := fun _ _ => trivial
  refine ⟨fun pins s σ H R I h => ?_⟩
  refine thn (he.run pins s σ H _ I h) fun v s1 ⟨x, H1, I1, r1, q1⟩ => ?_
  have one : PE { X with } e1 te := he
  rcases q1 with ⟨a, xs, e, hq, q⟩ | ⟨a, xs, e, hq, q⟩ | ⟨z, e, q⟩ | ⟨d, kvs, e, q⟩
  · subst e
    cases r1
    obtain ⟨its, rv, p, hz⟩ := I1.list hq
    refine wpAny_pyIter_list p.isList ?_
    refine ⟨s1.heap.objs.size, [s1.heap.objs.size], _, _, H1, rfl, I1.kept (t' := s1.toks) fun b o e => Heap.get?_push_of_some _ e, turn_list a _, ⟨_, Heap.get?_push_size _ rfl, rfl, rfl⟩, fun b hb => ?_, q⟩
    have e : b = s1.heap.objs.size := by simpa using hb
    subst e
    exact I1.fpOk (Nat.le_refl _) (I1.hok.fresh (Nat.le_refl _))
  · subst e
    cases r1
    obtain ⟨its, rv, p, hz⟩ := I1.tuple hq
    refine wpAny_pyIter_tuple (show s1.heap.IsTuple a its.toArray from p) ?_
    refine ⟨s1.heap.objs.size, [s1.heap.objs.size], _, _, H1, rfl, I1.kept (t' := s1.toks) fun b o e => Heap.get?_push_of_some _ e, turn_tuple a _, ⟨_, Heap.get?_push_size _ rfl, rfl, rfl⟩, fun b hb => ?_, q⟩
    have e : b = s1.heap.objs.size := by simpa using hb
    subst e
    exact I1.fpOk (Nat.le_refl _) (I1.hok.fresh (Nat.le_refl _))
  · subst e
    obtain ⟨t, rfl⟩ := r1
    cases ha : z.cps.all (· < 128)
    · exact wpAny_pyIter_wide ha (pi_one (tk := s1.toks) I1 _ (turn_str _ z t "str_iterator" (.inr rfl)) ⟨_, Heap.get?_push_size _ rfl, rfl, rfl⟩ q)
    · exact wpAny_pyIter_ascii ha (pi_one (tk := s1.toks) I1 _ (turn_str _ z t "str_ascii_iterator" (.inl rfl)) ⟨_, Heap.get?_push_size _ rfl, rfl, rfl⟩ q)
  · subst e
    obtain rfl : v = Value.ref d := r1
    have fin : ∀ (H2 : Hp) (o : Obj), L2.Inv X pins σ H2 s1 → H2 d = some (.frz o (.dK kvs)) → R (Itk d o kvs) H2 → wpAny (model X.prog X.w) X.A (pyIter (.ref d)) (PIE X pins σ tg R) X.xe s1 := fun H2 o I2 hd q => by
      obtain ⟨hs, hgd, hx, es, ep, vs, hdt, hsz, kv, hm⟩ := I2.frzK hd
      refine iter_keys hs hgd hx hdt (pi_one (tk := s1.toks) I2 _ (turn_keys _ hdt) ⟨_, Heap.get?_push_size _ rfl, rfl, ?_⟩ q)
      rw [hsz] <;> rfl
    rcases q with ⟨o, hd, q⟩ | ⟨hd, q⟩
    · exact fin H1 o I1 hd q
    · obtain ⟨od, I2⟩ := I1.lock hd trivial
      exact fin _ od I2 upd_same (q od)
end
/-- a dict, known exactly from now on -/
def itR (R : It → Hp → Prop) (x : V) (H : Hp) : Prop := ∃ d o kvs, x = .ref d ∧ H d = some (.frz o (.dK kvs)) ∧ R (Iti d o kvs) H
theorem pi_itemsL {X : Cx} {e1 : Expr} {te : TE} {apos cpos tpos : Pos} {elts : List Expr} {kk : Nat} (he : PE X e1 te) (hbase : attributeBase e1 "items" X.env (eval e1 X.env) = eval e1 X.env) (hline : (apos.endLine == cpos.line) = true) :
    PI X (.Tuple elts kk tpos) (.Call (.Attribute e1 "items" apos) [] [] cpos) (fun σ H R => te σ H fun x H1 => ∃ d kvs, x = .ref d ∧ ((∃ o, H1 d = some (.frz o (.dK kvs)) ∧ itR R x H1) ∨ (H1 d = some (.dK kvs) ∧ ∀ o, itR R x (upd H1 d (.frz o (.dK kvs)))))) := by
  have key : PE X e1 (fun σ H Q => te σ H fun x H1 => ∃ d kvs, x = .ref d ∧ ((∃ o, H1 d = some (.frz o (.dK kvs)) ∧ Q x H1) ∨ (H1 d = some (.dK kvs) ∧ ∀ o, Q x (upd H1 d (.frz o (.dK kvs)))))) := by
    refine ⟨fun pins s σ H Q I h => ?_⟩
    refine thn (he.run pins s σ H _ I h) fun u s1 ⟨x, H1, I1, rx, d, kvs, ex, q⟩ => ?_
    rcases q with ⟨o, hd, q⟩ | ⟨hd, q⟩
    · exact ⟨x, H1, I1, rx, q⟩
    · obtain ⟨od, I2⟩ := I1.lock hd trivial
      exact ⟨x, _, I2, rx, q od⟩
  refine PI.imp (pi_items key hbase hline) ?_
  intro σ H R h
  exact h
def tI (K : PySem.W.Frag) (W : WX) (cl : Nat → List D → Sto → R D) (pm : Nat → List D → List D → Option (List D)) (k : IK) (l : C) : TI := fun σ H R =>
  tA K W cl pm l σ H (fun vs H1 => ∃ G ts is, Fz G H1 ∧ VwL K G H1 vs ts ∧ (dkB ts = true → RpL K G vs ts) ∧ itT k ts = some is ∧ ∀ G2 H2 J, Lk G H1 G2 H2 → SrcOk K G2 J vs ts is → R J H2)
section
variable {X : Cx} {W : WX} {cl : Nat → List D → Sto → R D} {pm : Nat → List D → List D → Option (List D)} {pos p tpos apos cpos : Pos} {tg e1 e2 e3 : Expr} {a b c l : C} {elts : List Expr} {kk : Nat}
/-- a frozen dict, locked -/
theorem dk_lock {K : PySem.W.Frag} {G H : Hp} {v : V} {kvs : List (Key × T)} {is : List T} (f : Fz G H) (r : Rp K G v (.dK kvs)) {J : Addr → Obj → List (Key × V) → It} {R : It → Hp → Prop} (hJ : ∀ (G0 : Hp) (d : Addr) (o : Obj) (xs : List (Key × V)), G0 d = some (.frz o (.dK xs)) → RpK K G0 xs kvs → SrcOk K G0 (J d o xs) [.ref d] [.dK kvs] is)
    (hR : ∀ G2 H2 Ji, Lk G H G2 H2 → SrcOk K G2 Ji [v] [.dK kvs] is → R Ji H2) : ∃ d xs, v = .ref d ∧ ((∃ o, H d = some (.frz o (.dK xs)) ∧ R (J d o xs) H) ∨ (H d = some (.dK xs) ∧ ∀ o, R (J d o xs) (upd H d (.frz o (.dK xs))))) := by
  cases r with
  | dK s q =>
    rename_i d xs
    refine ⟨d, xs, rfl, ?_⟩
    rcases s with s | ⟨o, s⟩
    · rcases f.rd d _ (.inl s) with z | ⟨o, z⟩
      · refine .inr ⟨z, fun o => ?_⟩
        have l : Lk G H (upd G d (.frz o (.dK xs))) (upd H d (.frz o (.dK xs))) := .inr ⟨d, _, o, s, .inl z, .inl ⟨xs, rfl⟩, rfl, rfl⟩
        exact hR _ _ _ l (hJ _ d o xs upd_same (q.mono l.fz))
      · have l : Lk G H (upd G d (.frz o (.dK xs))) (upd H d (.frz o (.dK xs))) := .inr ⟨d, _, o, s, .inr z, .inl ⟨xs, rfl⟩, rfl, rfl⟩
        have w := hR _ _ _ l (hJ _ d o xs upd_same (q.mono l.fz))
        rw [upd_self z] at w
        exact .inl ⟨o, z, w⟩
    · exact .inl ⟨o, f.st _ _ s trivial, hR G H _ (.inl ⟨rfl, rfl⟩) (hJ G d o xs s q)⟩
theorem qi_seq (ha : PE X e1 (tE X.K W cl pm a)) : PI X tg e1 (tI X.K W cl pm .seq (.cons a .nil)) := by
  refine PI.imp (pi_any ha) ?_
  rintro σ H R' ⟨B, G, m, S, r, hP, hE, q⟩
  refine tE_mono (stepE hP hE q) ?_
  rintro v H1 ⟨G1, m1, S1, d, i1, f1, P1, E1, r1, q1⟩
  obtain ⟨G2, ts, is, f2, vw, hdk, hi, hR⟩ := q1 [v] H1 G1 m1 (pre_rfl m1) (Fz.refl G1) P1 ⟨[d], rfl, .cons r1 .nil⟩
  have l0 : Lk G2 H1 G2 H1 := .inl ⟨rfl, rfl⟩
  unfold itT at hi
  split at hi <;> rename_i hk <;> first | cases hk | skip
  · cases hi
    obtain ⟨x, e, h1⟩ := vw.one
    cases e
    cases hdk rfl with
    | cons rr _ => exact .inr (.inr (.inr (dk_lock f2 rr (fun G0 d o xs => src_keys) fun G2' H2 J l s => hR G2' H2 J l s)))
  · cases hi
    obtain ⟨x, e, h1⟩ := vw.one
    cases e
    obtain ⟨ad, xs, rfl, h2, h3⟩ := h1.lst_inv f2
    exact .inl ⟨ad, xs, rfl, .inl h2, hR _ _ _ l0 src_lst⟩
  · cases hi
    obtain ⟨x, e, h1⟩ := vw.one
    cases e
    obtain ⟨ad, xs, rfl, h2, h3⟩ := h1.tup_inv f2
    exact .inr (.inl ⟨ad, xs, rfl, SqT.of h2, hR _ _ _ l0 src_tup⟩)
  · cases hi
    obtain ⟨x, e, h1⟩ := vw.one
    cases e
    obtain ⟨ad, rfl, h2⟩ := h1.scr_inv f2
    exact .inl ⟨ad, _, rfl, h2, hR _ _ _ l0 src_scr⟩
  · cases hi
    obtain ⟨x, e, h1⟩ := vw.one
    cases e
    cases h1.str_inv
    exact .inr (.inr (.inl ⟨_, rfl, hR _ _ _ l0 src_str⟩))
  · cases hi
theorem qi_items (ha : PE X e1 (tE X.K W cl pm a)) (hbase : attributeBase e1 "items" X.env (eval e1 X.env) = eval e1 X.env) (hline : (apos.endLine == cpos.line) = true) : PI X (.Tuple elts kk tpos) (.Call (.Attribute e1 "items" apos) [] [] cpos) (tI X.K W cl pm .items (.cons a .nil)) := by
  refine PI.imp (pi_itemsL ha hbase hline) ?_
  rintro σ H R' ⟨B, G, m, S, r, hP, hE, q⟩
  refine tE_mono (stepE hP hE q) ?_
  rintro v H1 ⟨G1, m1, S1, d, i1, f1, P1, E1, r1, q1⟩
  obtain ⟨G2, ts, is, f2, vw, hdk, hi, hR⟩ := q1 [v] H1 G1 m1 (pre_rfl m1) (Fz.refl G1) P1 ⟨[d], rfl, .cons r1 .nil⟩
  unfold itT at hi
  split at hi <;> rename_i hk <;> first | cases hk | skip
  · cases hi
    cases hdk rfl with
    | cons rr _ =>
      obtain ⟨d0, xs, rfl, z⟩ := dk_lock f2 rr (fun G0 d o xs => src_items) fun G2' H2 J l s => hR G2' H2 J l s
      refine ⟨d0, xs, rfl, ?_⟩
      rcases z with ⟨o, z1, z2⟩ | ⟨z1, z2⟩
      · exact .inl ⟨o, z1, d0, o, xs, rfl, z1, z2⟩
      · exact .inr ⟨z1, fun o => ⟨d0, o, xs, rfl, upd_same, z2 o⟩⟩
  · cases hi
theorem qi_r1 (hg : Gl X "range") (hm : X.mg "range" = none) (ha : PA X [e1] (tA X.K W cl pm l)) (hs : starEach [e1] X.env = [(false, eval e1 X.env)]) : PI X tg (.Call (.Name "range" p) [e1] [] pos) (tI X.K W cl pm .r1 l) := by
  refine PI.imp (pi_range1 hg hm ha hs) ?_
  intro σ H R' q
  refine tA_mono q ?_
  rintro vs H1 ⟨G2, ts, is, f2, vw, hdk, hi, hR⟩
  have l0 : Lk G2 H1 G2 H1 := .inl ⟨rfl, rfl⟩
  unfold itT at hi
  split at hi <;> rename_i hk <;> first | cases hk | skip
  · obtain ⟨x, rfl, h1⟩ := vw.one
    cases h1.int_inv
    split at hi
    · rename_i hj
      cases hi
      exact ⟨_, rfl, hj.1, by omega, hR _ _ _ l0 src_rng⟩
    · cases hi
  · cases hi
theorem qi_r2 (hg : Gl X "range") (hm : X.mg "range" = none) (ha : PA X [e1, e2] (tA X.K W cl pm l)) (hs : starEach [e1, e2] X.env = [(false, eval e1 X.env), (false, eval e2 X.env)]) (hs2 : starEach [e2] X.env = [(false, eval e2 X.env)]) :
    PI X tg (.Call (.Name "range" p) [e1, e2] [] pos) (tI X.K W cl pm .r2 l) := by
  refine PI.imp (pi_range2 hg hm ha hs hs2) ?_
  intro σ H R' q
  refine tA_mono q ?_
  rintro vs H1 ⟨G2, ts, is, f2, vw, hdk, hi, hR⟩
  have l0 : Lk G2 H1 G2 H1 := .inl ⟨rfl, rfl⟩
  unfold itT at hi
  split at hi <;> rename_i hk <;> first | cases hk | skip
  · obtain ⟨x, y, rfl, h1, h2⟩ := vw.two
    cases h1.int_inv
    cases h2.int_inv
    split at hi
    · rename_i hj
      cases hi
      exact ⟨_, _, rfl, ⟨hj.1, hj.2.1, hj.2.2.1, hj.2.2.2.1⟩, hR _ _ _ l0 src_rng⟩
    · cases hi
  · cases hi
theorem qi_enum (hg : Gl X "enumerate") (hm : X.mg "enumerate" = none) (ha : PA X [e1] (tA X.K W cl pm l)) (hs : starEach [e1] X.env = [(false, eval e1 X.env)]) : PI X (.Tuple elts kk tpos) (.Call (.Name "enumerate" p) [e1] [] pos) (tI X.K W cl pm .enum l) := by
  refine PI.imp (pi_enumS hg hm ha hs) ?_
  intro σ H R' q
  refine tA_mono q ?_
  rintro vs H1 ⟨G2, ts, is, f2, vw, hdk, hi, hR⟩
  have l0 : Lk G2 H1 G2 H1 := .inl ⟨rfl, rfl⟩
  unfold itT at hi
  split at hi <;> rename_i hk <;> first | cases hk | skip
  · obtain ⟨ds, hd, rfl⟩ := Option.map_eq_some_iff.mp hi
    obtain ⟨x, rfl, h1⟩ := vw.one
    obtain ⟨k, hk1, hk2⟩ := SkD.mk f2 h1 hd
    exact ⟨x, k, rfl, hk2, fun k' hk' => hR _ _ _ l0 (src_enum (hk1.like hk') hd)⟩
  · cases hi
theorem qi_zip (hg : Gl X "zip") (hm : X.mg "zip" = none) (ha : PA X [e1, e2] (tA X.K W cl pm l)) (hs : starEach [e1, e2] X.env = [(false, eval e1 X.env), (false, eval e2 X.env)]) (hs2 : starEach [e2] X.env = [(false, eval e2 X.env)]) :
    PI X (.Tuple elts kk tpos) (.Call (.Name "zip" p) [e1, e2] [] pos) (tI X.K W cl pm .zip l) := by
  refine PI.imp (pi_zipS hg hm ha (by rw [hs, hs2]) (by rw [hs2]; rfl)) ?_
  intro σ H R' q
  refine tA_mono q ?_
  rintro vs H1 ⟨G2, ts, is, f2, vw, hdk, hi, hR⟩
  have l0 : Lk G2 H1 G2 H1 := .inl ⟨rfl, rfl⟩
  unfold itT at hi
  split at hi <;> rename_i hk <;> first | cases hk | skip
  · split at hi
    · rename_i ds es hd he
      cases hi
      obtain ⟨x, y, rfl, h1, h2⟩ := vw.two
      obtain ⟨k, hk1, hk2⟩ := SkD.mk f2 h1 hd
      obtain ⟨k', hk1', hk2'⟩ := SkD.mk f2 h2 he
      exact ⟨x, y, k, k', rfl, hk2, hk2', fun q1 q2 z1 z2 => hR _ _ _ l0 (src_zip (hk1.like z1) hd (hk1'.like z2) he)⟩
    · cases hi
  · cases hi
end

/-! ### targets -/
def Tg.len : Tg → Nat
  | .cons _ r => r.len + 1
  | _ => 0
/-- a tuple or a list, taken apart -/
def gTL (K : PySem.W.Frag) (n : Nat) (t : TGs) : TG := fun v σ H Q => gTup K n t v σ H Q ∨ gLst K n t v σ H Q
theorem PG.or {X : Cx} {e : Expr} {t u : TG} (h1 : PG X e t) (h2 : PG X e u) : PG X e (fun v σ H Q => t v σ H Q ∨ u v σ H Q) :=
  ⟨fun pins s σ H v w Q I r h => h.elim (fun h => h1.run pins s σ H v w Q I r h) (fun h => h2.run pins s σ H v w Q I r h)⟩
theorem tl_ok {K : PySem.W.Frag} {G H : Hp} {v : V} {d : T} {ds : List T} (f : Fz G H) (r : Rp K G v d) (e : d.its = some ds) : ∃ a xs, v = .ref a ∧ (SqT K H a xs ∨ SqL K H a xs) ∧ RpL K G xs ds := by
  unfold T.its at e
  split at e
  · cases e
    cases r with
    | lst s q => exact ⟨_, _, rfl, .inr (.inl (f.rd _ _ s)), q⟩
  · cases e
    cases r with
    | tup s q => exact ⟨_, _, rfl, .inl (SqT.of (f.tp _ _ s)), q⟩
  · cases e
def tgP (K : PySem.W.Frag) : Tg → TG × TGs
  | .n i => (gName i, fun _ _ _ _ => False)
  | .nil => (gTL K 0 gNil, gNil)
  | .cons a r => (gTL K (r.len + 1) (gCons (tgP K a).1 (tgP K r).2), gCons (tgP K a).1 (tgP K r).2)
def Tg.slots : Tg → List Nat
  | .n i => [i]
  | .nil => []
  | .cons a r => a.slots ++ r.slots
theorem wipe_set {σ : L2.St} {i : Nat} {x : Option V} : ∀ {vs : List Nat}, i ∈ vs → wipe (σ.set i x) vs = wipe σ vs
  | v :: vs, h => by
    unfold L2.wipe
    by_cases hv : i ∈ vs
    · rw [wipe_set hv]
    · have hi : i = v := (List.mem_cons.mp h).resolve_right hv
      subst hi
      have go : ∀ (vs : List Nat), i ∉ vs → wipe (σ.set i x) vs = (wipe σ vs).set i x := fun vs => by
        induction vs with
        | nil => intro _; rfl
        | cons w ws ih =>
          intro hn
          rw [List.mem_cons, not_or] at hn
          unfold L2.wipe
          rw [ih hn.2, List.set_comm _ _ hn.1]
      rw [go vs hv, List.set_set]
section
variable {K : PySem.W.Frag} {G H : Hp} {m : List Addr}
theorem tg_ok (f : Fz G H) : ∀ (g : Tg), (∀ (d : T) (v : V) (r r' : Env) (σ : L2.St), Rp K G v d → RelE K G m r σ → (asgX g).1 d r = some r' → ∀ (Q : L2.St → Hp → Prop), (∀ σ', RelE K G m r' σ' → (∀ vs, (∀ i ∈ g.slots, i ∈ vs) → wipe σ' vs = wipe σ vs) → Q σ' H) → (tgP K g).1 v σ H Q) ∧
    (∀ (ds : List T) (vs : List V) (r r' : Env) (σ : L2.St), RpL K G vs ds → RelE K G m r σ → (asgX g).2 ds r = some r' → g.len = vs.length ∧ ∀ (Q : L2.St → Hp → Prop), (∀ σ', RelE K G m r' σ' → (∀ vs, (∀ i ∈ g.slots, i ∈ vs) → wipe σ' vs = wipe σ vs) → Q σ' H) → (tgP K g).2 vs σ H Q)
  | .n i => by
    refine ⟨fun d v r r' σ hr he h Q q => ?_, fun ds vs r r' σ _ _ h => ?_⟩
    · unfold asgX at h
      cases h
      exact q _ (he.set (.t hr) i) fun vs hv => wipe_set (hv i (by simp [Tg.slots]))
    · unfold asgX at h; cases h
  | .nil => by
    refine ⟨fun d v r r' σ hr he h Q q => ?_, fun ds vs r r' σ hl he h => ?_⟩
    · unfold asgX at h
      simp only at h
      split at h
      · rename_i e0
        cases h
        obtain ⟨a, xs, rfl, hs, hl⟩ := tl_ok f hr e0
        cases hl
        rcases hs with hs | hs
        · exact .inl ⟨_, _, rfl, hs, rfl, rfl, q _ he fun _ _ => rfl⟩
        · exact .inr ⟨_, _, rfl, hs, rfl, rfl, q _ he fun _ _ => rfl⟩
      · cases h
    · unfold asgX at h
      simp only at h
      split at h
      · cases h
        cases hl
        exact ⟨rfl, fun Q q => ⟨rfl, q _ he fun _ _ => rfl⟩⟩
      · cases h
  | .cons a g => by
    have key : ∀ (d : T) (ds : List T) (vs : List V) (r r' : Env) (σ : L2.St), RpL K G vs (d :: ds) → RelE K G m r σ → (match (asgX a).1 d r with
        | some r' => (asgX g).2 ds r'
        | none => none) = some r' → (Tg.cons a g).len = vs.length ∧ ∀ (Q : L2.St → Hp → Prop), (∀ σ', RelE K G m r' σ' → (∀ vs, (∀ i ∈ (Tg.cons a g).slots, i ∈ vs) → wipe σ' vs = wipe σ vs) → Q σ' H) → gCons (tgP K a).1 (tgP K g).2 vs σ H Q := by
      intro d ds vs r r' σ hl he h
      cases e : (asgX a).1 d r with
      | none => rw [e] at h; cases h
      | some r1 =>
        rw [e] at h
        cases hl with
        | cons z1 z2 =>
          rename_i v1 vs1
          refine ⟨?_, fun Q q => ⟨v1, vs1, rfl, (tg_ok f a).1 d v1 r r1 σ z1 he e _ fun σ1 e1 w1 => ((tg_ok f g).2 ds vs1 r1 r' σ1 z2 e1 h).2 Q fun σ2 e2 w2 => q σ2 e2 fun vs hv => ?_⟩⟩
          · -- the slots play no part in the length
            have : ∀ (g : Tg) (ds : List T) (r r' : Env), (asgX g).2 ds r = some r' → g.len = ds.length := by
              intro g
              induction g with
              | n i => intro _ _ _ z; cases z
              | nil =>
                intro ds r r' z
                unfold asgX at z
                simp only at z
                split at z
                · rfl
                · cases z
              | cons a2 g2 _ ih =>
                intro ds r r' z
                unfold asgX at z
                simp only at z
                split at z
                · rename_i d2 ds2
                  split at z
                  · have := ih _ _ _ z
                    simp only [Tg.len, List.length_cons]; omega
                  · cases z
                · cases z
            have := this g ds r1 r' h
            simp only [Tg.len, List.length_cons, z2.length]; omega
          · rw [w2 vs fun i hi => hv i (by simp [Tg.slots, hi]), w1 vs fun i hi => hv i (by simp [Tg.slots, hi])]
    refine ⟨fun d v r r' σ hr he h Q q => ?_, fun ds vs r r' σ hl he h => ?_⟩
    · unfold asgX at h
      simp only at h
      split at h
      · rename_i d1 ds1 e0
        obtain ⟨a0, xs, rfl, hs, hl⟩ := tl_ok f hr e0
        obtain ⟨k1, k2⟩ := key d1 ds1 _ r r' σ hl he h
        rcases hs with hs | hs
        · exact .inl ⟨_, _, rfl, hs, k1.symm, k2 Q q⟩
        · exact .inr ⟨_, _, rfl, hs, k1.symm, k2 Q q⟩
      · cases h
    · unfold asgX at h
      simp only at h
      split at h
      · rename_i d1 ds1
        exact key d1 ds1 vs r r' σ hl he h
      · cases h
end
end Qq

set_option maxHeartbeats 4000000
/-! Q7: comprehensions. -/
namespace Qq
open PySem PySem.Spec PyProof.Rows L2

abbrev W0 : WX := fun _ _ _ _ => False
theorem R.bind_assoc {α β γ : Type} (r : R α) (f : α → Sto → R β) (g : β → Sto → R γ) : (r.bind f).bind g = r.bind fun a S => (f a S).bind g := by
  cases r <;> rfl
section
variable {K : PySem.W.Frag} {B G H : Hp} {m : List Addr} {S : Sto}
theorem srcT_inv {k : IK} {ds : List D} {lk : Option Nat} {is : List T} (h : srcT k (.l ds) S = some (lk, is)) : lkOf ds = some lk ∧ is.length ≤ line ∧ ∃ ts, rdL S ds = some ts ∧ itC k ds ts = some is := by
  unfold srcT at h
  have h : (match lkOf ds, (rdL S ds).bind (itC k ds) with
    | some lk, some is => if is.length ≤ line then some (lk, is) else none
    | _, _ => none) = some (lk, is) := h
  split at h
  · rename_i lk' is' e1 e2
    split at h
    · rename_i hl
      cases h
      obtain ⟨ts, e3, e4⟩ := Option.bind_eq_some_iff.mp e2
      exact ⟨e1, hl, ts, e3, e4⟩
    · cases h
  · cases h
/-- the trees among what is read -/
theorem vwL_trees : ∀ {ds : List D} {vs : List V} {ts : List T}, RpDs K G m ds vs → rdL S ds = some ts → (∀ d ∈ ds, ∃ t, d = .t t) → RpL K G vs ts
  | [], _, _, h, e, _ => by cases h; cases e; exact .nil
  | d :: r, _, _, h, e, ht => by
    cases h with
    | cons h1 h2 =>
      obtain ⟨t, rfl⟩ := ht d List.mem_cons_self
      unfold rdL at e
      cases e2 : rdL S r with
      | none => rw [e2] at e; cases e
      | some ts =>
        rw [e2] at e
        cases e
        cases h1 with
        | t h1 => exact .cons h1 (vwL_trees h2 e2 fun d hd => ht d (List.mem_cons_of_mem _ hd))
theorem vwL_of : ∀ {vs : List V} {ts : List T}, RpL K G vs ts → VwL K G H vs ts
  | _, _, .nil => .nil
  | _, _, .cons h t => .cons (.r h) (vwL_of t)
theorem lkOf_none : ∀ {ds : List D}, lkOf ds = some none → ∀ d ∈ ds, ∃ t, d = .t t
  | [], _, _, h => by cases h
  | [.t t], _, d, h => by simp at h; exact ⟨t, h⟩
  | [.t t, .t u], _, d, h => by
    simp at h
    rcases h with h | h
    · exact ⟨t, h⟩
    · exact ⟨u, h⟩
  | .t t :: .t u :: .t _ :: _, h, _, _ => by simp [lkOf] at h
  | .t t :: .t u :: .o _ :: _, h, _, _ => by simp [lkOf] at h
  | .t t :: .t u :: .l _ :: _, h, _, _ => by simp [lkOf] at h
  | .t t :: .o _ :: _, h, _, _ => by simp [lkOf] at h
  | .t t :: .l _ :: _, h, _, _ => by simp [lkOf] at h
  | [.o j], h, _, _ => by simp [lkOf] at h
  | .o j :: _ :: _, h, _, _ => by simp [lkOf] at h
  | .l _ :: _, h, _, _ => by simp [lkOf] at h
theorem lkOf_some : ∀ {ds : List D} {j : Nat}, lkOf ds = some (some j) → ds = [.o j]
  | [], _, h => by simp [lkOf] at h
  | [.t t], _, h => by simp [lkOf] at h
  | [.t t, .t u], _, h => by simp [lkOf] at h
  | .t t :: .t u :: .t _ :: _, _, h => by simp [lkOf] at h
  | .t t :: .t u :: .o _ :: _, _, h => by simp [lkOf] at h
  | .t t :: .t u :: .l _ :: _, _, h => by simp [lkOf] at h
  | .t t :: .o _ :: _, _, h => by simp [lkOf] at h
  | .t t :: .l _ :: _, _, h => by simp [lkOf] at h
  | [.o i], j, h => by simp [lkOf] at h; rw [h]
  | .o i :: _ :: _, _, h => by simp [lkOf] at h
  | .l _ :: _, _, h => by simp [lkOf] at h
theorem itC_inv {k : IK} {ds : List D} {ts is : List T} (h : itC k ds ts = some is) : itT k ts = some is ∧ (dkB ts = true → ∀ j, ds ≠ [.o j]) := by
  unfold itC at h
  split at h
  · split at h
    · cases h
    · rename_i i hn
      exact ⟨h, fun z => absurd z hn⟩
  · rename_i hn
    exact ⟨h, fun _ j e => hn j e⟩
theorem dk_rp {k : IK} {ds : List D} {vs : List V} {lk : Option Nat} {ts is : List T} (r : RpDs K G m ds vs) (hl : lkOf ds = some lk) (ht : rdL S ds = some ts) (hi : itC k ds ts = some is) : dkB ts = true → RpL K G vs ts := fun hd => by
  cases lk with
  | none => exact vwL_trees r ht (lkOf_none hl)
  | some j => exact absurd (lkOf_some hl) ((itC_inv hi).2 hd j)
theorem CellOk.vw {c : Cl} {o : HO} {a : Addr} (h : CellOk K G c o) (ho : H a = some o) : Vw K G H (.ref a) c.tr := by
  induction h with
  | lst q => exact .lst ho q
  | dK q => exact .dK ho q
  | dT q => exact .dT ho q
  | lck q ih => exact ih ho
/-- what is gone through is locked -/
theorem lock_pre (p : Pre K B G m S H) {ds : List D} {vs : List V} {lk : Option Nat} {ts : List T} (r : RpDs K G m ds vs) (hl : lkOf ds = some lk) (ht : rdL S ds = some ts) :
    ∃ B2, Pre K B2 G m (lockS lk S) H ∧ (∀ a, H a = none → B2 a = none) ∧ (∀ G' H', Fz G G' → (∀ a o, B2 a = some o → H' a = some o) → VwL K G' H' vs ts) ∧
      (∀ G' m' S' H', m <+: m' → Fz G G' → Pre K B2 G' m' S' H' → Pre K B G' m' (unlockS lk S S') H') := by
  have hB : ∀ a, H a = none → B a = none := fun a ha => by
    cases e : B a with
    | none => rfl
    | some o => have := (p.hid a o e).1; rw [ha] at this; cases this
  cases lk with
  | none => exact ⟨B, p, hB, fun G' H' f _ => vwL_of ((vwL_trees r ht (lkOf_none hl)).mono f), fun G' m' S' H' _ _ q => q⟩
  | some j =>
    have e := lkOf_some hl
    subst e
    cases r with
    | cons r1 r2 =>
      cases r2
      cases r1 with
      | o ha =>
        rename_i a
        have hj : j < S.length := by rw [← p.len]; exact (List.getElem?_eq_some_iff.mp ha).1
        have hc : S[j]? = some S[j] := by simp [hj]
        have ets : ts = [S[j].tr] := by
          unfold rdL at ht
          have e1 : rd S (.o j) = some S[j].tr := by
            show (S[j]?).map Cl.tr = _
            rw [hc]; rfl
          rw [e1] at ht
          unfold rdL at ht
          cases ht; rfl
        subst ets
        cases hgn : (S[j]).gonB with
        | true =>
          have key : ∀ c : Cl, S[j]? = some c → c.gonB = true → ∃ t, c = .gon t := fun c _ hg => by
            cases c with
            | gon t => exact ⟨t, rfl⟩
            | lst _ => cases hg
            | dK _ => cases hg
            | dT _ => cases hg
            | lck _ => cases hg
          obtain ⟨t0, et⟩ := key _ hc hgn
          rw [et] at hc ⊢
          have el : lockS (some j) S = S := by
            show (match S[j]? with
              | some (.gon _) => S
              | some c => S.set j (.lck c)
              | none => S) = S
            rw [hc]
          have eu : ∀ S', unlockS (some j) S S' = S' := fun S' => by
            show (match S[j]? with
              | some (.gon _) => S'
              | some c => S'.set j c
              | none => S') = S'
            rw [hc]
          refine ⟨B, by rw [el]; exact p, hB, fun G' H' f _ => ?_, fun G' m' S' H' _ _ q => by rw [eu]; exact q⟩
          rcases p.cells _ _ _ hc ha with ⟨_, o, _, z⟩ | ⟨⟨t', e, rr⟩, _⟩
          · cases z
          · cases e; exact .cons (.r (rr.mono f)) .nil
        | false =>
          obtain ⟨ga, o, ho, q⟩ := (p.cells j S[j] a hc ha).live hgn
          have el : lockS (some j) S = S.set j (.lck S[j]) := by
            show (match S[j]? with
              | some (.gon _) => S
              | some c => S.set j (.lck c)
              | none => S) = _
            rw [hc]
            cases hcc : S[j] <;> first | rfl | (rw [hcc] at hgn; cases hgn)
          have eu : ∀ S', unlockS (some j) S S' = S'.set j S[j] := fun S' => by
            show (match S[j]? with
              | some (.gon _) => S'
              | some c => S'.set j c
              | none => S') = _
            rw [hc]
            cases hcc : S[j] <;> first | rfl | (rw [hcc] at hgn; cases hgn)
          refine ⟨upd B a o, by rw [el]; exact p.lock hc hgn ha ho, fun b hb => ?_, fun G' H' f hh => .cons ((q.mono f).vw (hh a o upd_same)) .nil, fun G' m' S' H' hm f q' => ?_⟩
          · have hba : b ≠ a := by rintro rfl; rw [ho] at hb; cases hb
            rw [upd_ne hba]; exact hB b hb
          · rw [eu]
            refine q'.unlock (getElem?_pre hm ha) (q.mono f) fun o' e' => ?_
            obtain ⟨x, _, z⟩ := p.hid a o' e'
            rw [ho] at x
            cases x
            obtain ⟨c0, h0⟩ := z j ha
            rw [hc] at h0
            exact ⟨rfl, c0, Option.some.inj h0⟩
end

def RO (K : PySem.W.Frag) : Hp → Hp → List Addr → Option T → Option V → Prop := fun G _ _ o y => match o, y with
  | none, none => True
  | some t, some v => Rp K G v t
  | _, _ => False
section
variable {K : PySem.W.Frag} {B G H : Hp} {m : List Addr} {S : Sto}
theorem take_pre {m m' : List Addr} (h : m <+: m') : m'.take m.length = m := by
  obtain ⟨r, rfl⟩ := h
  exact List.take_left
/-- an element of a comprehension: no exception leaves it, its own things are forgotten -/
theorem Post.nox {α β γ δ : Type} {W W' : WX} {σ σ' : L2.St} {B B' G' : Hp} {Rs : Hp → Hp → List Addr → γ → δ → Prop} {Rr : Hp → Hp → List Addr → α → β → Prop} {Q : δ → Hp → Prop} {Q' : β → Hp → Prop} {r : R α} {h : α → Sto → R γ}
    (q : Post K B W σ G m Rs Q ((r.nox.cut m.length).bind h)) (k : ∀ a S', Post K B W σ G m Rs Q (h a (S'.take m.length)) → ∀ y H' G4 m', m <+: m' → Fz G' G4 → Pre K B' G4 m' S' H' → Rr G4 H' m' a y → Q' y H') : Post K B' W' σ' G' m Rr Q' r := by
  cases r with
  | bad => exact q.elim
  | exc x S' => exact q.elim
  | ok a S' => exact fun y H' G4 m' h1 h2 h3 h4 => k a S' q y H' G4 m' h1 h2 h3 h4
theorem compGo_cons {α : Type} {f : T → Sto → R (Option α)} {d : T} {r : List T} {S : Sto} : compGo f (d :: r) S = (f d S).bind fun o S1 => (compGo f r S1).bind fun xs S2 => .ok (o.toList ++ xs) S2 := by
  conv => lhs; unfold compGo
  congr 1
  funext o S1
  congr 1
  funext xs S2
  cases o <;> rfl
theorem compGo_step {f : T → Sto → R (Option T)} {d : T} {r : List T} {acc : List T} {S : Sto} {k : List T → Sto → R D} :
    ((compGo f (d :: r) S).bind fun ys S' => k (acc ++ ys) S') = (f d S).bind fun o S1 => (compGo f r S1).bind fun ys S' => k ((acc ++ o.toList) ++ ys) S' := by
  rw [compGo_cons, R.bind_assoc]
  congr 1
  funext o S1
  rw [R.bind_assoc]
  congr 1
  funext xs S2
  show k (acc ++ (o.toList ++ xs)) S2 = _
  rw [List.append_assoc]
end
section
variable {X : Cx} {W : WX} {cl : Nat → List D → Sto → R D} {pm : Nat → List D → List D → Option (List D)} {pos : Pos} {tg iter elt : Expr} {ifs : List Expr} {scope : Scope} {own_ : List (Str × Nat)} {g : Tg} {k : IK} {l t e : C} {fr : Bool}
/-- one element -/
def compEl (cl : Nat → List D → Sto → R D) (pm : Nat → List D → List D → Option (List D)) (vs : List Nat) (g : Tg) (t e : C) (r : Env) (d : T) (S0 : Sto) : R (Option T) := match asgT g d (wip r vs) with
  | none => .bad
  | some r' => (((ev cl pm t r' S0).bind fun x S => (R.opt x.bool S).bind fun k S => match k with
    | false => .ok none S
    | true => (ev cl pm e r' S).bind fun y S => R.opt (y.tr.map some) S).nox).cut S0.length
theorem comp_read (hsl : ∀ i ∈ g.slots, i ∈ own_.map (·.2)) :
    ∀ σ H Q, tE X.K W cl pm (.comp fr (own_.map (·.2)) g k l t e) σ H Q → tLc (tI X.K W cl pm k l) (tgP X.K g).1 (tT X.K W0 cl pm t) (tE X.K W0 cl pm e) (own_.map (·.2)) σ H Q := by
  rintro σ H Q ⟨B, G, m, S, r, hP, hE, q⟩
  refine tA_mono (stepA hP hE q) ?_
  rintro vs H1 ⟨G1, m1, S1, ds, i1, f1, P1, E1, r1, q1⟩
  obtain ⟨⟨lk, is⟩, hsrc, q2⟩ := q1.optB
  obtain ⟨hlk, hlen, ts, hts, hit⟩ := srcT_inv hsrc
  refine ⟨G1, ts, is, P1.fz, r1.vw P1 hts, dk_rp r1 hlk hts hit, (itC_inv hit).1, fun G1' H1' J hL hJ D hD => ?_⟩
  replace P1 := hL.pre P1
  replace E1 := E1.mono hL.fz (pre_rfl m1)
  replace r1 := r1.mono hL.fz (pre_rfl m1)
  replace q2 := q2.later (pre_rfl m1) hL.fz
  clear hL f1 q
  obtain ⟨B2, P2, hB2, hvw, hun⟩ := lock_pre P1 r1 hlk hts
  generalize G1' = G1 at *
  generalize H1' = H1 at *
  have hDm : D ∉ m1 := fun hm => by
    obtain ⟨j, hj⟩ := List.getElem?_of_mem hm
    have hi : j < S1.length := by rw [← P1.len]; exact (List.getElem?_eq_some_iff.mp hj).1
    obtain ⟨o, ho⟩ := (P1.cells j S1[j] D (by simp [hi]) hj).here
    rw [hD] at ho; cases ho
  have hB1 : B D = none := by
    cases e : B D with
    | none => rfl
    | some o => have := (P1.hid D o e).1; rw [hD] at this; cases this
  refine ⟨fun i μ H' => μ = is.length - i ∧ i ≤ is.length ∧ ∃ G' S' acc xs, Fz G1 G' ∧ Pre X.K (upd B2 D (.lst xs)) G' m1 S' H' ∧ RpL X.K G' xs acc ∧ acc.length ≤ i ∧
    Post X.K B W σ G' m1 (RD X.K) Q ((compGo (compEl cl pm (own_.map (·.2)) g t e r) (is.drop i) S').bind fun ys S'' => own fr (.lst (acc ++ ys)) (unlockS lk S1 S'')), ⟨is.length, by simp, Nat.zero_le _, G1, lockS lk S1, [], [], Fz.refl _, P2.hide hD, .nil, Nat.le_refl _, by rw [List.drop_zero]; exact q2⟩, ?_⟩
  rintro i μ H' ⟨rfl, hi, G', S', acc, xs, f', P', racc, hacc, q'⟩
  have hGD : G' D = none := (P'.hid D _ upd_same).2.1
  have hHD : H' D = some (.lst xs) := (P'.hid D _ upd_same).1
  have vw' : VwL X.K G' H' vs ts := hvw G' H' f' fun a o ha => (P'.hid a o (by
    have hne : a ≠ D := by rintro rfl; rw [hB2 _ hD] at ha; cases ha
    rw [upd_ne hne]; exact ha)).1
  by_cases hlt : i < is.length
  · refine .inr ⟨hJ.go i G' H' f' P'.fz vw' hlt, fun H4 => ∃ G4 S4 acc4 xs4, Fz G1 G4 ∧ Pre X.K (upd B2 D (.lst xs4)) G4 m1 S4 H4 ∧ RpL X.K G4 xs4 acc4 ∧ acc4.length ≤ i + 1 ∧
      Post X.K B W σ G4 m1 (RD X.K) Q ((compGo (compEl cl pm (own_.map (·.2)) g t e r) (is.drop (i + 1)) S4).bind fun ys S'' => own fr (.lst (acc4 ++ ys)) (unlockS lk S1 S'')), fun H4 h4 => ⟨is.length - (i + 1), by omega, rfl, hlt, h4⟩, fun x H2 hy => ?_⟩
    obtain ⟨G2, d, hd, al, rx⟩ := hJ.yld i G' H' x H2 f' P'.fz vw' hlt hy
    have hdrop : is.drop i = d :: is.drop (i + 1) := by
      rw [List.drop_eq_getElem_cons hlt]
      congr 1
      rw [List.getElem?_eq_getElem hlt] at hd
      exact Option.some.inj hd
    have estep := compGo_step (f := compEl cl pm (own_.map (·.2)) g t e r) (d := d) (r := is.drop (i + 1)) (acc := acc) (S := S') (k := fun zs S'' => own fr (.lst zs) (unlockS lk S1 S''))
    rw [hdrop, estep] at q'
    have P3 := al.pre P'
    have f3 : Fz G1 G2 := f'.trans al.fz
    have racc3 := racc.mono al.fz
    have q3 : Post X.K B W σ G2 m1 (RD X.K) Q ((compEl cl pm (own_.map (·.2)) g t e r d S').bind fun o S1_1 => (compGo (compEl cl pm (own_.map (·.2)) g t e r) (is.drop (i + 1)) S1_1).bind fun ys S'' => own fr (.lst ((acc ++ o.toList) ++ ys)) (unlockS lk S1 S'')) := q'.later (pre_rfl m1) al.fz
    unfold compEl at q3
    cases hr : asgT g d (wip r (own_.map (·.2))) with
    | none => rw [hr] at q3; exact q3.elim
    | some r' =>
      rw [hr] at q3
      simp only at q3
      rw [← P'.len] at q3
      have eW : RelE X.K G2 m1 (wip r (own_.map (·.2))) (wipe σ (own_.map (·.2))) := (E1.mono f3 (pre_rfl m1)).wipe _
      refine (tg_ok P3.fz g).1 d x _ r' _ rx eW hr _ fun σ2 e2 w2 => ⟨?_, ?_⟩
      · have h1 := w2 (own_.map (·.2)) hsl
        have idem : ∀ (vs : List Nat) (σ : L2.St), wipe (wipe σ vs) vs = wipe σ vs := fun vs σ => by
          have hall : ∀ (ws : List Nat), (∀ i ∈ ws, i ∈ vs) → wipe (wipe σ ws) vs = wipe σ vs := fun ws => by
            induction ws with
            | nil => intro _; rfl
            | cons w ws ih =>
              intro hw
              have e1 : wipe σ (w :: ws) = (wipe σ ws).set w none := rfl
              rw [e1, wipe_set (hw w List.mem_cons_self), ih fun i hi => hw i (List.mem_cons_of_mem _ hi)]
          exact hall vs fun _ h => h
        rw [h1, idem]
      · have core : Post X.K (upd B2 D (.lst xs)) W0 σ2 G2 m1 (RO X.K) (fun y H4 => match y with
            | none => ∃ G4 S4 acc4 xs4, Fz G1 G4 ∧ Pre X.K (upd B2 D (.lst xs4)) G4 m1 S4 H4 ∧ RpL X.K G4 xs4 acc4 ∧ acc4.length ≤ i + 1 ∧
              Post X.K B W σ G4 m1 (RD X.K) Q ((compGo (compEl cl pm (own_.map (·.2)) g t e r) (is.drop (i + 1)) S4).bind fun ys S'' => own fr (.lst (acc4 ++ ys)) (unlockS lk S1 S''))
            | some v => ∃ accv, H4 D = some (.lst accv) ∧ accv.length < sizeLine ∧ ∃ G4 S4 acc4 xs4, Fz G1 G4 ∧ Pre X.K (upd B2 D (.lst xs4)) G4 m1 S4 (upd H4 D (.lst (accv ++ [v]))) ∧ RpL X.K G4 xs4 acc4 ∧ acc4.length ≤ i + 1 ∧
              Post X.K B W σ G4 m1 (RD X.K) Q ((compGo (compEl cl pm (own_.map (·.2)) g t e r) (is.drop (i + 1)) S4).bind fun ys S'' => own fr (.lst (acc4 ++ ys)) (unlockS lk S1 S'')))
            ((ev cl pm t r' S').bind fun x S => (R.opt x.bool S).bind fun k S => match k with
              | false => .ok none S
              | true => (ev cl pm e r' S).bind fun y S => R.opt (y.tr.map some) S) := by
          refine Post.nox q3 fun o S4 q4 y H4 G4 m4 hm4 f4 P4 ro => ?_
          have P5 : Pre X.K (upd B2 D (.lst xs)) G4 m1 (S4.take m1.length) H4 := by
            have := P4.take m1.length
            rw [take_pre hm4] at this
            exact this
          have q5 := q4.later (pre_rfl m1) f4
          cases o with
          | none =>
            cases y with
            | some _ => exact ro.elim
            | none =>
              rw [show acc ++ (none : Option T).toList = acc from List.append_nil acc] at q5
              exact ⟨G4, _, acc, xs, f3.trans f4, P5, racc3.mono f4, by omega, q5⟩
          | some tv =>
            cases y with
            | none => exact ro.elim
            | some v =>
              have rv : Rp X.K G4 v tv := ro
              refine ⟨xs, (P5.hid D _ upd_same).1, ?_, G4, _, acc ++ [tv], xs ++ [v], f3.trans f4, P5.rehide hDm, (racc3.mono f4).append (.cons rv .nil), by rw [List.length_append]; simp; omega, q5⟩
              rw [racc.length, ← line_eq]; omega
        refine tT_mono (stepT P3 e2 core) ?_
        rintro b H3 ⟨G3, m3, S3, i3, f3', P3', E3, q4⟩
        cases b with
        | false =>
          refine iteF ?_
          exact q4 none H3 G3 m3 (pre_rfl m3) (Fz.refl G3) P3' trivial
        | true =>
          refine iteT ?_
          refine tE_mono (stepE P3' E3 q4) ?_
          rintro v H4 ⟨G4, m4, S4, dd, i4, f4, P4, E4, r4, q5⟩
          obtain ⟨o, ho, q6⟩ := q5.opt1
          cases r4 with
          | o _ => cases ho
          | t r4 =>
            cases ho
            exact q6 (some v) H4 G4 m4 (pre_rfl m4) (Fz.refl G4) P4 r4
  · have ei : i = is.length := by omega
    subst ei
    refine .inl ⟨hJ.stop G' H' f' P'.fz vw', ?_⟩
    rw [List.drop_length] at q'
    have q3 : Post X.K B W σ G' m1 (RD X.K) Q (own fr (.lst (acc ++ [])) (unlockS lk S1 S')) := q'
    rw [List.append_nil] at q3
    have P4 := hun G' m1 S' H' (pre_rfl m1) f' (P'.unhide (hB2 D hD))
    cases fr with
    | false =>
      obtain ⟨f5, P5⟩ := P4.frzAt hHD hGD hDm hB1 fun ob u z => by cases z
      exact q3 (.ref D) H' _ m1 (pre_rfl m1) f5 P5 (.t (.lst (.inl upd_same) (racc.mono f5)))
    | true =>
      have P5 := P4.ownAt hHD hGD hDm hB1 (CellOk.lst racc)
      refine q3 (.ref D) H' G' (m1 ++ [D]) ⟨[D], rfl⟩ (Fz.refl G') P5 (.o ?_)
      rw [← P4.len, List.getElem?_append_right (Nat.le_refl _), Nat.sub_self]; rfl
theorem qe_comp (hc : X.calm = true) (hN : X.N.Nodup) (hi : PI X tg iter (tI X.K W cl pm k l)) (ok : BlkOk X.N X.env.scope scope own_) (hsl : ∀ i ∈ g.slots, i ∈ own_.map (·.2))
    (hg : ∀ (s : Shared) (H : Hp) (C : Addr) (cl : List (Str × Addr)) (fp : List Addr), PG (X.blk s H scope (compEnvC scope cl C X.env) fp) tg (tgP X.K g).1) (ht : ∀ (s : Shared) (H : Hp) (C : Addr) (cl' : List (Str × Addr)) (fp : List Addr), PTs (X.blk s H scope (compEnvC scope cl' C X.env) fp) ifs (tT X.K W0 cl pm t))
    (he : ∀ (s : Shared) (H : Hp) (C : Addr) (cl' : List (Str × Addr)) (fp : List Addr), PE (X.blk s H scope (compEnvC scope cl' C X.env) fp) elt (tE X.K W0 cl pm e)) (hs : ∀ x, foldedSetIterable iter X.env x = pure x) :
    PE X (.ListComp elt [⟨tg, iter, ifs, 0⟩] scope pos) (tE X.K W cl pm (.comp fr (own_.map (·.2)) g k l t e)) :=
  PE.imp (pe_lc hc hN hi ok hg ht he hs) (comp_read hsl)
end
end Qq

set_option maxHeartbeats 4000000
/-! Q7d: dict comprehensions. -/
namespace Qq
open PySem PySem.Spec PyProof.Rows L2

theorem mrgT_append : ∀ (a b acc : List (Key × T)), mrgT acc (a ++ b) = mrgT (mrgT acc a) b
  | [], _, _ => rfl
  | kv :: r, b, acc => by
    show mrgT (putT acc kv.1 kv.2) (r ++ b) = mrgT (mrgT (putT acc kv.1 kv.2) r) b
    exact mrgT_append r b _
theorem len_putT (kvs : List (Key × T)) (k : Key) (d : T) : (putT kvs k d).length ≤ kvs.length + 1 := by
  unfold putT
  split
  · rw [List.length_map]; omega
  · rw [List.length_append]; simp
theorem dcGo_step {f : T → Sto → R (Option (Key × T))} {d : T} {r : List T} {acc : List (Key × T)} {S : Sto} {k : List (Key × T) → Sto → R D} :
    ((compGo f (d :: r) S).bind fun ys S' => k (mrgT acc ys) S') = (f d S).bind fun o S1 => (compGo f r S1).bind fun ys S' => k (mrgT (mrgT acc o.toList) ys) S' := by
  rw [compGo_cons, R.bind_assoc]
  congr 1
  funext o S1
  rw [R.bind_assoc]
  congr 1
  funext xs S2
  show k (mrgT acc (o.toList ++ xs)) S2 = _
  rw [mrgT_append]
def ROk (K : PySem.W.Frag) : Hp → Hp → List Addr → Option (Key × T) → Option (Key × V) → Prop := fun G _ _ o y => match o, y with
  | none, none => True
  | some t, some v => t.1 = v.1 ∧ Rp K G v.2 t.2
  | _, _ => False
/-- one pair -/
def dcEl (cl : Nat → List D → Sto → R D) (pm : Nat → List D → List D → Option (List D)) (vs : List Nat) (g : Tg) (t ek e : C) (r : Env) (d : T) (S0 : Sto) : R (Option (Key × T)) := match asgT g d (wip r vs) with
  | none => .bad
  | some r' => (((ev cl pm t r' S0).bind fun x S => (R.opt x.bool S).bind fun k S => match k with
    | false => .ok none S
    | true => (ev cl pm ek r' S).bind fun y S => (R.opt y.key S).bind fun key S => (ev cl pm e r' S).bind fun z S => R.opt (z.tr.map fun t => some (key, t)) S).nox).cut S0.length
theorem wipe_idem (vs : List Nat) (σ : L2.St) : wipe (wipe σ vs) vs = wipe σ vs := by
  have hall : ∀ (ws : List Nat), (∀ i ∈ ws, i ∈ vs) → wipe (wipe σ ws) vs = wipe σ vs := fun ws => by
    induction ws with
    | nil => intro _; rfl
    | cons w ws ih =>
      intro hw
      have e1 : wipe σ (w :: ws) = (wipe σ ws).set w none := rfl
      rw [e1, wipe_set (hw w List.mem_cons_self), ih fun i hi => hw i (List.mem_cons_of_mem _ hi)]
  exact hall vs fun _ h => h
section
variable {X : Cx} {W : WX} {cl : Nat → List D → Sto → R D} {pm : Nat → List D → List D → Option (List D)} {pos : Pos} {tg iter ex elt : Expr} {ifs : List Expr} {scope : Scope} {own_ : List (Str × Nat)} {g : Tg} {k : IK} {l t ek e : C} {fr : Bool}
theorem dc_read (hsl : ∀ i ∈ g.slots, i ∈ own_.map (·.2)) :
    ∀ σ H Q, tE X.K W cl pm (.dcm fr (own_.map (·.2)) g k l t ek e) σ H Q → tDc (tI X.K W cl pm k l) (tgP X.K g).1 (tT X.K W0 cl pm t) (tE X.K W0 cl pm ek) (tE X.K W0 cl pm e) (own_.map (·.2)) σ H Q := by
  rintro σ H Q ⟨B, G, m, S, r, hP, hE, q⟩
  refine tA_mono (stepA hP hE q) ?_
  rintro vs H1 ⟨G1, m1, S1, ds, i1, f1, P1, E1, r1, q1⟩
  obtain ⟨⟨lk, is⟩, hsrc, q2⟩ := q1.optB
  obtain ⟨hlk, hlen, ts, hts, hit⟩ := srcT_inv hsrc
  refine ⟨G1, ts, is, P1.fz, r1.vw P1 hts, dk_rp r1 hlk hts hit, (itC_inv hit).1, fun G1' H1' J hL hJ D hD => ?_⟩
  replace P1 := hL.pre P1
  replace E1 := E1.mono hL.fz (pre_rfl m1)
  replace r1 := r1.mono hL.fz (pre_rfl m1)
  replace q2 := q2.later (pre_rfl m1) hL.fz
  clear hL f1 q
  obtain ⟨B2, P2, hB2, hvw, hun⟩ := lock_pre P1 r1 hlk hts
  generalize G1' = G1 at *
  generalize H1' = H1 at *
  have hDm : D ∉ m1 := pre_notin P1 hD
  have hB1 : B D = none := pre_noB P1 hD
  refine ⟨fun i μ H' => μ = is.length - i ∧ i ≤ is.length ∧ ∃ G' S' acc xs, Fz G1 G' ∧ Pre X.K (upd B2 D (.dK xs)) G' m1 S' H' ∧ RpK X.K G' xs acc ∧ acc.length ≤ i ∧
    Post X.K B W σ G' m1 (RD X.K) Q ((compGo (dcEl cl pm (own_.map (·.2)) g t ek e r) (is.drop i) S').bind fun ys S'' => own fr (.dK (mrgT acc ys)) (unlockS lk S1 S'')), ⟨is.length, by simp, Nat.zero_le _, G1, lockS lk S1, [], [], Fz.refl _, P2.hide hD, .nil, Nat.le_refl _, by rw [List.drop_zero]; exact q2⟩, ?_⟩
  rintro i μ H' ⟨rfl, hi, G', S', acc, xs, f', P', racc, hacc, q'⟩
  have hGD : G' D = none := (P'.hid D _ upd_same).2.1
  have hHD : H' D = some (.dK xs) := (P'.hid D _ upd_same).1
  have vw' : VwL X.K G' H' vs ts := hvw G' H' f' fun a o ha => (P'.hid a o (by
    have hne : a ≠ D := by rintro rfl; rw [hB2 _ hD] at ha; cases ha
    rw [upd_ne hne]; exact ha)).1
  by_cases hlt : i < is.length
  · refine .inr ⟨hJ.go i G' H' f' P'.fz vw' hlt, fun H4 => ∃ G4 S4 acc4 xs4, Fz G1 G4 ∧ Pre X.K (upd B2 D (.dK xs4)) G4 m1 S4 H4 ∧ RpK X.K G4 xs4 acc4 ∧ acc4.length ≤ i + 1 ∧
      Post X.K B W σ G4 m1 (RD X.K) Q ((compGo (dcEl cl pm (own_.map (·.2)) g t ek e r) (is.drop (i + 1)) S4).bind fun ys S'' => own fr (.dK (mrgT acc4 ys)) (unlockS lk S1 S'')), fun H4 h4 => ⟨is.length - (i + 1), by omega, rfl, hlt, h4⟩, fun x H2 hy => ?_⟩
    obtain ⟨G2, d, hd, al, rx⟩ := hJ.yld i G' H' x H2 f' P'.fz vw' hlt hy
    have hdrop : is.drop i = d :: is.drop (i + 1) := by
      rw [List.drop_eq_getElem_cons hlt]
      congr 1
      rw [List.getElem?_eq_getElem hlt] at hd
      exact Option.some.inj hd
    have estep := dcGo_step (f := dcEl cl pm (own_.map (·.2)) g t ek e r) (d := d) (r := is.drop (i + 1)) (acc := acc) (S := S') (k := fun zs S'' => own fr (.dK zs) (unlockS lk S1 S''))
    rw [hdrop, estep] at q'
    have P3 := al.pre P'
    have f3 : Fz G1 G2 := f'.trans al.fz
    have racc3 := racc.mono al.fz
    have q3 := q'.later (pre_rfl m1) al.fz
    cases hr : asgT g d (wip r (own_.map (·.2))) with
    | none => unfold dcEl at q3; rw [hr] at q3; exact q3.elim
    | some r' =>
      have edc : dcEl cl pm (own_.map (·.2)) g t ek e r d S' = (((ev cl pm t r' S').bind fun x S => (R.opt x.bool S).bind fun k S => match k with
          | false => .ok none S
          | true => (ev cl pm ek r' S).bind fun y S => (R.opt y.key S).bind fun key S => (ev cl pm e r' S).bind fun z S => R.opt (z.tr.map fun t => some (key, t)) S).nox).cut m1.length := by
        unfold dcEl
        rw [hr, P'.len]
      rw [edc] at q3
      clear edc
      have eW : RelE X.K G2 m1 (wip r (own_.map (·.2))) (wipe σ (own_.map (·.2))) := (E1.mono f3 (pre_rfl m1)).wipe _
      refine (tg_ok P3.fz g).1 d x _ r' _ rx eW hr _ fun σ2 e2 w2 => ⟨?_, ?_⟩
      · rw [w2 (own_.map (·.2)) hsl, wipe_idem]
      · have core : Post X.K (upd B2 D (.dK xs)) W0 σ2 G2 m1 (ROk X.K) (fun y H4 => match y with
            | none => ∃ G4 S4 acc4 xs4, Fz G1 G4 ∧ Pre X.K (upd B2 D (.dK xs4)) G4 m1 S4 H4 ∧ RpK X.K G4 xs4 acc4 ∧ acc4.length ≤ i + 1 ∧
              Post X.K B W σ G4 m1 (RD X.K) Q ((compGo (dcEl cl pm (own_.map (·.2)) g t ek e r) (is.drop (i + 1)) S4).bind fun ys S'' => own fr (.dK (mrgT acc4 ys)) (unlockS lk S1 S''))
            | some v => ∃ accv, H4 D = some (.dK accv) ∧ accv.length < sizeLine ∧ ∃ G4 S4 acc4 xs4, Fz G1 G4 ∧ Pre X.K (upd B2 D (.dK xs4)) G4 m1 S4 (upd H4 D (.dK (putK accv v.1 v.2))) ∧ RpK X.K G4 xs4 acc4 ∧ acc4.length ≤ i + 1 ∧
              Post X.K B W σ G4 m1 (RD X.K) Q ((compGo (dcEl cl pm (own_.map (·.2)) g t ek e r) (is.drop (i + 1)) S4).bind fun ys S'' => own fr (.dK (mrgT acc4 ys)) (unlockS lk S1 S'')))
            ((ev cl pm t r' S').bind fun x S => (R.opt x.bool S).bind fun k S => match k with
              | false => .ok none S
              | true => (ev cl pm ek r' S).bind fun y S => (R.opt y.key S).bind fun key S => (ev cl pm e r' S).bind fun z S => R.opt (z.tr.map fun t => some (key, t)) S) := by
          refine Post.nox q3 fun o S4 q4 y H4 G4 m4 hm4 f4 P4 ro => ?_
          have P5 : Pre X.K (upd B2 D (.dK xs)) G4 m1 (S4.take m1.length) H4 := by
            have := P4.take m1.length
            rw [take_pre hm4] at this
            exact this
          have q5 := q4.later (pre_rfl m1) f4
          cases o with
          | none =>
            cases y with
            | some _ => exact ro.elim
            | none => exact ⟨G4, _, acc, xs, f3.trans f4, P5, racc3.mono f4, by omega, q5⟩
          | some tv =>
            cases y with
            | none => exact ro.elim
            | some v =>
              obtain ⟨ke, rv⟩ : tv.1 = v.1 ∧ Rp X.K G4 v.2 tv.2 := ro
              refine ⟨xs, (P5.hid D _ upd_same).1, ?_, G4, _, putT acc tv.1 tv.2, putK xs v.1 v.2, f3.trans f4, P5.rehide hDm, ?_, ?_, q5⟩
              · rw [racc.length, ← line_eq]; omega
              · rw [ke]; exact (racc3.mono f4).put v.1 rv
              · have := len_putT acc tv.1 tv.2; omega
        refine tT_mono (stepT P3 e2 core) ?_
        rintro b H3 ⟨G3, m3, S3, i3, f3', P3', E3, q4⟩
        cases b with
        | false => exact iteF (q4 none H3 G3 m3 (pre_rfl m3) (Fz.refl G3) P3' trivial)
        | true =>
          refine iteT ?_
          refine tE_mono (stepE P3' E3 q4) ?_
          rintro y H4 ⟨G4, m4, S4, dy, i4, f4, P4, E4, r4, q5⟩
          obtain ⟨key, hkey, q6⟩ := q5.optB
          have hy := key_rp r4 hkey
          subst hy
          refine tE_mono (stepE P4 E4 q6) ?_
          rintro z H5 ⟨G5, m5, S5, dz, i5, f5, P5, E5, r5, q7⟩
          obtain ⟨o, ho, q8⟩ := q7.opt1
          cases r5 with
          | o _ => cases ho
          | t r5 =>
            cases ho
            obtain ⟨accv, h1, h2, h3⟩ := q8 (some (key, z)) H5 G5 m5 (pre_rfl m5) (Fz.refl G5) P5 ⟨rfl, r5⟩
            exact ⟨accv, key, rfl, h1, h2, h3⟩
  · have ei : i = is.length := by omega
    subst ei
    refine .inl ⟨hJ.stop G' H' f' P'.fz vw', ?_⟩
    rw [List.drop_length] at q'
    have q3 : Post X.K B W σ G' m1 (RD X.K) Q (own fr (.dK acc) (unlockS lk S1 S')) := q'
    have P4 := hun G' m1 S' H' (pre_rfl m1) f' (P'.unhide (hB2 D hD))
    exact own_dK P4 hHD hGD hDm hB1 racc q3
theorem qe_dcm (hc : X.calm = true) (hN : X.N.Nodup) (hi : PI X tg iter (tI X.K W cl pm k l)) (ok : BlkOk X.N X.env.scope scope own_) (hsl : ∀ i ∈ g.slots, i ∈ own_.map (·.2))
    (hg : ∀ (s : Shared) (H : Hp) (C : Addr) (cl : List (Str × Addr)) (fp : List Addr), PG (X.blk s H scope (compEnvC scope cl C X.env) fp) tg (tgP X.K g).1) (ht : ∀ (s : Shared) (H : Hp) (C : Addr) (cl' : List (Str × Addr)) (fp : List Addr), PTs (X.blk s H scope (compEnvC scope cl' C X.env) fp) ifs (tT X.K W0 cl pm t))
    (hk : ∀ (s : Shared) (H : Hp) (C : Addr) (cl' : List (Str × Addr)) (fp : List Addr), PE (X.blk s H scope (compEnvC scope cl' C X.env) fp) ex (tE X.K W0 cl pm ek))
    (he : ∀ (s : Shared) (H : Hp) (C : Addr) (cl' : List (Str × Addr)) (fp : List Addr), PE (X.blk s H scope (compEnvC scope cl' C X.env) fp) elt (tE X.K W0 cl pm e)) (hs : ∀ x, foldedSetIterable iter X.env x = pure x) :
    PE X (.DictComp ex elt [⟨tg, iter, ifs, 0⟩] scope pos) (tE X.K W cl pm (.dcm fr (own_.map (·.2)) g k l t ek e)) :=
  PE.imp (pe_dc hc hN hi ok hg ht hk he hs) (dc_read hsl)
/-- y = {k: v for ..} on one line, y a local -/
theorem ps_setDc {i : Nat} {y : Str} {py : Pos} {own : List (Str × Nat)} {spos : Pos} {wi : TI} {gt : TG} {tt : TT} {tk tv : TE} (hc : X.calm = true) (hN : X.N.Nodup) (hy : X.N[i]? = some y) (hyl : X.env.scope.names.lookup y = some .local)
    (hsw : swapsWith (.DictComp ex elt [⟨tg, iter, ifs, 0⟩] scope pos) (some (.Name y py)) spos.line X.env = pure true) (hi : PI X tg iter wi) (ok : BlkOk X.N X.env.scope scope own)
    (hg : ∀ (s : Shared) (H : Hp) (C : Addr) (cl' : List (Str × Addr)) (fp : List Addr), PG (X.blk s H scope (compEnvC scope cl' C X.env) fp) tg gt) (ht : ∀ (s : Shared) (H : Hp) (C : Addr) (cl' : List (Str × Addr)) (fp : List Addr), PTs (X.blk s H scope (compEnvC scope cl' C X.env) fp) ifs tt)
    (hk : ∀ (s : Shared) (H : Hp) (C : Addr) (cl' : List (Str × Addr)) (fp : List Addr), PE (X.blk s H scope (compEnvC scope cl' C X.env) fp) ex tk)
    (he : ∀ (s : Shared) (H : Hp) (C : Addr) (cl' : List (Str × Addr)) (fp : List Addr), PE (X.blk s H scope (compEnvC scope cl' C X.env) fp) elt tv) (hs : ∀ x, foldedSetIterable iter X.env x = pure x) :
    PS X (.Assign [.Name y py] (.DictComp ex elt [⟨tg, iter, ifs, 0⟩] scope pos) spos) (tAsg (tDc wi gt tt tk tv (own.map (·.2))) (gName i)) := by
  refine ⟨fun pins s σ H D I h => ?_⟩
  rw [exec_Assign_Name_used _ _ _ _ hsw]
  refine wpAny_bind (wpAny_standAt (wpAny_bind ?_))
  show wpAny _ X.A (do let _ ← comprehension (.DictComp ex elt [⟨tg, iter, ifs, 0⟩] scope pos) scope X.env (firstIterPos [⟨tg, iter, ifs, 0⟩] pos) newDict false (eval iter X.env) (some (assign (.Name y py) X.env))) _ _ s
  have h : tDc wi gt tt tk tv (own.map (·.2)) σ H (fun x H1 => gName i x σ H1 D.nx) := h
  refine wpAny_bind (thn (dc_core (Qf := fun _ s' => SP X pins D .next s') hc hN I hi ok hg ht hk he hs h fun L C s' m H' I' q hn f => ?_) fun _ s' hq => wpAny_pure (wpAny_pure hq))
  refine (show wpAny _ _ (assign (.Name y py) X.env (.ref L)) _ _ _ from ?_)
  refine wpAny_assign_Name (store_ok2 (v := V.ref L) I' hN hy (.inl hyl) rfl (fun s2 I2 za => ?_) (.inr hyl))
  obtain ⟨ad, sb, ha⟩ := za
  have haC : C ≠ ad := by
    rcases ha with z | z
    · exact fun e => f.2.1 (e.trans z)
    · exact fun e => f.2.2.2.2.1 y ad z e.symm
  exact ⟨m, hn.sameBut sb haC, fun h3 sb3 => ⟨_, H', I2.turned (t' := s2.toks) (fun b o hb e => (sb3.2 b hb).trans e) f.1 f.2.1 f.2.2.2.1 f.2.2.2.2.1 f.2.2.2.2.2, q⟩⟩
end
end Qq

set_option maxHeartbeats 4000000
/-! Q8: methods of built-in types. -/
namespace Qq
open PySem PySem.Spec PyProof.Rows L2

theorem MI.facts (mi : MI) : PlainAttrs mi.T ∧ Slot mi.T mi.nm mi.id ∧ typeOf (.builtin mi.id) = pure (.type "method_descriptor") := by
  cases mi
  · exact ⟨PySem.F.plainAttrs_list, PySem.F.slot_list_append, PySem.F.type_list_append⟩
  · exact ⟨PySem.F.plainAttrs_list, PySem.F.slot_list_pop, PySem.F.type_list_pop⟩
  · exact ⟨PySem.F.plainAttrs_dict, PySem.F.slot_dict_get, PySem.F.type_dict_get⟩
  · exact ⟨PySem.F.plainAttrs_dict, PySem.F.slot_dict_pop, PySem.F.type_dict_pop⟩
  · exact ⟨PySem.F.plainAttrs_str, PySem.F.slot_str_join, PySem.F.type_str_join⟩
section
variable {K : PySem.W.Frag} {G H : Hp}
theorem RpL.dropLast : ∀ {vs : List V} {ds : List T}, RpL K G vs ds → RpL K G vs.dropLast ds.dropLast
  | _, _, .nil => .nil
  | _, _, .cons r .nil => .nil
  | _, _, .cons r (.cons r2 t) => .cons r (RpL.dropLast (.cons r2 t))
theorem RpK.drop (k : Key) : ∀ {vs : List (Key × V)} {ds : List (Key × T)}, RpK K G vs ds → RpK K G (dropK vs k) (dropT ds k)
  | _, _, .nil => .nil
  | _, _, .cons (k := j) (v := v) (d := d) (vs := vs) (ds := ds) r q => by
    unfold dropT
    by_cases e : j = k
    · rw [if_pos e]
      have : dropK ((j, v) :: vs) k = dropK vs k := by unfold dropK; rw [List.filter_cons_of_neg]; simpa using e
      rw [this]; exact RpK.drop k q
    · rw [if_neg e]
      have : dropK ((j, v) :: vs) k = (j, v) :: dropK vs k := by unfold dropK; rw [List.filter_cons_of_pos]; simpa using e
      rw [this]; exact .cons r (RpK.drop k q)
end
/-! ### the built-in methods by values -/
section
variable {X : Cx}
theorem mt_dget (hu : X.A.units + 1 < cLine) : MtR X "dict.get" (fun x xs H Q => ∃ a, x = .ref a ∧ ((∃ y o, xs = [y] ∧ DGet H a y o ∧ Q (o.getD .non) H) ∨ ∃ y z o, xs = [y, z] ∧ DGet H a y o ∧ Q (o.getD z) H)) := by
  intro pins s σ H x xs v us Q I rx rs h
  obtain ⟨a, rfl, h⟩ := h
  cases rx
  rcases h with ⟨y, o, rfl, g, q⟩ | ⟨y, z, o, rfl, g, q⟩
  · obtain ⟨u, rfl, ru⟩ := vals1 rs
    exact d_get1 hu I g ru fun w' s' I' r' => ⟨_, H, I', r', q⟩
  · obtain ⟨u, u', rfl, ru, ru'⟩ := vals2 rs
    exact d_get2 hu I g ru ru' fun w' s' I' r' => ⟨_, H, I', r', q⟩
theorem mt_dpop : MtR X "dict.pop" (fun x xs H Q => ∃ a kvs k more, x = .ref a ∧ xs = kV k :: more ∧ H a = some (.dK kvs) ∧ ((∃ v, (more = [] ∨ ∃ z, more = [z]) ∧ valV kvs k = some v ∧ Q v (upd H a (.dK (dropK kvs k)))) ∨ ∃ z, more = [z] ∧ valV kvs k = none ∧ Q z H)) := by
  intro pins s σ H x xs v us Q I rx rs h
  obtain ⟨a, kvs, k, more, rfl, rfl, hH, h⟩ := h
  cases rx
  rcases h with ⟨v, hm, hv, q⟩ | ⟨z, rfl, hv, q⟩
  · rcases hm with rfl | ⟨z, rfl⟩
    · obtain ⟨u, rfl, ru⟩ := vals1 rs
      exact d_pop I hH ru hv (.inl rfl) fun w' s' I' r' => ⟨v, _, I', r', q⟩
    · obtain ⟨u, u', rfl, ru, ru'⟩ := vals2 rs
      exact d_pop I hH ru hv (.inr ⟨u', rfl⟩) fun w' s' I' r' => ⟨v, _, I', r', q⟩
  · obtain ⟨u, u', rfl, ru, ru'⟩ := vals2 rs
    exact d_popD I hH ru hv fun s' I' => ⟨z, H, I', ru', q⟩
def TyIs (X : Cx) (Ty : String) (x : V) (H : Hp) : Prop := ∀ (pins : List (Addr × Obj)) (s : Shared) (σ : L2.St) (v : Value), L2.Inv X pins σ H s → RelV x v → s.TypeIs v Ty ∧ ∀ a, v = .ref a → ∃ ob, s.heap.get? a = some ob ∧ ob.dict = none
theorem TyIs.of {Ty : String} {x : V} {H : Hp} (h : tyV X.K Ty x H) : TyIs X Ty x H := fun pins s σ v I r => tyV_is I r h
theorem TyIs.dct {a : Addr} {H : Hp} (h : IsD H a) : TyIs X "dict" (.ref a) H := fun pins s σ v I r => by
  cases r
  obtain ⟨h1, h2, _⟩ := isD_at I h
  exact ⟨h1, h2⟩
theorem miOf_ty {G H : Hp} {x : V} {t : T} {m : Str} {mi : MI} (f : Fz G H) (hx : Vw X.K G H x t) (h : miOf t m = some mi) : m = mi.nm ∧ TyIs X mi.T x H := by
  unfold miOf at h
  split at h
  · obtain ⟨a, xs, rfl, h1, _⟩ := hx.lst_inv f
    split at h
    · cases h; rename_i e; exact ⟨e, .of (.inl ⟨rfl, _, .inl h1⟩)⟩
    · split at h
      · cases h; rename_i e; exact ⟨e, .of (.inl ⟨rfl, _, .inl h1⟩)⟩
      · cases h
  · obtain ⟨a, xs, rfl, h1, _⟩ := hx.dK_inv f
    split at h
    · cases h; rename_i e; exact ⟨e, .dct (.inl ⟨_, h1⟩)⟩
    · split at h
      · cases h; rename_i e; exact ⟨e, .dct (.inl ⟨_, h1⟩)⟩
      · cases h
  · obtain ⟨a, xs, rfl, h1, _⟩ := hx.dT_inv f
    split at h
    · cases h; rename_i e; exact ⟨e, .dct (.inr ⟨_, h1⟩)⟩
    · cases h
  · cases hx.str_inv
    split at h
    · cases h; rename_i e; exact ⟨e, .of rfl⟩
    · cases h
  · cases h
theorem sumL_eq : ∀ ys : List Str, sumL ys = (ys.map (·.length)).sum
  | [] => rfl
  | y :: r => by unfold sumL; rw [sumL_eq r]; rfl
theorem joinT_inv {a : Str} {ds : List T} {t : T} (h : joinT a ds = some t) : ∃ ys, ds = ys.map T.str ∧ (ys.map (·.length)).sum + ys.length * a.length ≤ 16777216 ∧ t = .str (Txt.join a ys) := by
  unfold joinT at h
  split at h
  · rename_i ys e
    split at h
    · rename_i hl
      cases h
      exact ⟨ys, strsT_inv e, by rw [← sumL_eq]; exact hl, rfl⟩
    · cases h
  · cases h
/-- the method's rule, from what the short form says -/
theorem mth_ok {W : WX} {B G H : Hp} {m : List Addr} {S : Sto} {σ : L2.St} {Q : VK} {mi : MI} {d : D} {ds : List D} {x : V} {xs : List V} (hu : X.A.units + 1 < cLine) (p : Pre X.K B G m S H) (r1 : RpD X.K G m d x) (r2 : RpDs X.K G m ds xs)
    (q : Post X.K B W σ G m (RD X.K) Q (mthS mi d ds S)) : ∃ r, MtR X mi.id r ∧ r x xs H Q := by
  have cell : ∀ {i : Nat} {a : Addr} {c : Cl}, m[i]? = some a → S[i]? = some c → c.gonB = false → ∃ o, H a = some o ∧ CellOk X.K G c o := fun h1 h2 h3 => ((p.cells _ _ _ h2 h1).live h3).2
  unfold mthS at q
  split at q
  · -- append
    cases r1 with
    | o ha =>
      cases r2 with
      | cons z1 z2 =>
        cases z2
        cases z1 with
        | t z1 =>
          split at q
          · rename_i xs0 hs
            split at q
            · rename_i hl
              obtain ⟨o, ho, hc⟩ := cell ha hs rfl
              cases hc with
              | lst hc =>
                refine ⟨_, mt_append, _, _, _, rfl, rfl, ho, by rw [hc.length, ← line_eq]; exact hl, ?_⟩
                exact q .non _ G m (pre_rfl m) (Fz.refl G) (p.put hs ⟨(fun c0 z => by cases z), rfl⟩ ha (.lst (hc.append (.cons z1 .nil)))) (.t .non)
            · exact q.elim
          · exact q.elim
  · -- pop()
    cases r1 with
    | o ha =>
      cases r2
      split at q
      · rename_i xs0 hs
        split at q
        · rename_i y hy
          obtain ⟨o, ho, hc⟩ := cell ha hs rfl
          cases hc with
          | lst hc =>
            rw [← hc.length] at hy
            obtain ⟨v, h1, h2⟩ := hc.get hy
            refine ⟨_, mt_pop, _, _, v, rfl, rfl, ho, h1, ?_⟩
            exact q v _ G m (pre_rfl m) (Fz.refl G) (p.put hs ⟨(fun c0 z => by cases z), rfl⟩ ha (.lst hc.dropLast)) (.t h2)
        · exact q.elim
      · exact q.elim
  · -- pop(k)
    cases r1 with
    | o ha =>
      cases r2 with
      | cons z1 z2 =>
        cases z2
        cases z1 with
        | t z1 =>
          cases z1
          split at q
          · rename_i xs0 hs
            split at q
            · rename_i hk
              split at q
              · rename_i j hj
                split at q
                · rename_i y hy
                  obtain ⟨o, ho, hc⟩ := cell ha hs rfl
                  cases hc with
                  | lst hc =>
                    obtain ⟨v, h1, h2⟩ := hc.get hy
                    rw [← hc.length] at hj
                    refine ⟨_, mt_popAt, _, _, _, j, v, rfl, rfl, ho, hk.1, hk.2, hj, h1, ?_⟩
                    exact q v _ G m (pre_rfl m) (Fz.refl G) (p.put hs ⟨(fun c0 z => by cases z), rfl⟩ ha (.lst (hc.eraseIdx j))) (.t h2)
                · exact q.elim
              · exact q.elim
            · exact q.elim
          · exact q.elim
  · -- get(k)
    cases r2 with
    | cons z1 z2 =>
      cases z2
      obtain ⟨t, ht, q2⟩ := q.opt1
      split at ht
      · rename_i d0 e0 h1 h2
        obtain ⟨ov, h3, rfl⟩ := Option.map_eq_some_iff.mp ht
        obtain ⟨a, vo, rfl, g, h4⟩ := getT_ok p.fz (rd_ok p r1 h1) (rd_ok p z1 h2) h3
        refine ⟨_, mt_dget hu, a, rfl, .inl ⟨_, vo, rfl, g, ?_⟩⟩
        rcases h4 with ⟨rfl, rfl⟩ | ⟨v, t, rfl, rfl, h5⟩
        · exact Post.tree q2 p (Al.refl p.fz) .non
        · exact Post.tree q2 p (Al.refl p.fz) h5
      · cases ht
  · -- get(k, z)
    cases r2 with
    | cons z1 z2 =>
      cases z2 with
      | cons z3 z4 =>
        cases z4
        split at q
        · rename_i d0 e0 h1 h2
          split at q
          · rename_i v0 h3
            obtain ⟨a, vo, rfl, g, h4⟩ := getT_ok p.fz (rd_ok p r1 h1) (rd_ok p z1 h2) h3
            refine ⟨_, mt_dget hu, a, rfl, .inr ⟨_, _, vo, rfl, g, ?_⟩⟩
            rcases h4 with ⟨e, _⟩ | ⟨v, t, e, rfl, h5⟩
            · cases e
            · cases e; exact Post.tree q p (Al.refl p.fz) h5
          · rename_i h3
            obtain ⟨a, vo, rfl, g, h4⟩ := getT_ok p.fz (rd_ok p r1 h1) (rd_ok p z1 h2) h3
            refine ⟨_, mt_dget hu, a, rfl, .inr ⟨_, _, vo, rfl, g, ?_⟩⟩
            rcases h4 with ⟨_, rfl⟩ | ⟨v, t, e, _, _⟩
            · exact q _ H G m (pre_rfl m) (Fz.refl G) p z3
            · cases e
          · exact q.elim
        · exact q.elim
  · -- pop(k) of a dict
    cases r1 with
    | o ha =>
      cases r2 with
      | cons z1 z2 =>
        cases z2
        split at q
        · rename_i kvs k0 hs hk
          obtain ⟨t0, h1, h2⟩ := Option.bind_eq_some_iff.mp hk
          have ek := keyT_v (rd_ok p z1 h1) h2
          subst ek
          split at q
          · rename_i v0 hv
            obtain ⟨o, ho, hc⟩ := cell ha hs rfl
            cases hc with
            | dK hc =>
              rcases hc.val k0 with ⟨e1, _⟩ | ⟨v, t, e1, e2, h5⟩
              · rw [hv] at e1; cases e1
              · rw [hv] at e1; cases e1
                refine ⟨_, mt_dpop, _, _, k0, [], rfl, rfl, ho, .inl ⟨v, .inl rfl, e2, ?_⟩⟩
                exact q v _ G m (pre_rfl m) (Fz.refl G) (p.put hs ⟨(fun c0 z => by cases z), rfl⟩ ha (.dK (hc.drop k0))) (.t h5)
          · exact q.elim
        · exact q.elim
  · -- pop(k, z)
    cases r1 with
    | o ha =>
      cases r2 with
      | cons z1 z2 =>
        cases z2 with
        | cons z3 z4 =>
          cases z4
          split at q
          · rename_i kvs k0 hs hk
            obtain ⟨t0, h1, h2⟩ := Option.bind_eq_some_iff.mp hk
            have ek := keyT_v (rd_ok p z1 h1) h2
            subst ek
            obtain ⟨o, ho, hc⟩ := cell ha hs rfl
            cases hc with
            | dK hc =>
              rcases hc.val k0 with ⟨e1, e2⟩ | ⟨v, t, e1, e2, h5⟩
              · rw [e1] at q
                refine ⟨_, mt_dpop, _, _, k0, _, rfl, rfl, ho, .inr ⟨_, rfl, e2, ?_⟩⟩
                exact q _ H G m (pre_rfl m) (Fz.refl G) p z3
              · rw [e1] at q
                refine ⟨_, mt_dpop, _, _, k0, _, rfl, rfl, ho, .inl ⟨v, .inr ⟨_, rfl⟩, e2, ?_⟩⟩
                exact q v _ G m (pre_rfl m) (Fz.refl G) (p.put hs ⟨(fun c0 z => by cases z), rfl⟩ ha (.dK (hc.drop k0))) (.t h5)
          · exact q.elim
  · -- join
    cases r2 with
    | cons z1 z2 =>
      cases z2
      obtain ⟨t, ht, q2⟩ := q.opt1
      split at ht
      · rename_i a0 ds0 h1 h2
        obtain ⟨t', h3, rfl⟩ := Option.map_eq_some_iff.mp ht
        obtain ⟨ys, rfl, hl, rfl⟩ := joinT_inv h3
        cases (rd_ok p r1 h1).str_inv
        obtain ⟨a, xs0, rfl, h4, h5⟩ := (rd_ok p z1 h2).lst_inv p.fz
        rw [h5.strs_inv] at h4
        exact ⟨_, mt_join, _, a, ys, rfl, rfl, .inl (.inl h4), hl, Post.tree q2 p (Al.refl p.fz) (.str _)⟩
      · rename_i a0 ds0 h1 h2
        obtain ⟨t', h3, rfl⟩ := Option.map_eq_some_iff.mp ht
        obtain ⟨ys, rfl, hl, rfl⟩ := joinT_inv h3
        cases (rd_ok p r1 h1).str_inv
        obtain ⟨a, xs0, rfl, h4, h5⟩ := (rd_ok p z1 h2).tup_inv p.fz
        rw [h5.strs_inv] at h4
        exact ⟨_, mt_join, _, a, ys, rfl, rfl, .inr (SqT.of h4), hl, Post.tree q2 p (Al.refl p.fz) (.str _)⟩
      · cases ht
  · exact q.elim
/-- o.m(..), the method by what o is -/
theorem qe_mth {W : WX} {cl : Nat → List D → Sto → R D} {pm : Nat → List D → List D → Option (List D)} {o e : Expr} {es : List Expr} {m : Str} {apos cpos : Pos} {a l : C} (hu : X.A.units + 1 < cLine) (ho : PE X o (tE X.K W cl pm a)) (ha : PA X (e :: es) (tA X.K W cl pm l))
    (hbase : attributeBase o m X.env (eval o X.env) = eval o X.env)
    (hfew : ((backTo cpos (starEach (e :: es) X.env)).all (fun x => !x.1) && (backToKw cpos (keywordEach [] X.env)).all (fun x => x.1.isSome)
      && decide ((e :: es).length + ([] : List Keyword).length + (if ([] : List Keyword).isEmpty then 0 else 1) < 30)) = true)
    (hline : (apos.endLine == cpos.line) = true) (hs : starEach (e :: es) X.env = (false, eval e X.env) :: starEach es X.env) (hplain : (backTo cpos (starEach es X.env)).any (·.1) = false) :
    PE X (.Call (.Attribute o m apos) (e :: es) [] cpos) (tE X.K W cl pm (.mth m a l)) := by
  refine ⟨fun pins s σ H Q I h => ?_⟩
  obtain ⟨B, G, mm, S, r, hP, hE, q⟩ := h
  refine wpAny_Call_method_late hbase hfew hline rfl (thn (ho.run pins s σ H _ I (stepE hP hE q)) fun v s1 ⟨x, H1, I1, r1, G1, m1, S1, d, i1, f1, P1, E1, rd1, q1⟩ => ?_)
  obtain ⟨mi, hmi, q2⟩ := q1.optB
  obtain ⟨t, ht, hmi2⟩ := Option.bind_eq_some_iff.mp hmi
  obtain ⟨em, ty⟩ := miOf_ty P1.fz (rd_ok P1 rd1 ht) hmi2
  obtain ⟨pa, slot, hty⟩ := mi.facts
  obtain ⟨h1, h2⟩ := ty pins s1 σ v I1 r1
  subst em
  refine ⟨mi.T, mi.id, pa, slot, hty, h1, h2, ?_⟩
  have hA := ha.run cpos pins s1 σ H1 _ I1 (stepA P1 E1 q2)
  rw [hs] at hA ⊢
  refine Calls.callWith_builtin (by show (false || (backTo cpos (starEach es X.env)).any (·.1)) = false; rw [hplain] <;> rfl) (Calls.evalArgs_plain ?_)
  refine thn hA fun us s2 ⟨vs, H2, I2, rv, G2, m2, S2, ds, i2, f2, P2, E2, rd2, q3⟩ => ?_
  obtain ⟨rr, hr, hq⟩ := mth_ok hu P2 (rd1.mono f2 i2) rd2 (show Post X.K B W σ G2 m2 (RD X.K) Q (mthS mi d ds S2) from q3)
  exact hr pins s2 σ H2 x vs v us Q I2 r1 rv hq
theorem qe_mth0 {W : WX} {cl : Nat → List D → Sto → R D} {pm : Nat → List D → List D → Option (List D)} {o : Expr} {m : Str} {apos cpos : Pos} {a : C} (hu : X.A.units + 1 < cLine) (ho : PE X o (tE X.K W cl pm a))
    (hbase : attributeBase o m X.env (eval o X.env) = eval o X.env) (hline : (apos.endLine == cpos.line) = true) : PE X (.Call (.Attribute o m apos) [] [] cpos) (tE X.K W cl pm (.mth m a .nil)) := by
  refine ⟨fun pins s σ H Q I h => ?_⟩
  obtain ⟨B, G, mm, S, r, hP, hE, q⟩ := h
  refine wpAny_Call_method0_late hbase hline (thn (ho.run pins s σ H _ I (stepE hP hE q)) fun v s1 ⟨x, H1, I1, r1, G1, m1, S1, d, i1, f1, P1, E1, rd1, q1⟩ => ?_)
  obtain ⟨mi, hmi, q2⟩ := q1.optB
  obtain ⟨t, ht, hmi2⟩ := Option.bind_eq_some_iff.mp hmi
  obtain ⟨em, ty⟩ := miOf_ty P1.fz (rd_ok P1 rd1 ht) hmi2
  obtain ⟨pa, slot, hty⟩ := mi.facts
  obtain ⟨h1, h2⟩ := ty pins s1 σ v I1 r1
  subst em
  obtain ⟨rr, hr, hq⟩ := mth_ok (ds := []) hu P1 rd1 .nil (show Post X.K B W σ G1 m1 (RD X.K) Q (mthS mi d [] S1) from q2)
  exact ⟨mi.T, mi.id, pa, slot, hty, h1, h2, Calls.callWith_builtin rfl (PySem.evalArgs_none (hr pins s1 σ H1 x [] v [] Q I1 r1 .nil hq))⟩
end
end Qq

set_option maxHeartbeats 4000000
/-! Q9: statements. -/
namespace Qq
open PySem PySem.Spec PyProof.Rows L2

inductive FV where
  | nx | brk | cnt | ret (v : V)
abbrev EW (E : XK) : WX := fun c d _ H => E c d H
def flR (K : PySem.W.Frag) (G : Hp) (m : List Addr) : Fl → FV → Prop
  | .nx, .nx => True
  | .brk, .brk => True
  | .cnt, .cnt => True
  | .ret d, .ret v => RpD K G m d v
  | _, _ => False
def RS (K : PySem.W.Frag) : Hp → Hp → List Addr → Fl × Env → FV × L2.St → Prop := fun G _ m x y => RelE K G m x.2 y.2 ∧ flR K G m x.1 y.1
def QS (D : Ends) : FV × L2.St → Hp → Prop := fun y H => match y.1 with
  | .nx => D.nx y.2 H
  | .brk => D.bk y.2 H
  | .cnt => D.ct y.2 H
  | .ret v => D.rt v H
section
variable (K : PySem.W.Frag) (E : XK) (wf : Nat) (cl : Nat → List D → Sto → R D) (pm : Nat → List D → List D → Option (List D))
def tS (P : P) : TS := fun D σ H => ∃ B G m S r, Pre K B G m S H ∧ RelE K G m r σ ∧ Post K B (EW E) σ G m (RS K) (QS D) (exec wf cl pm P r S)
end
theorem PS.imp {X : Cx} {e : Stmt} {t t' : TS} (h : PS X e t) (q : ∀ D σ H, t' D σ H → t D σ H) : PS X e t' := ⟨fun pins s σ H D I z => h.run pins s σ H D I (q _ _ _ z)⟩
theorem PSs.imp {X : Cx} {e : List Stmt} {t t' : TS} (h : PSs X e t) (q : ∀ D σ H, t' D σ H → t D σ H) : PSs X e t' := ⟨fun pins s σ H D I z => h.run pins s σ H D I (q _ _ _ z)⟩
theorem Post.ws {α β : Type} {K : PySem.W.Frag} {B : Hp} {E : XK} {σ σ' : L2.St} {G : Hp} {m : List Addr} {Rr : Hp → Hp → List Addr → α → β → Prop} {Q : β → Hp → Prop} {r : R α} (h : Post K B (EW E) σ G m Rr Q r) : Post K B (EW E) σ' G m Rr Q r := by
  cases r with
  | ok d S => exact h
  | exc x S => exact h
  | bad => exact h

section
variable {X : Cx} {E : XK} {wf : Nat} {cl : Nat → List D → Sto → R D} {pm : Nat → List D → List D → Option (List D)} {pos tpos p2 : Pos} {e1 e2 e3 : Expr} {a b c l o i : C} {st : Stmt} {sts sts2 : List Stmt} {s t : P}
theorem qs_nil : PSs X [] (tS X.K E wf cl pm .nil) := by
  refine PSs.imp pss_nil ?_
  rintro D σ H ⟨B, G, m, S, r, hP, hE, q⟩
  exact q (.nx, σ) H G m (pre_rfl m) (Fz.refl G) hP ⟨hE, trivial⟩
theorem qs_seq (h1 : PS X st (tS X.K E wf cl pm s)) (h2 : PSs X sts (tS X.K E wf cl pm t)) : PSs X (st :: sts) (tS X.K E wf cl pm (.seq s t)) := by
  refine PSs.imp (pss_cons h1 h2) ?_
  rintro D σ H ⟨B, G, m, S, r, hP, hE, q⟩
  refine ⟨B, G, m, S, r, hP, hE, (Post.bind (Rr := RS X.K) q).mono ?_⟩
  rintro ⟨fv, σ1⟩ H1 ⟨G1, m1, S1, ⟨fl, r1⟩, i1, f1, P1, ⟨E1, hf⟩, q1⟩
  have E1 : RelE X.K G1 m1 r1 σ1 := E1
  cases fl with
  | nx =>
    cases fv with
    | nx => exact ⟨B, G1, m1, S1, r1, P1, E1, q1.ws⟩
    | brk => exact hf.elim
    | cnt => exact hf.elim
    | ret v => exact hf.elim
  | brk =>
    cases fv with
    | brk => exact q1 (.brk, σ1) H1 G1 m1 (pre_rfl m1) (Fz.refl G1) P1 ⟨E1, trivial⟩
    | nx => exact hf.elim
    | cnt => exact hf.elim
    | ret v => exact hf.elim
  | cnt =>
    cases fv with
    | cnt => exact q1 (.cnt, σ1) H1 G1 m1 (pre_rfl m1) (Fz.refl G1) P1 ⟨E1, trivial⟩
    | nx => exact hf.elim
    | brk => exact hf.elim
    | ret v => exact hf.elim
  | ret d =>
    cases fv with
    | ret v => exact q1 (.ret v, σ1) H1 G1 m1 (pre_rfl m1) (Fz.refl G1) P1 ⟨E1, hf⟩
    | nx => exact hf.elim
    | brk => exact hf.elim
    | cnt => exact hf.elim
theorem qs_pass : PS X (.Pass pos) (tS X.K E wf cl pm .pass) := by
  refine PS.imp ps_pass ?_
  rintro D σ H ⟨B, G, m, S, r, hP, hE, q⟩
  exact q (.nx, σ) H G m (pre_rfl m) (Fz.refl G) hP ⟨hE, trivial⟩
theorem qs_doc {x j} : PS X (.Expr (.Constant (.str x) j pos) tpos) (tS X.K E wf cl pm .pass) := by
  refine PS.imp ps_doc ?_
  rintro D σ H ⟨B, G, m, S, r, hP, hE, q⟩
  exact q (.nx, σ) H G m (pre_rfl m) (Fz.refl G) hP ⟨hE, trivial⟩
theorem qs_brk : PS X (.Break pos) (tS X.K E wf cl pm .brk) := by
  refine PS.imp ps_break ?_
  rintro D σ H ⟨B, G, m, S, r, hP, hE, q⟩
  exact q (.brk, σ) H G m (pre_rfl m) (Fz.refl G) hP ⟨hE, trivial⟩
theorem qs_cnt : PS X (.Continue pos) (tS X.K E wf cl pm .cnt) := by
  refine PS.imp ps_continue ?_
  rintro D σ H ⟨B, G, m, S, r, hP, hE, q⟩
  exact q (.cnt, σ) H G m (pre_rfl m) (Fz.refl G) hP ⟨hE, trivial⟩
theorem qs_never : PS X st (tS X.K E wf cl pm .never) := by
  refine PS.imp ps_never ?_
  rintro D σ H ⟨B, G, m, S, r, hP, hE, q⟩
  exact q.elim
theorem qs_drop (he : PE X e1 (tE X.K (EW E) cl pm c)) (hs : swapsWith e1 none pos.line X.env = pure false) : PS X (.Expr e1 pos) (tS X.K E wf cl pm (.drop c)) := by
  refine PS.imp (ps_expr he hs) ?_
  rintro D σ H ⟨B, G, m, S, r, hP, hE, q⟩
  refine tE_mono (stepE hP hE q) ?_
  rintro v H1 ⟨G1, m1, S1, d, i1, f1, P1, E1, r1, q1⟩
  exact q1 (.nx, σ) H1 G1 m1 (pre_rfl m1) (Fz.refl G1) P1 ⟨E1, trivial⟩
theorem qs_ret (he : PE X e1 (tE X.K (EW E) cl pm c)) : PS X (.Return (some e1) pos) (tS X.K E wf cl pm (.ret c)) := by
  refine PS.imp (ps_ret he) ?_
  rintro D σ H ⟨B, G, m, S, r, hP, hE, q⟩
  refine tE_mono (stepE hP hE q) ?_
  rintro v H1 ⟨G1, m1, S1, d, i1, f1, P1, E1, r1, q1⟩
  exact q1 (.ret v, σ) H1 G1 m1 (pre_rfl m1) (Fz.refl G1) P1 ⟨E1, r1⟩
theorem qs_retN : PS X (.Return none pos) (tS X.K E wf cl pm .retN) := by
  refine PS.imp ps_retN ?_
  rintro D σ H ⟨B, G, m, S, r, hP, hE, q⟩
  exact q (.ret .non, σ) H G m (pre_rfl m) (Fz.refl G) hP ⟨hE, .t .non⟩
theorem qs_ite (hc : PT X e1 (tT X.K (EW E) cl pm c)) (ha : PSs X sts (tS X.K E wf cl pm s)) (hb : PSs X sts2 (tS X.K E wf cl pm t)) : PS X (.If e1 sts sts2 pos) (tS X.K E wf cl pm (.ite c s t)) := by
  refine PS.imp (ps_if hc ha hb) ?_
  rintro D σ H ⟨B, G, m, S, r, hP, hE, q⟩
  refine tT_mono (stepT hP hE q) ?_
  rintro k H1 ⟨G1, m1, S1, i1, f1, P1, E1, q1⟩
  cases k with
  | true => exact iteT ⟨B, G1, m1, S1, r, P1, E1, q1⟩
  | false => exact iteF ⟨B, G1, m1, S1, r, P1, E1, q1⟩
theorem asgD_tree {g : Tg} {d : T} {r : Env} : asgD g (.t d) r = asgT g d r := by cases g <;> rfl
theorem asg_read {g : Tg} {te : TE} (ht : ∀ σ H Q, tE X.K (EW E) cl pm c σ H Q → te σ H Q) : ∀ D σ H, tS X.K E wf cl pm (.asg g c) D σ H → tAsg te (tgP X.K g).1 D σ H := by
  rintro D σ H ⟨B, G, m, S, r, hP, hE, q⟩
  refine ht _ _ _ (tE_mono (stepE hP hE q) ?_)
  rintro v H1 ⟨G1, m1, S1, d, i1, f1, P1, E1, r1, q1⟩
  obtain ⟨⟨fl, r2⟩, ho, q2⟩ := q1.opt1
  obtain ⟨r3, hr, he⟩ := Option.map_eq_some_iff.mp ho
  obtain ⟨rfl, rfl⟩ := Prod.mk.inj he
  have fin : ∀ σ', RelE X.K G1 m1 r3 σ' → D.nx σ' H1 := fun σ' e => q2 (.nx, σ') H1 G1 m1 (pre_rfl m1) (Fz.refl G1) P1 ⟨e, trivial⟩
  cases r1 with
  | t r1 =>
    rw [asgD_tree] at hr
    exact (tg_ok P1.fz g).1 _ _ _ _ _ r1 E1 hr _ fun σ' e _ => fin σ' e
  | o hoo =>
    cases g with
    | n i => cases hr; exact fin _ (E1.set (.o hoo) i)
    | nil => cases hr
    | cons _ _ => cases hr
theorem qs_asg {tg : Expr} {g : Tg} (he : PE X e1 (tE X.K (EW E) cl pm c)) (hg : PG X tg (tgP X.K g).1) (hs : swapsWithSole [tg] e1 pos.line X.env = pure false) (hw : swappedStores [tg] e1 X.env = pure none) (h1 : (assignEach [tg] X.env).map (·.2) = [assign tg X.env]) :
    PS X (.Assign [tg] e1 pos) (tS X.K E wf cl pm (.asg g c)) := PS.imp (ps_asg he hg hs hw h1) (asg_read fun _ _ _ h => h)
/-- name = [..] on one line -/
theorem qs_asgLc {n : Nat} {y : Str} {py spos : Pos} {tg iter elt : Expr} {ifs : List Expr} {scope : Scope} {own_ : List (Str × Nat)} {g : Tg} {k : IK} {t e : C} {fr : Bool}
    (hc : X.calm = true) (hN : X.N.Nodup) (hy : X.N[n]? = some y) (hyl : X.env.scope.names.lookup y = some .local)
    (hsw : swapsWith (.ListComp elt [⟨tg, iter, ifs, 0⟩] scope pos) (some (.Name y py)) spos.line X.env = pure true)
    (hi : PI X tg iter (tI X.K (EW E) cl pm k l)) (ok : BlkOk X.N X.env.scope scope own_) (hsl : ∀ i ∈ g.slots, i ∈ own_.map (·.2))
    (hg : ∀ (s : Shared) (H : Hp) (C : Addr) (cl : List (Str × Addr)) (fp : List Addr), PG (X.blk s H scope (compEnvC scope cl C X.env) fp) tg (tgP X.K g).1) (ht : ∀ (s : Shared) (H : Hp) (C : Addr) (cl' : List (Str × Addr)) (fp : List Addr), PTs (X.blk s H scope (compEnvC scope cl' C X.env) fp) ifs (tT X.K W0 cl pm t))
    (he : ∀ (s : Shared) (H : Hp) (C : Addr) (cl' : List (Str × Addr)) (fp : List Addr), PE (X.blk s H scope (compEnvC scope cl' C X.env) fp) elt (tE X.K W0 cl pm e)) (hs : ∀ x, foldedSetIterable iter X.env x = pure x) :
    PS X (.Assign [.Name y py] (.ListComp elt [⟨tg, iter, ifs, 0⟩] scope pos) spos) (tS X.K E wf cl pm (.asg (.n n) (.comp fr (own_.map (·.2)) g k l t e))) :=
  PS.imp (ps_setLc hc hN hy hyl hsw hi ok hg ht he hs) (asg_read (g := .n n) (comp_read hsl))
theorem qs_asgDc {n : Nat} {y : Str} {py spos : Pos} {tg iter ex elt : Expr} {ifs : List Expr} {scope : Scope} {own_ : List (Str × Nat)} {g : Tg} {k : IK} {t ek e : C} {fr : Bool}
    (hc : X.calm = true) (hN : X.N.Nodup) (hy : X.N[n]? = some y) (hyl : X.env.scope.names.lookup y = some .local)
    (hsw : swapsWith (.DictComp ex elt [⟨tg, iter, ifs, 0⟩] scope pos) (some (.Name y py)) spos.line X.env = pure true)
    (hi : PI X tg iter (tI X.K (EW E) cl pm k l)) (ok : BlkOk X.N X.env.scope scope own_) (hsl : ∀ i ∈ g.slots, i ∈ own_.map (·.2))
    (hg : ∀ (s : Shared) (H : Hp) (C : Addr) (cl : List (Str × Addr)) (fp : List Addr), PG (X.blk s H scope (compEnvC scope cl C X.env) fp) tg (tgP X.K g).1) (ht : ∀ (s : Shared) (H : Hp) (C : Addr) (cl' : List (Str × Addr)) (fp : List Addr), PTs (X.blk s H scope (compEnvC scope cl' C X.env) fp) ifs (tT X.K W0 cl pm t))
    (hk : ∀ (s : Shared) (H : Hp) (C : Addr) (cl' : List (Str × Addr)) (fp : List Addr), PE (X.blk s H scope (compEnvC scope cl' C X.env) fp) ex (tE X.K W0 cl pm ek))
    (he : ∀ (s : Shared) (H : Hp) (C : Addr) (cl' : List (Str × Addr)) (fp : List Addr), PE (X.blk s H scope (compEnvC scope cl' C X.env) fp) elt (tE X.K W0 cl pm e)) (hs : ∀ x, foldedSetIterable iter X.env x = pure x) :
    PS X (.Assign [.Name y py] (.DictComp ex elt [⟨tg, iter, ifs, 0⟩] scope pos) spos) (tS X.K E wf cl pm (.asg (.n n) (.dcm fr (own_.map (·.2)) g k l t ek e))) :=
  PS.imp (ps_setDc hc hN hy hyl hsw hi ok hg ht hk he hs) (asg_read (g := .n n) (dc_read hsl))
/-- names as a target -/
def tgN : List Nat → Tg
  | [] => .nil
  | i :: r => .cons (.n i) (tgN r)
theorem tgN_ok {K : PySem.W.Frag} {G H : Hp} {m : List Addr} : ∀ {is : List Nat} {ds : List D} {vs : List V} {r r3 : Env} {σ : L2.St}, RpDs K G m ds vs → RelE K G m r σ → asgP is ds r = some r3 →
    (tgN is).len = vs.length ∧ ∀ (Q : L2.St → Hp → Prop), (∀ σ', RelE K G m r3 σ' → Q σ' H) → (tgP K (tgN is)).2 vs σ H Q
  | [], [], _, r, _, σ, .nil, he, h => by cases h; exact ⟨rfl, fun Q q => ⟨rfl, q _ he⟩⟩
  | i :: is, d :: ds, _, r, r3, σ, .cons (v := v) (vs := vs) h1 h2, he, h => by
    have h : asgP is ds (r.set i (some d)) = some r3 := h
    obtain ⟨e1, e2⟩ := tgN_ok (H := H) h2 (he.set h1 i) h
    refine ⟨by rw [List.length_cons, ← e1]; rfl, fun Q q => ⟨v, vs, rfl, ?_⟩⟩
    exact e2 Q q
  | [], _ :: _, _, _, _, _, _, _, h => by cases h
  | _ :: _, [], _, _, _, _, _, _, h => by cases h
theorem asgP_len : ∀ {is : List Nat} {ds : List D} {r r3 : Env}, asgP is ds r = some r3 → ds.length = is.length
  | [], [], _, _, _ => rfl
  | [], _ :: _, _, _, h => by cases h
  | _ :: _, [], _, _, h => by cases h
  | i :: is, d :: ds, r, r3, h => by
    have h : asgP is ds (r.set i (some d)) = some r3 := h
    rw [List.length_cons, List.length_cons, asgP_len h]
/-- a, b, .. = e1, e2, ..: by way of the tuple -/
theorem qs_unp {es ts : List Expr} {is : List Nat} {k k2 : Nat} {p p2 : Pos} (hl : is.length ≤ 1000) (ha : PA X es (tA X.K (EW E) cl pm l)) (hg : PG X (.Tuple ts k p) (tgP X.K (tgN is)).1) (hs : swapsWithSole [.Tuple ts k p] (.Tuple es k2 p2) pos.line X.env = pure false)
    (hw : swappedStores [.Tuple ts k p] (.Tuple es k2 p2) X.env = pure none) : PS X (.Assign [.Tuple ts k p] (.Tuple es k2 p2) pos) (tS X.K E wf cl pm (.par is l)) := by
  refine PS.imp (ps_asg (pe_tup ha) hg hs hw rfl) ?_
  rintro D σ H ⟨B, G, m, S, r, hP, hE, q⟩
  refine tA_mono (stepA hP hE q) ?_
  rintro vs H1 ⟨G1, m1, S1, ds, i1, f1, P1, E1, r1, q1⟩
  obtain ⟨⟨fl, r2⟩, ho, q2⟩ := q1.opt1
  obtain ⟨r3, hr, he⟩ := Option.map_eq_some_iff.mp ho
  obtain ⟨rfl, rfl⟩ := Prod.mk.inj he
  have hr : asgP is ds r = some r3 := hr
  have hvl : vs.length = is.length := by rw [← r1.length]; exact asgP_len hr
  refine ⟨by rw [hvl, sizeLine_eq]; omega, fun a ha => ?_⟩
  have al : Al G1 H1 (upd G1 a (.tup vs)) (upd H1 a (.tup vs)) := Al.lay P1.fz ha fun ob u z => by cases z
  have P2 := al.pre P1
  obtain ⟨e1, e2⟩ := tgN_ok (H := upd H1 a (.tup vs)) (r1.mono al.fz (pre_rfl m1)) (E1.mono al.fz (pre_rfl m1)) hr
  have fin : ∀ σ', RelE X.K (upd G1 a (.tup vs)) m1 r3 σ' → D.nx σ' (upd H1 a (.tup vs)) := fun σ' e => q2 (.nx, σ') _ _ m1 (pre_rfl m1) al.fz P2 ⟨e, trivial⟩
  have z := e2 D.nx fin
  have key : ∀ g : Tg, g.len = vs.length → (∀ i, g ≠ .n i) → (tgP X.K g).2 vs σ (upd H1 a (.tup vs)) D.nx → (tgP X.K g).1 (.ref a) σ (upd H1 a (.tup vs)) D.nx := fun g hgl hn z => by
    cases g with
    | n i => exact absurd rfl (hn i)
    | nil => exact .inl ⟨a, vs, rfl, SqT.of upd_same, hgl.symm, z⟩
    | cons x y => exact .inl ⟨a, vs, rfl, SqT.of upd_same, hgl.symm, z⟩
  exact key _ e1 (fun i h => by cases is <;> cases h) z
theorem qs_par {n n2 : Nat} {x y : Str} {px py pt pos : Pos} {kt k2 pt2} (hc : X.calm = true) (hN : X.N.Nodup) (hi : X.N[n]? = some x) (hj : X.N[n2]? = some y) (hij : n ≠ n2)
    (hx : X.env.scope.names.lookup x = some .local) (hy : X.env.scope.names.lookup y = some .local) (ha : PA X [e1, e2] (tA X.K (EW E) cl pm l))
    (hw : swappedStores [.Tuple [.Name x px, .Name y py] kt pt] (.Tuple [e1, e2] k2 pt2) X.env = pure (some [x, y]))
    (hs : swapsWithSole [.Tuple [.Name x px, .Name y py] kt pt] (.Tuple [e1, e2] k2 pt2) pos.line X.env = pure false) :
    PS X (.Assign [.Tuple [.Name x px, .Name y py] kt pt] (.Tuple [e1, e2] k2 pt2) pos) (tS X.K E wf cl pm (.par [n, n2] l)) := by
  refine PS.imp (ps_par hc hN hi hj hij hx hy ha hw hs) ?_
  rintro D σ H ⟨B, G, m, S, r, hP, hE, q⟩
  refine tA_mono (stepA hP hE q) ?_
  rintro vs H1 ⟨G1, m1, S1, ds, i1, f1, P1, E1, r1, q1⟩
  obtain ⟨⟨fl, r2⟩, ho, q2⟩ := q1.opt1
  obtain ⟨r3, hr, he⟩ := Option.map_eq_some_iff.mp ho
  obtain ⟨rfl, rfl⟩ := Prod.mk.inj he
  have hr : asgP [n, n2] ds r = some r3 := hr
  cases r1 with
  | nil => cases hr
  | cons z1 r1 =>
    cases r1 with
    | nil => cases hr
    | cons z2 r1 =>
      cases r1 with
      | cons _ _ => cases hr
      | nil =>
        cases hr
        exact ⟨_, _, rfl, q2 (.nx, _) H1 G1 m1 (pre_rfl m1) (Fz.refl G1) P1 ⟨(E1.set z1 n).set z2 n2, trivial⟩⟩
theorem qs_par3 {n n2 n3 : Nat} {x y z : Str} {px py pz pt pos : Pos} {kt k2 pt2} (hc : X.calm = true) (hN : X.N.Nodup) (hi : X.N[n]? = some x) (hj : X.N[n2]? = some y) (hl : X.N[n3]? = some z) (hij : n ≠ n2) (hil : n ≠ n3) (hjl : n2 ≠ n3)
    (hx : X.env.scope.names.lookup x = some .local) (hy : X.env.scope.names.lookup y = some .local) (hz : X.env.scope.names.lookup z = some .local) (ha : PA X [e1, e2, e3] (tA X.K (EW E) cl pm l))
    (hw : swappedStores [.Tuple [.Name x px, .Name y py, .Name z pz] kt pt] (.Tuple [e1, e2, e3] k2 pt2) X.env = pure (some [x, y, z]))
    (hs : swapsWithSole [.Tuple [.Name x px, .Name y py, .Name z pz] kt pt] (.Tuple [e1, e2, e3] k2 pt2) pos.line X.env = pure false) :
    PS X (.Assign [.Tuple [.Name x px, .Name y py, .Name z pz] kt pt] (.Tuple [e1, e2, e3] k2 pt2) pos) (tS X.K E wf cl pm (.par [n, n2, n3] l)) := by
  refine PS.imp (ps_par3 hc hN hi hj hl hij hil hjl hx hy hz ha hw hs) ?_
  rintro D σ H ⟨B, G, m, S, r, hP, hE, q⟩
  refine tA_mono (stepA hP hE q) ?_
  rintro vs H1 ⟨G1, m1, S1, ds, i1, f1, P1, E1, r1, q1⟩
  obtain ⟨⟨fl, r2⟩, ho, q2⟩ := q1.opt1
  obtain ⟨r3, hr, he⟩ := Option.map_eq_some_iff.mp ho
  obtain ⟨rfl, rfl⟩ := Prod.mk.inj he
  have hr : asgP [n, n2, n3] ds r = some r3 := hr
  cases r1 with
  | nil => cases hr
  | cons z1 r1 =>
    cases r1 with
    | nil => cases hr
    | cons z2 r1 =>
      cases r1 with
      | nil => cases hr
      | cons z3 r1 =>
        cases r1 with
        | cons _ _ => cases hr
        | nil =>
          cases hr
          exact ⟨_, _, _, rfl, q2 (.nx, _) H1 G1 m1 (pre_rfl m1) (Fz.refl G1) P1 ⟨((E1.set z1 n).set z2 n2).set z3 n3, trivial⟩⟩
/-- += and -= of ints -/
theorem qs_aug {n : Nat} {x : Str} {op : Operator} (hop : op = .Add ∨ op = .Sub) (hN : X.N.Nodup) (hi : X.N[n]? = some x) (hx : Loc X.env.scope x) (he : PE X e1 (tE X.K (EW E) cl pm c)) (hf : X.fn x = true ∨ X.env.scope.names.lookup x = some .local) :
    PS X (.AugAssign (.Name x tpos) op e1 pos) (tS X.K E wf cl pm (.aug n op c)) := by
  have key : ∀ (ti : TIp), PIp X op ti → (∀ i j H Q, (match op with
      | .Add => Q (V.int (i + j)) H
      | .Sub => Q (V.int (i - j)) H
      | _ => False) → ti (.int i) (.int j) H Q) → PS X (.AugAssign (.Name x tpos) op e1 pos) (tS X.K E wf cl pm (.aug n op c)) := by
    intro ti ho hti
    refine PS.imp (ps_aug hN hi hx he ho hf) ?_
    rintro D σ H ⟨B, G, m, S, r, hP, hE, q⟩
    obtain ⟨d, hd, q⟩ := q.optB
    split at hd
    · rename_i d' hd'
      cases hd
      obtain ⟨v, hv, rv⟩ := hE.at_ _ _ hd'
      refine ⟨v, hv, ?_⟩
      refine tE_mono (stepE hP hE q) ?_
      rintro w H1 ⟨G1, m1, S1, dd, i1, f1, P1, E1, r1, q1⟩
      obtain ⟨⟨fl, r2⟩, ho, q2⟩ := q1.opt1
      have rv1 := rv.mono f1 i1
      generalize hrd : rd S1 dd = od at ho
      split at ho
      · rename_i a' b'
        cases ho
        cases (rd_ok P1 r1 hrd).int_inv
        cases rv1 with
        | t rv1 =>
          cases rv1
          refine hti _ _ _ _ ?_
          exact q2 (.nx, _) H1 G1 m1 (pre_rfl m1) (Fz.refl G1) P1 ⟨E1.set (.t (.int _)) n, trivial⟩
      · rename_i a' b'
        cases ho
        cases (rd_ok P1 r1 hrd).int_inv
        cases rv1 with
        | t rv1 =>
          cases rv1
          refine hti _ _ _ _ ?_
          exact q2 (.nx, _) H1 G1 m1 (pre_rfl m1) (Fz.refl G1) P1 ⟨E1.set (.t (.int _)) n, trivial⟩
      · cases ho
    · cases hd
  rcases hop with rfl | rfl
  · exact key _ ip_add fun i j H Q q => ⟨i, j, rfl, rfl, q⟩
  · exact key _ ip_sub fun i j H Q q => ⟨i, j, rfl, rfl, q⟩

/-! ### o[i] = v -/
def rSet : V → V → V → Hp → (Hp → Prop) → Prop := fun o i v H Q => rSetL o i v H Q ∨ ∃ a H', o = .ref a ∧ DPut H a i v H' ∧ Q H'
theorem set_any (hu : X.A.units + 65 < cLine) : PSet X rSet := by
  intro pins s σ H o i v ov iv u Q I ro ri rv h
  rcases h with h | ⟨a, H', rfl, g, q⟩
  · exact set_list pins s σ H o i v ov iv u Q I ro ri rv h
  · obtain rfl : ov = Value.ref a := ro
    exact d_setItem (by omega) I g ri rv fun s' I' => ⟨H', I', q⟩
theorem qs_setI (hu : X.A.units + 65 < cLine) (hv : PE X e1 (tE X.K (EW E) cl pm c)) (ho : PE X e2 (tE X.K (EW E) cl pm o)) (hi : PE X e3 (tE X.K (EW E) cl pm i))
    (ha : ∀ v, assign (.Subscript e2 e3 tpos) X.env v = (do
      let ov ← holding [v] (eval e2 X.env)
      let iv ← holding [v, ov] (eval e3 X.env)
      standAt tpos
      holding [v, ov, iv] (setItem ov iv v)
      release [v, ov, iv] [])) (hs : swapsWithSole [.Subscript e2 e3 tpos] e1 pos.line X.env = pure false) (hw : swappedStores [.Subscript e2 e3 tpos] e1 X.env = pure none) (h1 : (assignEach [.Subscript e2 e3 tpos] X.env).map (·.2) = [assign (.Subscript e2 e3 tpos) X.env]) :
    PS X (.Assign [.Subscript e2 e3 tpos] e1 pos) (tS X.K E wf cl pm (.setI o i c)) := by
  refine PS.imp (ps_asg hv (pg_sub ho hi (set_any hu) ha) hs hw h1) ?_
  rintro D σ H ⟨B, G, m, S, r, hP, hE, q⟩
  refine tE_mono (stepE hP hE q) ?_
  rintro v H1 ⟨G1, m1, S1, dv, i1, f1, P1, E1, r1, q1⟩
  refine tE_mono (stepE P1 E1 q1) ?_
  rintro x H2 ⟨G2, m2, S2, dx, i2, f2, P2, E2, r2, q2⟩
  refine tE_mono (stepE P2 E2 q2) ?_
  rintro y H3 ⟨G3, m3, S3, dy, i3, f3, P3, E3, r3, q3⟩
  have rv := r1.mono (f2.trans f3) (i2.trans i3)
  have rx := r2.mono f3 i3
  split at q3
  · rename_i z a e t hrd
    cases rv with
    | t rv =>
      cases rx with
      | o ha =>
        rename_i ad
        split at q3
        · rename_i xs hS
          obtain ⟨ga, ho, hob, cok⟩ := (P3.cells a _ ad hS ha).live rfl
          cases cok with
          | lst rl =>
            split at q3
            · rename_i k
              split at q3
              · rename_i j hj
                cases (rd_ok P3 r3 hrd).int_inv
                refine .inl ⟨ad, _, k, j, rfl, rfl, hob, by rw [rl.length]; exact hj, ?_⟩
                have P4 := P3.put hS ⟨(fun _ z => by cases z), rfl⟩ ha (.lst (rl.set rv j))
                exact q3 (.nx, σ) _ G3 m3 (pre_rfl m3) (Fz.refl G3) P4 ⟨E3, trivial⟩
              · exact q3.elim
            · exact q3.elim
        · rename_i kvs hS
          obtain ⟨ga, ho, hob, cok⟩ := (P3.cells a _ ad hS ha).live rfl
          cases cok with
          | dK rl =>
            split at q3
            · rename_i k hk
              split at q3
              · rename_i hlen
                have hy : y = kV k := keyT_v (rd_ok P3 r3 hrd) hk
                subst hy
                refine .inr ⟨ad, _, rfl, DPut.k hob (by rw [rl.length, ← line_eq]; exact hlen), ?_⟩
                have P4 := P3.put hS ⟨(fun _ z => by cases z), rfl⟩ ha (.dK (rl.put k rv))
                exact q3 (.nx, σ) _ G3 m3 (pre_rfl m3) (Fz.refl G3) P4 ⟨E3, trivial⟩
              · exact q3.elim
            · exact q3.elim
        · rename_i kvs hS
          obtain ⟨ga, ho, hob, cok⟩ := (P3.cells a _ ad hS ha).live rfl
          cases cok with
          | dT rl =>
            split at q3
            · rename_i es
              split at q3
              · rename_i k hk
                split at q3
                · rename_i hlen
                  obtain ⟨b, ys, rfl, hb, hl⟩ := (rd_ok P3 r3 hrd).tup_inv P3.fz
                  have hy := keysT_r hl hk
                  subst hy
                  refine .inr ⟨ad, _, rfl, DPut.t hob hb (by rw [rl.length, ← line_eq]; exact hlen), ?_⟩
                  have P4 := P3.put hS ⟨(fun _ z => by cases z), rfl⟩ ha (.dT (rl.put k rv))
                  exact q3 (.nx, σ) _ G3 m3 (pre_rfl m3) (Fz.refl G3) P4 ⟨E3, trivial⟩
                · exact q3.elim
              · exact q3.elim
            · exact q3.elim
        · exact q3.elim
  · exact q3.elim

/-! ### loops -/
theorem qs_whl (hp : PassesOwn (model X.prog X.w) X.A X.env X.xe) (hc : PT X e1 (tT X.K (EW E) cl pm c)) (hb : PSs X sts (tS X.K E wf cl pm s)) : PS X (.While e1 sts [] pos) (tS X.K E wf cl pm (.whl c s)) := by
  refine PS.imp (ps_while hp hc hb) ?_
  rintro D σ H ⟨B, G, m, S, r, hP, hE, q⟩
  have q : Post X.K B (EW E) σ G m (RS X.K) (QS D) (whlGo (fun r S => (ev cl pm c r S).bind fun x S => R.opt x.bool S) (fun r S => exec wf cl pm s r S) wf r S) := q
  refine ⟨fun n σ H => ∃ G m S r, Pre X.K B G m S H ∧ RelE X.K G m r σ ∧ Post X.K B (EW E) σ G m (RS X.K) (QS D) (whlGo (fun r S => (ev cl pm c r S).bind fun x S => R.opt x.bool S) (fun r S => exec wf cl pm s r S) n r S), ⟨wf, G, m, S, r, hP, hE, q⟩, ?_⟩
  rintro n σ H ⟨G, m, S, r, hP, hE, q⟩
  cases n with
  | zero => exact q.elim
  | succ n =>
    unfold whlGo at q
    rw [R.bind_assoc] at q
    refine tT_mono (stepT hP hE q) ?_
    rintro k H1 ⟨G1, m1, S1, i1, f1, P1, E1, q1⟩
    cases k with
    | false => exact iteF (q1 (.nx, σ) H1 G1 m1 (pre_rfl m1) (Fz.refl G1) P1 ⟨E1, trivial⟩)
    | true =>
      refine iteT ⟨fun σ H => ∃ G m S r, Pre X.K B G m S H ∧ RelE X.K G m r σ ∧ Post X.K B (EW E) σ G m (RS X.K) (QS D) (whlGo (fun r S => (ev cl pm c r S).bind fun x S => R.opt x.bool S) (fun r S => exec wf cl pm s r S) n r S), fun σ' H' h => ⟨n, Nat.lt_succ_self n, h⟩, ?_⟩
      refine ⟨B, G1, m1, S1, r, P1, E1, (Post.bind (Rr := RS X.K) q1).mono ?_⟩
      rintro ⟨fv, σ2⟩ H2 ⟨G2, m2, S2, ⟨fl, r2⟩, i2, f2, P2, ⟨E2, hf⟩, q2⟩
      have E2 : RelE X.K G2 m2 r2 σ2 := E2
      cases fl with
      | nx =>
        cases fv with
        | nx => exact ⟨G2, m2, S2, r2, P2, E2, q2.ws⟩
        | brk => exact hf.elim
        | cnt => exact hf.elim
        | ret v => exact hf.elim
      | brk =>
        cases fv with
        | brk => exact q2 (.nx, σ2) H2 G2 m2 (pre_rfl m2) (Fz.refl G2) P2 ⟨E2, trivial⟩
        | nx => exact hf.elim
        | cnt => exact hf.elim
        | ret v => exact hf.elim
      | cnt =>
        cases fv with
        | cnt => exact ⟨G2, m2, S2, r2, P2, E2, q2.ws⟩
        | nx => exact hf.elim
        | brk => exact hf.elim
        | ret v => exact hf.elim
      | ret d =>
        cases fv with
        | ret v => exact q2 (.ret v, σ2) H2 G2 m2 (pre_rfl m2) (Fz.refl G2) P2 ⟨E2, hf⟩
        | nx => exact hf.elim
        | brk => exact hf.elim
        | cnt => exact hf.elim
def forEl (wf : Nat) (cl : Nat → List D → Sto → R D) (pm : Nat → List D → List D → Option (List D)) (g : Tg) (s : P) (d : T) (r : Env) (S : Sto) : R (Fl × Env) := match asgT g d r with
  | none => .bad
  | some r' => exec wf cl pm s r' S
theorem qs_for {tg iter : Expr} {g : Tg} {k : IK} (hp : PassesOwn (model X.prog X.w) X.A X.env X.xe) (hc : X.calm = true) (hi : PI X tg iter (tI X.K (EW E) cl pm k l)) (hg : PG X tg (tgP X.K g).1) (hb : PSs X sts (tS X.K E wf cl pm s)) (hs : ∀ x, foldedSetIterable iter X.env x = pure x) :
    PS X (.For tg iter sts [] pos) (tS X.K E wf cl pm (.for_ g k l s)) := by
  refine PS.imp (ps_for hp hc hi hg hb hs) ?_
  rintro D σ H ⟨B, G, m, S, r, hP, hE, q⟩
  refine tA_mono (stepA hP hE q) ?_
  rintro vs H1 ⟨G1, m1, S1, ds, i1, f1, P1, E1, r1, q1⟩
  obtain ⟨⟨lk, is⟩, hsrc, q2⟩ := q1.optB
  obtain ⟨hlk, hlen, ts, hts, hit⟩ := srcT_inv hsrc
  refine ⟨G1, ts, is, P1.fz, r1.vw P1 hts, dk_rp r1 hlk hts hit, (itC_inv hit).1, fun G1' H1' J hL hJ => ?_⟩
  replace P1 := hL.pre P1
  replace E1 := E1.mono hL.fz (pre_rfl m1)
  replace r1 := r1.mono hL.fz (pre_rfl m1)
  replace q2 := q2.later (pre_rfl m1) hL.fz
  clear hL f1 q
  obtain ⟨B2, P2, hB2, hvw, hun⟩ := lock_pre P1 r1 hlk hts
  generalize G1' = G1 at *
  generalize H1' = H1 at *
  refine ⟨fun i μ σ H' => μ = is.length - i ∧ i ≤ is.length ∧ ∃ G' m' S' r', m1 <+: m' ∧ Fz G1 G' ∧ Pre X.K B2 G' m' S' H' ∧ RelE X.K G' m' r' σ ∧
    Post X.K B (EW E) σ G' m' (RS X.K) (QS D) ((forGo (forEl wf cl pm g s) (is.drop i) r' S').bind fun fr S'' => .ok fr (unlockS lk S1 S'')), ⟨is.length, by simp, Nat.zero_le _, G1, m1, lockS lk S1, r, pre_rfl m1, Fz.refl _, P2, E1, by rw [List.drop_zero]; exact q2⟩, ?_⟩
  rintro i μ σ H' ⟨rfl, hi, G', m', S', r', im, f', P', E', q'⟩
  have vw' : VwL X.K G' H' vs ts := hvw G' H' f' fun a o ha => (P'.hid a o ha).1
  by_cases hlt : i < is.length
  · refine .inr ⟨hJ.go i G' H' f' P'.fz vw' hlt, fun σ4 H4 => ∃ G4 m4 S4 r4, m1 <+: m4 ∧ Fz G1 G4 ∧ Pre X.K B2 G4 m4 S4 H4 ∧ RelE X.K G4 m4 r4 σ4 ∧
      Post X.K B (EW E) σ4 G4 m4 (RS X.K) (QS D) ((forGo (forEl wf cl pm g s) (is.drop (i + 1)) r4 S4).bind fun fr S'' => .ok fr (unlockS lk S1 S'')), fun σ4 H4 h4 => ⟨is.length - (i + 1), by omega, rfl, hlt, h4⟩, fun x H2 hy => ?_⟩
    obtain ⟨G2, d, hd, al, rx⟩ := hJ.yld i G' H' x H2 f' P'.fz vw' hlt hy
    have hdrop : is.drop i = d :: is.drop (i + 1) := by
      rw [List.drop_eq_getElem_cons hlt]
      congr 1
      rw [List.getElem?_eq_getElem hlt] at hd
      exact Option.some.inj hd
    rw [hdrop] at q'
    unfold forGo at q'
    rw [R.bind_assoc] at q'
    have P3 := al.pre P'
    have q3 := q'.later (pre_rfl m') al.fz
    cases hr : asgT g d r' with
    | none => unfold forEl at q3; rw [hr] at q3; exact q3.elim
    | some r2 =>
      unfold forEl at q3
      rw [hr] at q3
      simp only at q3
      refine (tg_ok P3.fz g).1 d x _ r2 _ rx (E'.mono al.fz (pre_rfl m')) hr _ fun σ2 e2 w2 => ?_
      refine ⟨B2, G2, m', S', r2, P3, e2, ?_⟩
      have go : ∀ (r : R (Fl × Env)) (f : Fl × Env → Sto → R (Fl × Env)), Post X.K B (EW E) σ G2 m' (RS X.K) (QS D) (r.bind f) →
          Post X.K B2 (EW E) σ2 G2 m' (RS X.K) (fun y H4 => ∃ G4 m4 S4 x, m' <+: m4 ∧ Fz G2 G4 ∧ Pre X.K B2 G4 m4 S4 H4 ∧ RS X.K G4 H4 m4 x y ∧ Post X.K B (EW E) σ G4 m4 (RS X.K) (QS D) (f x S4)) r := by
        intro r f h
        cases r with
        | bad => exact h
        | exc x S => exact fun c dd H5 G5 m5 _ _ _ z => False.elim z
        | ok x S =>
          intro y H4 G4 m4 h1 h2 h3 h4
          have h' : Post X.K B (EW E) σ G2 m' (RS X.K) (QS D) (f x S) := h
          exact ⟨G4, m4, S, x, h1, h2, h3, h4, h'.later h1 h2⟩
      refine (go _ _ q3).mono ?_
      rintro ⟨fv, σ4⟩ H4 ⟨G4, m4, S4, ⟨fl, r4⟩, i4, f4, P4, ⟨E4, hf⟩, q4⟩
      have E4 : RelE X.K G4 m4 r4 σ4 := E4
      have im4 := im.trans i4
      have ff4 : Fz G1 G4 := (f'.trans al.fz).trans f4
      cases fl with
      | nx =>
        cases fv with
        | nx => exact ⟨G4, m4, S4, r4, im4, ff4, P4, E4, q4.ws⟩
        | brk => exact hf.elim
        | cnt => exact hf.elim
        | ret v => exact hf.elim
      | brk =>
        cases fv with
        | brk => exact q4 (.nx, σ4) H4 G4 m4 (pre_rfl m4) (Fz.refl G4) (hun _ _ _ _ im4 ff4 P4) ⟨E4, trivial⟩
        | nx => exact hf.elim
        | cnt => exact hf.elim
        | ret v => exact hf.elim
      | cnt =>
        cases fv with
        | cnt => exact ⟨G4, m4, S4, r4, im4, ff4, P4, E4, q4.ws⟩
        | nx => exact hf.elim
        | brk => exact hf.elim
        | ret v => exact hf.elim
      | ret d =>
        cases fv with
        | ret v => exact q4 (.ret v, σ4) H4 G4 m4 (pre_rfl m4) (Fz.refl G4) (hun _ _ _ _ im4 ff4 P4) ⟨E4, hf⟩
        | nx => exact hf.elim
        | brk => exact hf.elim
        | cnt => exact hf.elim
  · have ei : i = is.length := by omega
    subst ei
    rw [List.drop_length] at q'
    exact .inl ⟨hJ.stop G' H' f' P'.fz vw', q' (.nx, σ) H' G' m' (pre_rfl m') (Fz.refl G') (hun _ _ _ _ im f' P') ⟨E', trivial⟩⟩
end
end Qq

set_option maxHeartbeats 400000
/-! Q10: from the text to what is said in short: expressions. -/
namespace Qq
open PySem PySem.Spec PyProof.Rows L2

def gd {α : Type} (b : Bool) (o : Option α) : Option α := match b with
  | true => o
  | false => none
theorem gd_some {α : Type} {b : Bool} {o : Option α} {c : α} (h : gd b o = some c) : b = true ∧ o = some c := by
  cases b with
  | true => exact ⟨rfl, h⟩
  | false => cases h

/-- what a def is read with -/
structure Gm where
  N : List Str
  fns : List (Str × (Nat × Nat))
  kws : List ((Str × Nat × List Str) × (Nat × List Nat))
  own : List Str
  tks : List Str
  kp : Bool
  cs : List (Str × T)
  /-- names whose things change no more; .. ahead of a def's end -/
  fz : List Str
  fzr : List Str
def Gm.ret (Γ : Gm) : Gm := { Γ with fz := Γ.fzr }

def posOf : List Str → Str → Option Nat
  | [], _ => none
  | y :: r, x => if y = x then some 0 else (posOf r x).map (· + 1)
theorem posOf_get : ∀ {N : List Str} {x : Str} {i : Nat}, posOf N x = some i → N[i]? = some x
  | y :: r, x, i, h => by
    unfold posOf at h
    split at h
    · rename_i e; subst e; cases h; rfl
    · obtain ⟨j, hj, rfl⟩ := Option.map_eq_some_iff.mp h
      rw [List.getElem?_cons_succ]; exact posOf_get hj
  | [], _, _, h => by cases h
def kwOf : List ((Str × Nat × List Str) × (Nat × List Nat)) → (Str × Nat × List Str) → Option (Nat × (Nat × List Nat))
  | [], _ => none
  | (k, v) :: r, x => if k = x then some (0, v) else (kwOf r x).map fun q => (q.1 + 1, q.2)
theorem kwOf_get : ∀ {N : List ((Str × Nat × List Str) × (Nat × List Nat))} {x : Str × Nat × List Str} {q : Nat × (Nat × List Nat)}, kwOf N x = some q → N[q.1]? = some (x, q.2)
  | (k, v) :: r, x, q, h => by
    unfold kwOf at h
    split at h
    · rename_i e; subst e; cases h; rfl
    · obtain ⟨j, hj, rfl⟩ := Option.map_eq_some_iff.mp h
      rw [List.getElem?_cons_succ]; exact kwOf_get hj
  | [], _, _, h => by cases h
def pmT (kws : List ((Str × Nat × List Str) × (Nat × List Nat))) (g : Nat) (ds es : List D) : Option (List D) := match kws[g]? with
  | some ((_, p, ks), (_, ix)) => pmOf p ks.length ix ds es
  | none => none
theorem pmT_at {kws : List ((Str × Nat × List Str) × (Nat × List Nat))} {g : Nat} {x : Str} {p : Nat} {ks : List Str} {f : Nat} {ix : List Nat} (h : kws[g]? = some ((x, p, ks), (f, ix))) : pmT kws g = pmOf p ks.length ix := by
  funext ds es
  unfold pmT
  rw [h]

/-! ### look at the text -/
def isStar : Expr → Bool
  | .Starred _ _ => true
  | _ => false
def isComp : Expr → Bool
  | .ListComp _ _ _ _ => true
  | .SetComp _ _ _ _ => true
  | .DictComp _ _ _ _ _ => true
  | _ => false
def isSetE : Expr → Bool
  | .Set _ _ _ => true
  | _ => false
def isSlc : Expr → Bool
  | .Slice _ _ _ _ => true
  | _ => false
theorem star_cons {env : PySem.Env} {e : Expr} (es : List Expr) (h : isStar e = false) : starEach (e :: es) env = (false, eval e env) :: starEach es env := by
  cases e <;> first | rfl | cases h
theorem assignEach_one {env : PySem.Env} {e : Expr} (h : isStar e = false) : (assignEach [e] env).map (·.2) = [assign e env] := by
  cases e <;> first | rfl | cases h
theorem assignEach_cons {env : PySem.Env} {e : Expr} (es : List Expr) (h : isStar e = false) : assignEach (e :: es) env = (false, assign e env) :: assignEach es env := by
  cases e <;> first | rfl | cases h
theorem star_any {env : PySem.Env} {pos : Pos} : ∀ {es : List Expr}, es.all (fun e => !isStar e) = true → (backTo pos (starEach es env)).any (·.1) = false
  | [], _ => rfl
  | e :: es, h => by
    rw [List.all_cons, Bool.and_eq_true] at h
    rw [star_cons es (by simpa using h.1)]
    show (false || (backTo pos (starEach es env)).any (·.1)) = false
    rw [star_any h.2]; rfl
theorem star_all {env : PySem.Env} {pos : Pos} : ∀ {es : List Expr}, es.all (fun e => !isStar e) = true → (backTo pos (starEach es env)).all (fun x => !x.1) = true
  | [], _ => rfl
  | e :: es, h => by
    rw [List.all_cons, Bool.and_eq_true] at h
    rw [star_cons es (by simpa using h.1)]
    show (true && (backTo pos (starEach es env)).all (fun x => !x.1)) = true
    rw [star_all h.2]; rfl
theorem plain_ix {e : Expr} (h : isSlc e = false) : PlainIx e := fun o i => by
  cases e <;> first | rfl | cases h
theorem folded_pure {env : PySem.Env} {e : Expr} (h : isSetE e = false) : ∀ x, foldedSetIterable e env x = pure x := fun x => by
  cases e <;> first | rfl | cases h
theorem swaps_no {env : PySem.Env} {e : Expr} {t : Option Expr} {l : Nat} (h : isComp e = false) : swapsWith e t l env = pure false := by
  cases e <;> first | rfl | cases h
theorem kwEach_some {env : PySem.Env} {pos : Pos} : ∀ {kws : List Keyword}, kws.all (fun k => k.arg.isSome) = true → (backToKw pos (keywordEach kws env)).all (·.1.isSome) = true ∧ (backToKw pos (keywordEach kws env)).any (·.1.isNone) = false
  | [], _ => ⟨rfl, rfl⟩
  | ⟨a, v, p⟩ :: r, h => by
    rw [List.all_cons, Bool.and_eq_true] at h
    obtain ⟨i1, i2⟩ := kwEach_some (env := env) (pos := pos) h.2
    cases a with
    | none => simp at h
    | some a =>
      exact ⟨(by show (true && (backToKw pos (keywordEach r env)).all (·.1.isSome)) = true; rw [i1]; rfl), (by show (false || (backToKw pos (keywordEach r env)).any (·.1.isNone)) = false; rw [i2]; rfl)⟩
theorem kwEach_nm {env : PySem.Env} {pos : Pos} : ∀ (kws : List Keyword), (backToKw pos (keywordEach kws env)).filterMap (·.1) = kws.filterMap (·.arg)
  | [] => rfl
  | ⟨a, v, p⟩ :: r => by
    have := kwEach_nm (env := env) (pos := pos) r
    cases a with
    | none => exact this
    | some a => show a :: (backToKw pos (keywordEach r env)).filterMap (·.1) = a :: r.filterMap (·.arg); rw [this]

/-! ### the names in use -/
def bltOnes : List Str := ["len", "abs", "int", "str", "min", "max", "all", "any", "sum", "list", "tuple", "sorted", "range", "enumerate", "zip", "isinstance", "bool", "dict", "set"]
structure CtxOk (Γ : Gm) (cl : Nat → List D → Sto → R D) (W : WX) (n : Nat) (sc : Scope) (X : Cx) : Prop where
  sc : X.env.scope = sc
  N : X.N = Γ.N
  nd : Γ.N.Nodup
  calm : X.calm = true
  room : Room n X.A
  fn : ∀ x f np, Γ.fns.lookup x = some (f, np) → FnAt X cl n f x np
  kw : ∀ (g : Nat) x p ks f ix, Γ.kws[g]? = some ((x, p, ks), (f, ix)) → KwAt X cl n f x p ks.length ks ix ∧ ∀ ds S, ds.length ≠ ix.length → cl f ds S = .bad
  bl : ∀ x, bltOnes.contains x = true → X.mg x = none
  tk : Takes X W
  cs : ∀ x t, Γ.cs.lookup x = some t → ∃ v u, X.mg x = some u ∧ RelV v u ∧ ∀ G, Rp X.K G v t
theorem CtxOk.blk {Γ : Gm} {cl : Nat → List D → Sto → R D} {W : WX} {n : Nat} {sc : Scope} {X : Cx} (h : CtxOk Γ cl W n sc X) (s : Shared) (H : Hp) (scope : Scope) (cl' : List (Str × Addr)) (C : Addr) (fp : List Addr) :
    CtxOk Γ cl W0 n (relS scope sc) (X.blk s H scope (compEnvC scope cl' C X.env) fp) where
  sc := by rw [← h.sc]; rfl
  N := h.N
  nd := h.nd
  calm := h.calm
  room := h.room
  fn := fun x f np e => ⟨(h.fn x f np e).ex, (h.fn x f np e).ln⟩
  kw := fun g x p ks f ix e => ⟨⟨(h.kw g x p ks f ix e).1.ex, (h.kw g x p ks f ix e).1.pos⟩, (h.kw g x p ks f ix e).2⟩
  bl := h.bl
  tk := takes0
  cs := h.cs

theorem CtxOk.ret {Γ : Gm} {cl : Nat → List D → Sto → R D} {W : WX} {n : Nat} {sc : Scope} {X : Cx} (h : CtxOk Γ cl W n sc X) : CtxOk Γ.ret cl W n sc X :=
  ⟨h.sc, h.N, h.nd, h.calm, h.room, h.fn, h.kw, h.bl, h.tk, h.cs⟩
section
variable {Γ : Gm} {cl : Nat → List D → Sto → R D} {W : WX} {n : Nat} {sc : Scope} {X : Cx}
def glB (sc : Scope) (x : Str) : Bool := decide (sc.names.lookup x = some .globalImplicit)
theorem CtxOk.gl (h : CtxOk Γ cl W n sc X) {x : Str} (e : glB sc x = true) : Gl X x := by
  have e := of_decide_eq_true e
  show X.env.scope.names.lookup x = _
  rw [h.sc]; exact e
def visB (sc : Scope) (x : Str) : Bool := match sc.names.lookup x with
  | some .local => true
  | some .cell => true
  | some .free => true
  | _ => false
theorem CtxOk.vis (h : CtxOk Γ cl W n sc X) {x : Str} (e : visB sc x = true) : Vis X.env.scope x := by
  rw [h.sc]
  unfold visB at e
  unfold Vis
  split at e <;> first | (rename_i q; rw [q]; simp; done) | cases e
def dbg (x : Str) : Bool := decide ((x == ("__debug__" : Str)) = false ∧ (x == ("__classdict__" : Str)) = false)
end

def trName (Γ : Gm) (sc : Scope) (x : Str) : Option C := gd (dbg x) (match visB sc x with
  | true => (posOf Γ.N x).map fun i => match decide (x ∈ Γ.fz) with
    | true => .frz (.var i)
    | false => .var i
  | false => gd (glB sc x) ((Γ.cs.lookup x).map .cst))
def trCst : Const → Option T
  | .none => some .non
  | .bool b => some (.bl b)
  | .int i => some (.int i)
  | .str s => some (.str s)
  | _ => none
def allBI : List (BI × Nat) := [(.len, 1), (.abs, 1), (.int, 1), (.str, 1), (.min2, 2), (.max2, 2), (.all, 1), (.any, 1), (.sum, 1), (.list, 1), (.tuple, 1), (.sorted, 1), (.minL, 1), (.maxL, 1), (.dict, 1)]
def biOf (x : Str) (k : Nat) : Option BI := (allBI.find? fun q => decide (q.1.nm = x ∧ q.2 = k)).map (·.1)
theorem biOf_nm {x : Str} {k : Nat} {b : BI} (h : biOf x k = some b) : b.nm = x := by
  unfold biOf at h
  obtain ⟨q, hq, rfl⟩ := Option.map_eq_some_iff.mp h
  have := List.find?_some hq
  exact (of_decide_eq_true this).1
theorem BI.in_ones (b : BI) : bltOnes.contains b.nm = true := by cases b <;> decide +kernel
def tyNm (sc : Scope) : Expr → Option (Str × Pos × String)
  | .Name c p => gd (glB sc c && dbg c && decide (c ≠ "__name__") && bltOnes.contains c) (match bootBuiltins c with
    | some (.type ty) => some (c, p, ty)
    | _ => none)
  | _ => none
def tyNms (sc : Scope) : List Expr → Option (List (Str × Pos × String))
  | [] => some []
  | e :: r => match tyNm sc e, tyNms sc r with
    | some a, some b => some (a :: b)
    | _, _ => none
def ownB (N : List Str) (scope : Scope) : List (Str × Nat) := scope.names.filterMap fun q => match q.2 with
  | .local => (posOf N q.1).map fun i => (q.1, i)
  | .cell => (posOf N q.1).map fun i => (q.1, i)
  | _ => none
theorem ownB_ix {N : List Str} {scope : Scope} : ∀ p ∈ ownB N scope, N[p.2]? = some p.1 := fun p hp => by
  unfold ownB at hp
  obtain ⟨q, _, e⟩ := List.mem_filterMap.mp hp
  split at e
  · obtain ⟨i, hi, rfl⟩ := Option.map_eq_some_iff.mp e; exact posOf_get hi
  · obtain ⟨i, hi, rfl⟩ := Option.map_eq_some_iff.mp e; exact posOf_get hi
  · cases e
def blkB (N : List Str) (sc scope : Scope) : Bool := decide (scope.kind = .function) && scope.names.all (fun y => decide (scope.names.lookup y.1 = some y.2)) &&
  scope.names.all (fun y => decide (y.2 = .free → sc.names.lookup y.1 = some .cell ∨ sc.names.lookup y.1 = some .free)) &&
  scope.names.all (fun y => decide (y.2 = .local ∨ y.2 = .cell → y.1 ∈ (ownB N scope).map (·.1) ∨ y.1 ∉ N))
theorem blkB_ok {N : List Str} {sc scope : Scope} (h : blkB N sc scope = true) : BlkOk N sc scope (ownB N scope) := by
  unfold blkB at h
  rw [Bool.and_eq_true, Bool.and_eq_true, Bool.and_eq_true] at h
  obtain ⟨⟨⟨h1, h2⟩, h3⟩, h4⟩ := h
  exact ⟨of_decide_eq_true h1, fun y hy => of_decide_eq_true (List.all_eq_true.mp h2 y hy), ownB_ix, fun y hy => of_decide_eq_true (List.all_eq_true.mp h3 y hy), fun y hy => of_decide_eq_true (List.all_eq_true.mp h4 y hy)⟩
/-- targets; fb: what may be stored into a cell -/
def trG (Γ : Gm) (sc : Scope) (fb : Str → Bool) : Nat → Expr → Option Tg
  | 0, _ => none
  | n + 1, .Name x _ => gd (match sc.names.lookup x with
    | some .local => true
    | some .cell => fb x
    | _ => false) ((posOf Γ.N x).map .n)
  | n + 1, .Tuple es _ _ => es.foldr (fun e r => match trG Γ sc fb n e, r with
    | some a, some r => gd (!isStar e) (some (.cons a r))
    | _, _ => none) (some .nil)
  | _, _ => none

def isTgt : Expr → Bool
  | .Tuple _ _ _ => true
  | _ => false
/-- a receiver whose attribute is read plainly -/
def nmE : Expr → Bool
  | .Name _ _ => true
  | .Subscript _ _ _ => true
  | _ => false
structure Trs where
  E : Scope → Bool → Bool → Expr → Option C
  T : Scope → Expr → Option C
section
variable (Γ : Gm) (r : Trs)
def trEs (sc : Scope) : List Expr → Option C
  | [] => some .nil
  | e :: es => match e with
    | .Starred a _ => (r.E sc false false a).bind fun a => (trEs sc es).map fun b => .spl a b
    | e => gd (!isStar e) ((r.E sc false false e).bind fun a => (trEs sc es).map fun b => .cons a b)
/-- a call's new thing, told as a tree -/
def zE (e : Expr) (c : C) : C := match e with
  | .Call _ _ _ _ => .frz c
  | _ => c
def trEsZ (sc : Scope) : List Expr → Option C
  | [] => some .nil
  | e :: es => match e with
    | .Starred a _ => (r.E sc false false a).bind fun a => (trEsZ sc es).map fun b => .spl a b
    | e => gd (!isStar e) ((r.E sc false false e).bind fun a => (trEsZ sc es).map fun b => .cons (zE e a) b)
def trKw (sc : Scope) : List Keyword → Option C
  | [] => some .nil
  | k :: es => gd k.arg.isSome ((r.E sc false false k.value).bind fun a => (trKw sc es).map fun b => .cons a b)
def trAnd (sc : Scope) (fr tk : Bool) : List Expr → Option C
  | [] => none
  | [e] => r.E sc fr tk e
  | e :: es => (r.E sc fr tk e).bind fun a => (trAnd sc fr tk es).map fun b => .andV a b
def trOr (sc : Scope) (fr tk : Bool) : List Expr → Option C
  | [] => none
  | [e] => r.E sc fr tk e
  | e :: es => (r.E sc fr tk e).bind fun a => (trOr sc fr tk es).map fun b => .orV a b
def twAnd (sc : Scope) : List Expr → Option C
  | [] => none
  | [e] => r.T sc e
  | e :: es => (r.T sc e).bind fun a => (twAnd sc es).map fun b => .andV a b
def twOr (sc : Scope) : List Expr → Option C
  | [] => none
  | [e] => r.T sc e
  | e :: es => (r.T sc e).bind fun a => (twOr sc es).map fun b => .orV a b
/-- what is gone through -/
def trI (sc : Scope) (tg it : Expr) : Option (IK × C) := match it with
  | .Call (.Name x p) args [] pos =>
    if x = "range" then gd (glB sc x && args.all fun e => !isStar e) (match args with
      | [a] => (trEs r sc args).map fun l => (.r1, l)
      | [a, b] => (trEs r sc args).map fun l => (.r2, l)
      | _ => none)
    else if x = "enumerate" then gd (glB sc x && args.all fun e => !isStar e) (match args, tg with
      | [a], .Tuple _ _ _ => (trEs r sc args).map fun l => (.enum, l)
      | _, _ => none)
    else if x = "zip" then gd (glB sc x && args.all fun e => !isStar e) (match args, tg with
      | [a, b], .Tuple _ _ _ => (trEs r sc args).map fun l => (.zip, l)
      | _, _ => none)
    else (r.E sc false false it).map fun a => (.seq, .cons a .nil)
  | .Call (.Attribute e m apos) [] [] cpos => if m = "items" then gd ((apos.endLine == cpos.line) && isTgt tg && nmE e) ((r.E sc false false e).map fun a => (.items, .cons a .nil))
    else (r.E sc false false it).map fun a => (.seq, .cons a .nil)
  | _ => (r.E sc false false it).map fun a => (.seq, .cons a .nil)
def trDc (sc : Scope) (fr : Bool) (ex elt tg iter : Expr) (ifs : List Expr) (scope : Scope) : Option C :=
  gd (blkB Γ.N sc scope && !isSetE iter) ((trI r sc tg iter).bind fun kl => (trG Γ (relS scope sc) (fun x => scope.names.lookup x == some .cell) 4 tg).bind fun g =>
    gd (g.slots.all fun i => decide (i ∈ List.map (fun (q : Str × Nat) => q.2) (ownB Γ.N scope))) ((match ifs with
      | [] => some (C.cst (.bl true))
      | [c] => r.T (relS scope sc) c
      | _ => (none : Option C)).bind fun (t : C) => (r.E (relS scope sc) false false ex).bind fun ek => (r.E (relS scope sc) false false elt).map fun e => C.dcm fr (List.map (fun (q : Str × Nat) => q.2) (ownB Γ.N scope)) g kl.1 kl.2 t ek e))
def trLc (sc : Scope) (fr : Bool) (elt tg iter : Expr) (ifs : List Expr) (scope : Scope) : Option C :=
  gd (blkB Γ.N sc scope && !isSetE iter) ((trI r sc tg iter).bind fun kl => (trG Γ (relS scope sc) (fun x => scope.names.lookup x == some .cell) 4 tg).bind fun g =>
    gd (g.slots.all fun i => decide (i ∈ List.map (fun (q : Str × Nat) => q.2) (ownB Γ.N scope))) ((match ifs with
      | [] => some (C.cst (.bl true))
      | [c] => r.T (relS scope sc) c
      | _ => (none : Option C)).bind fun (t : C) => (r.E (relS scope sc) false false elt).map fun e => C.comp fr (List.map (fun (q : Str × Nat) => q.2) (ownB Γ.N scope)) g kl.1 kl.2 t (zE elt e)))
def trIsi (sc : Scope) (args : List Expr) : Option C := match args with
  | [a, .Name c p] => (tyNm sc (.Name c p)).bind fun q => (r.E sc false false a).map fun a => C.isi a [q.2.2] true
  | [a, .Tuple cs k p] => (tyNms sc cs).bind fun qs => gd (decide (qs.length ≤ 1000)) ((r.E sc false false a).map fun a => C.isi a (qs.map fun q => q.2.2) false)
  | _ => none
def trBlt (sc : Scope) (fr : Bool) (x : Str) (args : List Expr) : Option C := match args with
  | [] => none
  | a :: as => (biOf x (a :: as).length).bind fun b => (trEs r sc (a :: as)).map fun l => C.bi (fr && decide (b = .list ∨ b = .dict)) b l
def trKwC (sc : Scope) (x : Str) (args : List Expr) (kws : List Keyword) : Option C :=
  gd (kws.all fun k => k.arg.isSome) ((kwOf Γ.kws (x, args.length, kws.filterMap (·.arg))).bind fun q => (trEs r sc args).bind fun l => (trKw r sc kws).map fun k => C.callk q.2.1 q.1 l k)
def trCall (sc : Scope) (fr : Bool) (x : Str) (args : List Expr) (kws : List Keyword) : Option C :=
  gd (glB sc x && dbg x && args.all (fun e => !isStar e)) (match kws with
    | [] => (match Γ.fns.lookup x with
      | some q => (trEs r sc args).map fun l => C.call q.1 l
      | none => if x = "isinstance" then trIsi r sc args else trBlt r sc fr x args)
    | k :: ks => trKwC Γ r sc x args (k :: ks))
def trMth (sc : Scope) (o : Expr) (m : Str) (apos : Pos) (args : List Expr) (cpos : Pos) : Option C :=
  gd (args.all (fun e => !isStar e) && decide (args.length < 30) && (apos.endLine == cpos.line) && (match o with
    | .Call _ _ _ _ => false
    | _ => true)) ((r.E sc false false o).bind fun a => (trEsZ r sc args).map fun l => .mth m a l)
def trPart (sc : Scope) : Option Expr → Option (Option Unit × C)
  | none => some (none, .nil)
  | some e => (r.E sc false false e).map fun a => (some (), a)
def trSub (sc : Scope) (a i : Expr) : Option C := match i with
  | .Slice lo hi none _ => (r.E sc false false a).bind fun a => (trPart r sc lo).bind fun l => (trPart r sc hi).map fun h => .sl false a l.1 h.1 l.2 h.2
  | .Slice none none (some (.UnaryOp .USub (.Constant (.int 1) _ _) _)) _ => (r.E sc false false a).map .rev
  | .Slice _ _ (some _) _ => none
  | _ => (r.E sc false false a).bind fun a => (r.E sc false false i).map fun b => .idx a b
def trCmp (sc : Scope) (a : Expr) (ops : List CmpOp) (es : List Expr) : Option C := match ops, es with
  | [op], [b] => gd (!behindInMarks op b) ((r.E sc false false a).bind fun a => (r.E sc false false b).map fun b => .cmp op a b)
  | [op, op2], [b, c] => gd (!behindInMarks op b && !behindInMarks op2 c) ((r.E sc false false a).bind fun a => (r.E sc false false b).bind fun b => (r.E sc false false c).map fun c => .chn op op2 a b c)
  | _, _ => none
def stE (sc : Scope) (fr tk : Bool) (e : Expr) : Option C := match e with
  | .Name x _ => trName Γ sc x
  | .Constant c _ _ => (trCst c).map .cst
  | .BinOp a op b _ => (r.E sc false false a).bind fun a => (r.E sc false false b).map fun b => .bin (fr && decide (op = .Add)) op a b
  | .UnaryOp .USub a _ => (r.E sc false false a).map .neg
  | .UnaryOp .Not a _ => (r.E sc false false a).map .notV
  | .BoolOp .And vs _ => trAnd r sc fr tk vs
  | .BoolOp .Or vs _ => trOr r sc fr tk vs
  | .Compare a ops es _ => trCmp r sc a ops es
  | .IfExp t a b _ => (r.T sc t).bind fun t => (r.E sc fr tk a).bind fun a => (r.E sc fr tk b).map fun b => .ife t a b
  | .Tuple es _ _ => (trEsZ r sc es).map .tup
  | .List es _ => (trEsZ r sc es).map (.lst fr)
  | .Dict [] [] _ => some (.dct fr tk)
  | .Dict [none, some k] [e, v] _ => (r.E sc false false e).bind fun a => (r.E sc false false k).bind fun k => (r.E sc false false v).map fun v => .dsp fr a k v
  | .DictComp ex elt [⟨tg, iter, ifs, 0⟩] scope _ => trDc Γ r sc fr ex elt tg iter ifs scope
  | .ListComp elt [⟨tg, iter, ifs, 0⟩] scope _ => trLc Γ r sc fr elt tg iter ifs scope
  | .Call (.Name x _) args kws _ => trCall Γ r sc fr x args kws
  | .Call (.Attribute o m apos) args [] cpos => trMth r sc o m apos args cpos
  | .Subscript a i _ => trSub r sc a i
  | _ => none
def stT (sc : Scope) (e : Expr) : Option C := match e with
  | .Compare a ops es _ => trCmp r sc a ops es
  | .BoolOp .And vs _ => twAnd r sc vs
  | .BoolOp .Or vs _ => twOr r sc vs
  | .UnaryOp .Not a _ => (r.T sc a).map .notV
  | .Name _ _ => (r.E sc false false e).map .tru
  | .Call _ _ _ _ => (r.E sc false false e).map .tru
  | .Subscript _ _ _ => (r.E sc false false e).map .tru
  | .BinOp _ _ _ _ => (r.E sc false false e).map .tru
  | _ => none
end
def trs (Γ : Gm) : Nat → Trs
  | 0 => ⟨fun _ _ _ _ => none, fun _ _ => none⟩
  | n + 1 => ⟨stE Γ (trs Γ n), stT (trs Γ n)⟩

/-! ### it is what the text does -/
theorem trG_ok {Γ : Gm} {sc : Scope} {X : Cx} {fb : Str → Bool} (hsc : X.env.scope = sc) (hN : X.N = Γ.N) (hnd : Γ.N.Nodup) (hc : X.calm = true) (hfb : ∀ x, fb x = true → X.fn x = true) : ∀ (n : Nat) (e : Expr) (g : Tg), trG Γ sc fb n e = some g → PG X e (tgP X.K g).1
  | 0, _, _, h => by cases h
  | n + 1, e, g, h => by
    unfold trG at h
    split at h
    · rename_i hn; cases hn
    · rename_i m x p hm
      obtain ⟨h1, h2⟩ := gd_some h
      obtain ⟨i, hi, rfl⟩ := Option.map_eq_some_iff.mp h2
      have hi' := posOf_get hi
      rw [← hN] at hi'
      split at h1
      · rename_i q
        rw [← hsc] at q
        exact pg_name (by rw [hN]; exact hnd) hi' (.inl q) (.inr q)
      · rename_i q
        rw [← hsc] at q
        exact pg_name (by rw [hN]; exact hnd) hi' (.inr q) (.inl (hfb _ h1))
      · cases h1
    · rename_i m es k p hm
      cases hm
      have key : ∀ (es : List Expr) (g : Tg), es.foldr (fun e r => match trG Γ sc fb n e, r with
          | some a, some r => gd (!isStar e) (some (Tg.cons a r))
          | _, _ => none) (some .nil) = some g → PGs X es (tgP X.K g).2 ∧ (assignEach es X.env).length = g.len ∧ (assignEach es X.env).findIdx? (·.1) = none ∧ (tgP X.K g).1 = gTL X.K g.len (tgP X.K g).2 := by
        intro es
        induction es with
        | nil => intro g h; cases h; exact ⟨pgs_nil, rfl, rfl, rfl⟩
        | cons e es ih =>
          intro g h
          rw [List.foldr_cons] at h
          split at h
          · rename_i a r' ha hr
            obtain ⟨h1, h2⟩ := gd_some h
            cases h2
            have hs : isStar e = false := by simpa using h1
            obtain ⟨i1, i2, i3, i4⟩ := ih r' hr
            have hae := assignEach_cons (env := X.env) es hs
            refine ⟨pgs_cons (trG_ok hsc hN hnd hc hfb n e a ha) i1 (by rw [hae]; rfl), ?_, ?_, rfl⟩
            · rw [hae, List.length_cons, i2]; rfl
            · rw [hae, List.findIdx?_cons]
              show (if false = true then some 0 else _) = none
              rw [if_neg Bool.false_ne_true, i3]; rfl
          · cases h
      obtain ⟨i1, i2, i3, i4⟩ := key _ _ h
      rw [i4]
      exact PG.or (pg_tup hc i1 i2 i3) (pg_lst hc i1 i2 i3)
    · cases h

structure TrsOk (Γ : Gm) (r : Trs) : Prop where
  E : ∀ (cl : Nat → List D → Sto → R D) (W : WX) (n : Nat) (sc : Scope) (X : Cx), CtxOk Γ cl W n sc X → ∀ fr tk e c, r.E sc fr tk e = some c → PE X e (tE X.K W cl (pmT Γ.kws) c)
  T : ∀ (cl : Nat → List D → Sto → R D) (W : WX) (n : Nat) (sc : Scope) (X : Cx), CtxOk Γ cl W n sc X → ∀ e c, r.T sc e = some c → PT X e (tT X.K W cl (pmT Γ.kws) c)
section
variable {Γ : Gm} {r : Trs} {cl : Nat → List D → Sto → R D} {W : WX} {n : Nat} {sc : Scope} {X : Cx}
theorem CtxOk.hu (h : CtxOk Γ cl W n sc X) : X.A.units + 65 < cLine := by have := h.room.un; omega
theorem trEs_ok (o : TrsOk Γ r) (x : CtxOk Γ cl W n sc X) : ∀ (es : List Expr) (c : C), trEs r sc es = some c → PA X es (tA X.K W cl (pmT Γ.kws) c)
  | [], c, h => by cases h; exact qa_nil
  | e :: es, c, h => by
    unfold trEs at h
    split at h
    · rename_i a0 p0
      obtain ⟨a, ha, h⟩ := Option.bind_eq_some_iff.mp h
      obtain ⟨b, hb, rfl⟩ := Option.map_eq_some_iff.mp h
      exact qa_spl (o.E cl W n sc X x _ _ a0 a ha) (trEs_ok o x es b hb)
    · obtain ⟨h1, h⟩ := gd_some h
      obtain ⟨a, ha, h⟩ := Option.bind_eq_some_iff.mp h
      obtain ⟨b, hb, rfl⟩ := Option.map_eq_some_iff.mp h
      exact qa_cons (o.E cl W n sc X x _ _ e a ha) (trEs_ok o x es b hb) (star_cons es (by simpa using h1))
theorem zE_ok {e : Expr} {c : C} {pm : Nat → List D → List D → Option (List D)} (h : PE X e (tE X.K W cl pm c)) : PE X e (tE X.K W cl pm (zE e c)) := by
  unfold zE
  split
  · exact qe_frz h
  · exact h
theorem trEsZ_ok (o : TrsOk Γ r) (x : CtxOk Γ cl W n sc X) : ∀ (es : List Expr) (c : C), trEsZ r sc es = some c → PA X es (tA X.K W cl (pmT Γ.kws) c)
  | [], c, h => by cases h; exact qa_nil
  | e :: es, c, h => by
    unfold trEsZ at h
    split at h
    · rename_i a0 p0
      obtain ⟨a, ha, h⟩ := Option.bind_eq_some_iff.mp h
      obtain ⟨b, hb, rfl⟩ := Option.map_eq_some_iff.mp h
      exact qa_spl (o.E cl W n sc X x _ _ a0 a ha) (trEsZ_ok o x es b hb)
    · obtain ⟨h1, h⟩ := gd_some h
      obtain ⟨a, ha, h⟩ := Option.bind_eq_some_iff.mp h
      obtain ⟨b, hb, rfl⟩ := Option.map_eq_some_iff.mp h
      exact qa_cons (zE_ok (o.E cl W n sc X x _ _ e a ha)) (trEsZ_ok o x es b hb) (star_cons es (by simpa using h1))
theorem trKw_ok (o : TrsOk Γ r) (x : CtxOk Γ cl W n sc X) : ∀ (es : List Keyword) (c : C), trKw r sc es = some c → PKq X W cl (pmT Γ.kws) es c
  | [], c, h => by cases h; exact .nil
  | ⟨nm, v, p⟩ :: es, c, h => by
    unfold trKw at h
    obtain ⟨h1, h⟩ := gd_some h
    obtain ⟨a, ha, h⟩ := Option.bind_eq_some_iff.mp h
    obtain ⟨b, hb, rfl⟩ := Option.map_eq_some_iff.mp h
    exact .cons (o.E cl W n sc X x _ _ v a ha) (trKw_ok o x es b hb)
theorem trAnd_ok (o : TrsOk Γ r) (x : CtxOk Γ cl W n sc X) {fr tk : Bool} {pos : Pos} : ∀ (es : List Expr) (c : C), trAnd r sc fr tk es = some c → PE X (.BoolOp .And es pos) (tE X.K W cl (pmT Γ.kws) c)
  | [], c, h => by cases h
  | [e], c, h => qe_one (o.E cl W n sc X x _ _ e c h)
  | e :: e2 :: es, c, h => by
    unfold trAnd at h
    obtain ⟨a, ha, h⟩ := Option.bind_eq_some_iff.mp h
    obtain ⟨b, hb, rfl⟩ := Option.map_eq_some_iff.mp h
    exact qe_and (o.E cl W n sc X x _ _ e a ha) (trAnd_ok o x (e2 :: es) b hb)
theorem trOr_ok (o : TrsOk Γ r) (x : CtxOk Γ cl W n sc X) {fr tk : Bool} {pos : Pos} : ∀ (es : List Expr) (c : C), trOr r sc fr tk es = some c → PE X (.BoolOp .Or es pos) (tE X.K W cl (pmT Γ.kws) c)
  | [], c, h => by cases h
  | [e], c, h => qe_one (o.E cl W n sc X x _ _ e c h)
  | e :: e2 :: es, c, h => by
    unfold trOr at h
    obtain ⟨a, ha, h⟩ := Option.bind_eq_some_iff.mp h
    obtain ⟨b, hb, rfl⟩ := Option.map_eq_some_iff.mp h
    exact qe_or (o.E cl W n sc X x _ _ e a ha) (trOr_ok o x (e2 :: es) b hb)
theorem twAnd_ok (o : TrsOk Γ r) (x : CtxOk Γ cl W n sc X) {pos : Pos} : ∀ (es : List Expr) (c : C), twAnd r sc es = some c → PW X (.BoolOp .And es pos) (tT X.K W cl (pmT Γ.kws) c)
  | [], c, h => by cases h
  | [e], c, h => qw_and1 (o.T cl W n sc X x e c h)
  | e :: e2 :: es, c, h => by
    unfold twAnd at h
    obtain ⟨a, ha, h⟩ := Option.bind_eq_some_iff.mp h
    obtain ⟨b, hb, rfl⟩ := Option.map_eq_some_iff.mp h
    exact qw_and (o.T cl W n sc X x e a ha) (twAnd_ok o x (e2 :: es) b hb)
theorem twOr_ok (o : TrsOk Γ r) (x : CtxOk Γ cl W n sc X) {pos : Pos} : ∀ (es : List Expr) (c : C), twOr r sc es = some c → PW X (.BoolOp .Or es pos) (tT X.K W cl (pmT Γ.kws) c)
  | [], c, h => by cases h
  | [e], c, h => qw_or1 (o.T cl W n sc X x e c h)
  | e :: e2 :: es, c, h => by
    unfold twOr at h
    obtain ⟨a, ha, h⟩ := Option.bind_eq_some_iff.mp h
    obtain ⟨b, hb, rfl⟩ := Option.map_eq_some_iff.mp h
    exact qw_or (o.T cl W n sc X x e a ha) (twOr_ok o x (e2 :: es) b hb)
theorem bl_in (x : CtxOk Γ cl W n sc X) {y : Str} (h : bltOnes.contains y = true := by decide +kernel) : X.mg y = none := x.bl y h
theorem trI_ok (o : TrsOk Γ r) (x : CtxOk Γ cl W n sc X) {tg it : Expr} {k : IK} {l : C} (h : trI r sc tg it = some (k, l)) : PI X tg it (tI X.K W cl (pmT Γ.kws) k l) := by
  have other : (r.E sc false false it).map (fun a => (IK.seq, C.cons a .nil)) = some (k, l) → PI X tg it (tI X.K W cl (pmT Γ.kws) k l) := fun h => by
    obtain ⟨a, ha, e⟩ := Option.map_eq_some_iff.mp h
    cases e
    exact qi_seq (o.E cl W n sc X x _ _ it a ha)
  unfold trI at h
  split at h
  · rename_i y p args pos
    split at h
    · rename_i hy
      subst hy
      obtain ⟨h1, h⟩ := gd_some h
      rw [Bool.and_eq_true] at h1
      split at h
      · obtain ⟨l', hl, e⟩ := Option.map_eq_some_iff.mp h
        cases e
        have := h1.2
        rw [List.all_cons, Bool.and_eq_true] at this
        exact qi_r1 (x.gl h1.1) (bl_in x) (trEs_ok o x _ _ hl) (star_cons _ (by simpa using this.1))
      · obtain ⟨l', hl, e⟩ := Option.map_eq_some_iff.mp h
        cases e
        have := h1.2
        rw [List.all_cons, Bool.and_eq_true, List.all_cons, Bool.and_eq_true] at this
        refine qi_r2 (x.gl h1.1) (bl_in x) (trEs_ok o x _ _ hl) ?_ (star_cons _ (by simpa using this.2.1))
        rw [star_cons _ (by simpa using this.1), star_cons _ (by simpa using this.2.1)]; rfl
      · cases h
    · split at h
      · rename_i hy
        subst hy
        obtain ⟨h1, h⟩ := gd_some h
        rw [Bool.and_eq_true] at h1
        split at h
        · obtain ⟨l', hl, e⟩ := Option.map_eq_some_iff.mp h
          cases e
          have := h1.2
          rw [List.all_cons, Bool.and_eq_true] at this
          exact qi_enum (x.gl h1.1) (bl_in x) (trEs_ok o x _ _ hl) (star_cons _ (by simpa using this.1))
        · cases h
      · split at h
        · rename_i hy
          subst hy
          obtain ⟨h1, h⟩ := gd_some h
          rw [Bool.and_eq_true] at h1
          split at h
          · obtain ⟨l', hl, e⟩ := Option.map_eq_some_iff.mp h
            cases e
            have := h1.2
            rw [List.all_cons, Bool.and_eq_true, List.all_cons, Bool.and_eq_true] at this
            refine qi_zip (x.gl h1.1) (bl_in x) (trEs_ok o x _ _ hl) ?_ (star_cons _ (by simpa using this.2.1))
            rw [star_cons _ (by simpa using this.1), star_cons _ (by simpa using this.2.1)]; rfl
          · cases h
        · exact other h
  · rename_i e m apos cpos
    split at h
    · rename_i hm
      subst hm
      obtain ⟨h1, h⟩ := gd_some h
      rw [Bool.and_eq_true, Bool.and_eq_true] at h1
      obtain ⟨a, ha, e2⟩ := Option.map_eq_some_iff.mp h
      cases e2
      obtain ⟨⟨h1, h2⟩, h3⟩ := h1
      cases tg <;> first | cases h2 | skip
      exact qi_items (o.E cl W n sc X x _ _ _ a ha) (by cases e <;> first | rfl | cases h3) h1
    · exact other h
  · exact other h
theorem pts_yes {X : Cx} {cl : Nat → List D → Sto → R D} {W : WX} {pm : Nat → List D → List D → Option (List D)} : PTs X [] (tT X.K W cl pm (.cst (.bl true))) := ⟨fun pins s σ H Q I z => by
  obtain ⟨B, G, m, S, r, hP, hE, q⟩ := z
  exact pts_nil.run pins s σ H Q I (Post.treeB q hP)⟩
/-- the parts of a comprehension -/
theorem trLc_ok (o : TrsOk Γ r) (x : CtxOk Γ cl W n sc X) {fr : Bool} {elt tg iter : Expr} {ifs : List Expr} {scope : Scope} {c : C} (h : trLc Γ r sc fr elt tg iter ifs scope = some c) :
    ∃ k l g t e, c = .comp fr ((ownB Γ.N scope).map (·.2)) g k l t e ∧ PI X tg iter (tI X.K W cl (pmT Γ.kws) k l) ∧ BlkOk X.N X.env.scope scope (ownB Γ.N scope) ∧ (∀ i ∈ g.slots, i ∈ (ownB Γ.N scope).map (·.2)) ∧
      (∀ (s : Shared) (H : Hp) (C : Addr) (cl' : List (Str × Addr)) (fp : List Addr), PG (X.blk s H scope (compEnvC scope cl' C X.env) fp) tg (tgP X.K g).1) ∧
      (∀ (s : Shared) (H : Hp) (C : Addr) (cl' : List (Str × Addr)) (fp : List Addr), PTs (X.blk s H scope (compEnvC scope cl' C X.env) fp) ifs (tT X.K W0 cl (pmT Γ.kws) t)) ∧
      (∀ (s : Shared) (H : Hp) (C : Addr) (cl' : List (Str × Addr)) (fp : List Addr), PE (X.blk s H scope (compEnvC scope cl' C X.env) fp) elt (tE X.K W0 cl (pmT Γ.kws) e)) ∧ ∀ x, foldedSetIterable iter X.env x = pure x := by
  unfold trLc at h
  obtain ⟨h1, h⟩ := gd_some h
  rw [Bool.and_eq_true] at h1
  obtain ⟨⟨k, l⟩, hi, h⟩ := Option.bind_eq_some_iff.mp h
  obtain ⟨g, hg, h⟩ := Option.bind_eq_some_iff.mp h
  obtain ⟨h2, h⟩ := gd_some h
  obtain ⟨t, ht, h⟩ := Option.bind_eq_some_iff.mp h
  obtain ⟨e, he, rfl⟩ := Option.map_eq_some_iff.mp h
  refine ⟨k, l, g, t, zE elt e, rfl, trI_ok o x hi, by rw [x.N, x.sc]; exact blkB_ok h1.1, fun i hi => of_decide_eq_true (List.all_eq_true.mp h2 i hi), fun s H C cl' fp => ?_, fun s H C cl' fp => ?_, fun s H C cl' fp => ?_, folded_pure (by simpa using h1.2)⟩
  · have y := x.blk s H scope cl' C fp
    exact trG_ok y.sc y.N y.nd y.calm (fun _ z => z) 4 tg g hg
  · have y := x.blk s H scope cl' C fp
    split at ht
    · cases ht; exact pts_yes
    · exact pts_one (o.T cl W0 n _ _ y _ _ ht)
    · cases ht
  · have y := x.blk s H scope cl' C fp
    exact zE_ok (o.E cl W0 n _ _ y _ _ elt e he)
/-- the parts of a dict comprehension -/
theorem trDc_ok (o : TrsOk Γ r) (x : CtxOk Γ cl W n sc X) {fr : Bool} {ex elt tg iter : Expr} {ifs : List Expr} {scope : Scope} {c : C} (h : trDc Γ r sc fr ex elt tg iter ifs scope = some c) :
    ∃ k l g t ek e, c = .dcm fr ((ownB Γ.N scope).map (·.2)) g k l t ek e ∧ PI X tg iter (tI X.K W cl (pmT Γ.kws) k l) ∧ BlkOk X.N X.env.scope scope (ownB Γ.N scope) ∧ (∀ i ∈ g.slots, i ∈ (ownB Γ.N scope).map (·.2)) ∧
      (∀ (s : Shared) (H : Hp) (C : Addr) (cl' : List (Str × Addr)) (fp : List Addr), PG (X.blk s H scope (compEnvC scope cl' C X.env) fp) tg (tgP X.K g).1) ∧
      (∀ (s : Shared) (H : Hp) (C : Addr) (cl' : List (Str × Addr)) (fp : List Addr), PTs (X.blk s H scope (compEnvC scope cl' C X.env) fp) ifs (tT X.K W0 cl (pmT Γ.kws) t)) ∧
      (∀ (s : Shared) (H : Hp) (C : Addr) (cl' : List (Str × Addr)) (fp : List Addr), PE (X.blk s H scope (compEnvC scope cl' C X.env) fp) ex (tE X.K W0 cl (pmT Γ.kws) ek)) ∧
      (∀ (s : Shared) (H : Hp) (C : Addr) (cl' : List (Str × Addr)) (fp : List Addr), PE (X.blk s H scope (compEnvC scope cl' C X.env) fp) elt (tE X.K W0 cl (pmT Γ.kws) e)) ∧ ∀ x, foldedSetIterable iter X.env x = pure x := by
  unfold trDc at h
  obtain ⟨h1, h⟩ := gd_some h
  rw [Bool.and_eq_true] at h1
  obtain ⟨⟨k, l⟩, hi, h⟩ := Option.bind_eq_some_iff.mp h
  obtain ⟨g, hg, h⟩ := Option.bind_eq_some_iff.mp h
  obtain ⟨h2, h⟩ := gd_some h
  obtain ⟨t, ht, h⟩ := Option.bind_eq_some_iff.mp h
  obtain ⟨ek, hek, h⟩ := Option.bind_eq_some_iff.mp h
  obtain ⟨e, he, rfl⟩ := Option.map_eq_some_iff.mp h
  refine ⟨k, l, g, t, ek, e, rfl, trI_ok o x hi, by rw [x.N, x.sc]; exact blkB_ok h1.1, fun i hi => of_decide_eq_true (List.all_eq_true.mp h2 i hi), fun s H C cl' fp => ?_, fun s H C cl' fp => ?_, fun s H C cl' fp => ?_, fun s H C cl' fp => ?_, folded_pure (by simpa using h1.2)⟩
  · have y := x.blk s H scope cl' C fp
    exact trG_ok y.sc y.N y.nd y.calm (fun _ z => z) 4 tg g hg
  · have y := x.blk s H scope cl' C fp
    split at ht
    · cases ht; exact pts_yes
    · exact pts_one (o.T cl W0 n _ _ y _ _ ht)
    · cases ht
  · have y := x.blk s H scope cl' C fp
    exact o.E cl W0 n _ _ y _ _ ex ek hek
  · have y := x.blk s H scope cl' C fp
    exact o.E cl W0 n _ _ y _ _ elt e he
theorem dbg_ok {x : Str} (h : dbg x = true) : (x == ("__debug__" : Str)) = false ∧ (x == ("__classdict__" : Str)) = false := of_decide_eq_true h
theorem tyNm_ok {e : Expr} {q : Str × Pos × String} (h : tyNm sc e = some q) : e = .Name q.1 q.2.1 ∧ glB sc q.1 = true ∧ (q.1 == ("__debug__" : Str)) = false ∧ q.1 ≠ "__name__" ∧ bltOnes.contains q.1 = true ∧ bootBuiltins q.1 = some (.type q.2.2) := by
  unfold tyNm at h
  split at h
  · obtain ⟨h1, h⟩ := gd_some h
    rw [Bool.and_eq_true, Bool.and_eq_true, Bool.and_eq_true] at h1
    split at h
    · rename_i c p ty hb
      cases h
      exact ⟨rfl, h1.1.1.1, (dbg_ok h1.1.1.2).1, of_decide_eq_true h1.1.2, h1.2, hb⟩
    · cases h
  · cases h
theorem tyNms_ok (x : CtxOk Γ cl W n sc X) : ∀ {es : List Expr} {qs : List (Str × Pos × String)}, tyNms sc es = some qs → es = (qs.map fun q => (q.1, q.2.1)).map (fun q => Expr.Name q.1 q.2) ∧
    (∀ q ∈ qs.map (fun q => (q.1, q.2.1)), Gl X q.1 ∧ X.mg q.1 = none ∧ q.1 ≠ "__name__" ∧ (q.1 == ("__debug__" : Str)) = false) ∧ Paired (fun (q : Str × Pos) (ty : String) => bootBuiltins q.1 = some (.type ty)) (qs.map fun q => (q.1, q.2.1)) (qs.map (·.2.2))
  | [], _, h => by
    cases h
    exact ⟨rfl, ⟨fun q hq => absurd hq (List.not_mem_nil), Paired.nil⟩⟩
  | e :: es, qs, h => by
    unfold tyNms at h
    split at h
    · rename_i a b ha hb
      cases h
      obtain ⟨h1, h2, h3, h4, h5, h6⟩ := tyNm_ok ha
      obtain ⟨i1, i2, i3⟩ := tyNms_ok x hb
      refine ⟨by rw [h1, i1]; rfl, ⟨fun q hq => ?_, Paired.cons h6 i3⟩⟩
      rcases List.mem_cons.mp hq with rfl | hq
      · exact ⟨x.gl h2, x.bl _ h5, h4, h3⟩
      · exact i2 q hq
    · cases h
theorem trIsi_ok (o : TrsOk Γ r) (x : CtxOk Γ cl W n sc X) {np pos : Pos} {args : List Expr} {c : C} (hg : Gl X "isinstance") (hst : args.all (fun e => !isStar e) = true) (h : trIsi r sc args = some c) : PE X (.Call (.Name "isinstance" np) args [] pos) (tE X.K W cl (pmT Γ.kws) c) := by
  unfold trIsi at h
  split at h
  · rename_i a c' p
    obtain ⟨q, hq, h⟩ := Option.bind_eq_some_iff.mp h
    obtain ⟨a', ha, rfl⟩ := Option.map_eq_some_iff.mp h
    obtain ⟨e1, h2, h3, h4, h5, h6⟩ := tyNm_ok hq
    cases e1
    rw [List.all_cons, Bool.and_eq_true] at hst
    exact qe_isi1 hg (bl_in x) (x.gl h2) (x.bl _ h5) h6 h4 h3 (o.E cl W n sc X x _ _ a a' ha) (star_cons _ (by simpa using hst.1)) rfl rfl
  · rename_i a cs k p
    obtain ⟨qs, hq, h⟩ := Option.bind_eq_some_iff.mp h
    obtain ⟨hl, h⟩ := gd_some h
    obtain ⟨a', ha, rfl⟩ := Option.map_eq_some_iff.mp h
    obtain ⟨e1, h2, h3⟩ := tyNms_ok x hq
    rw [List.all_cons, Bool.and_eq_true] at hst
    rw [e1]
    exact qe_isiN hg (bl_in x) h2 h3 (by rw [List.length_map]; exact of_decide_eq_true hl) (o.E cl W n sc X x _ _ a a' ha) (star_cons _ (by simpa using hst.1))
  · cases h
theorem trBlt_ok (o : TrsOk Γ r) (x : CtxOk Γ cl W n sc X) {fr : Bool} {y : Str} {np pos : Pos} {args : List Expr} {c : C} (hg : Gl X y) (hst : args.all (fun e => !isStar e) = true) (h : trBlt r sc fr y args = some c) : PE X (.Call (.Name y np) args [] pos) (tE X.K W cl (pmT Γ.kws) c) := by
  unfold trBlt at h
  split at h
  · cases h
  · rename_i e es
    obtain ⟨b, hb, h⟩ := Option.bind_eq_some_iff.mp h
    obtain ⟨l, hL, rfl⟩ := Option.map_eq_some_iff.mp h
    have hn := biOf_nm hb
    subst hn
    rw [List.all_cons, Bool.and_eq_true] at hst
    have s1 : isStar e = false := by simpa using hst.1
    have hm := x.bl _ b.in_ones
    cases hfr : (fr && decide (b = .list ∨ b = .dict)) with
    | false => exact qe_bi x.hu x.calm b hg hm (trEs_ok o x _ _ hL) (star_cons es s1) (star_any hst.2)
    | true =>
      have hfr' := hfr
      rw [Bool.and_eq_true] at hfr
      rcases of_decide_eq_true hfr.2 with this | this
      · subst this
        exact qe_biF hg hm (trEs_ok o x _ _ hL) (star_cons es s1) (star_any hst.2)
      · subst this
        exact qe_biD x.hu x.calm hg hm (trEs_ok o x _ _ hL) (star_cons es s1) (star_any hst.2)
theorem trKwC_ok (o : TrsOk Γ r) (x : CtxOk Γ cl W n sc X) {y : Str} {np pos : Pos} {args : List Expr} {kws : List Keyword} {c : C} (hg : Gl X y) (hdb : (y == ("__debug__" : Str)) = false) (hst : args.all (fun e => !isStar e) = true) (h : trKwC Γ r sc y args kws = some c) : PE X (.Call (.Name y np) args kws pos) (tE X.K W cl (pmT Γ.kws) c) := by
  unfold trKwC at h
  obtain ⟨hks, h⟩ := gd_some h
  obtain ⟨⟨g, f, ix⟩, hk, h⟩ := Option.bind_eq_some_iff.mp h
  obtain ⟨l, hL, h⟩ := Option.bind_eq_some_iff.mp h
  obtain ⟨kc, hK, rfl⟩ := Option.map_eq_some_iff.mp h
  have hget := kwOf_get hk
  obtain ⟨F, ln⟩ := x.kw _ _ _ _ _ _ hget
  obtain ⟨k1, k2⟩ := kwEach_some (env := X.env) (pos := pos) hks
  cases args with
  | nil =>
    cases hL
    exact qe_callk0 F (pmT_at hget) ln x.room hg x.tk (trKw_ok o x _ _ hK) k1 (kwEach_nm _) hdb (by rw [k2]; rfl)
  | cons e es =>
    have hst2 := hst
    rw [List.all_cons, Bool.and_eq_true] at hst2
    exact qe_callk F (pmT_at hget) ln x.room hg x.tk (trEs_ok o x _ _ hL) (trKw_ok o x _ _ hK) k1 (kwEach_nm _) hdb (star_cons es (by simpa using hst2.1)) (by rw [k2, star_any hst]; rfl)
theorem trCall_ok (o : TrsOk Γ r) (x : CtxOk Γ cl W n sc X) {fr : Bool} {y : Str} {np pos : Pos} {args : List Expr} {kws : List Keyword} {c : C} (h : trCall Γ r sc fr y args kws = some c) : PE X (.Call (.Name y np) args kws pos) (tE X.K W cl (pmT Γ.kws) c) := by
  unfold trCall at h
  obtain ⟨h1, h⟩ := gd_some h
  rw [Bool.and_eq_true, Bool.and_eq_true] at h1
  obtain ⟨⟨hg, hdb⟩, hst⟩ := h1
  have hg := x.gl hg
  have hdb := (dbg_ok hdb).1
  cases kws with
  | cons k ks => exact trKwC_ok o x hg hdb hst h
  | nil =>
    cases hl : Γ.fns.lookup y with
    | some q =>
      obtain ⟨f, np'⟩ := q
      rw [hl] at h
      obtain ⟨l, hL, rfl⟩ := Option.map_eq_some_iff.mp h
      have F := x.fn _ _ _ hl
      cases args with
      | nil => cases hL; exact qe_call0 F x.room hg x.tk hdb
      | cons e es =>
        have hst2 := hst
        rw [List.all_cons, Bool.and_eq_true] at hst2
        exact qe_call F x.room hg x.tk (trEs_ok o x _ _ hL) hdb (star_cons es (by simpa using hst2.1)) (star_any hst2.2)
    | none =>
      rw [hl] at h
      have h : (if y = "isinstance" then trIsi r sc args else trBlt r sc fr y args) = some c := h
      by_cases hy : y = "isinstance"
      · rw [if_pos hy] at h
        subst hy
        exact trIsi_ok o x hg hst h
      · rw [if_neg hy] at h
        exact trBlt_ok o x hg hst h
theorem trMth_ok (o : TrsOk Γ r) (x : CtxOk Γ cl W n sc X) {e : Expr} {m : Str} {apos cpos : Pos} {args : List Expr} {c : C} (h : trMth r sc e m apos args cpos = some c) : PE X (.Call (.Attribute e m apos) args [] cpos) (tE X.K W cl (pmT Γ.kws) c) := by
  unfold trMth at h
  obtain ⟨h1, h⟩ := gd_some h
  rw [Bool.and_eq_true, Bool.and_eq_true, Bool.and_eq_true] at h1
  obtain ⟨⟨⟨h1, h2⟩, h3⟩, h4⟩ := h1
  obtain ⟨a, ha, h⟩ := Option.bind_eq_some_iff.mp h
  obtain ⟨l, hL, rfl⟩ := Option.map_eq_some_iff.mp h
  have hb : attributeBase e m X.env (eval e X.env) = eval e X.env := by cases e <;> first | rfl | cases h4
  have hu : X.A.units + 1 < cLine := by have := x.hu; omega
  cases args with
  | nil => cases hL; exact qe_mth0 hu (o.E cl W n sc X x _ _ e a ha) hb h3
  | cons e1 es =>
    have h1' := h1
    rw [List.all_cons, Bool.and_eq_true] at h1
    refine qe_mth hu (o.E cl W n sc X x _ _ e a ha) (trEsZ_ok o x _ _ hL) hb ?_ h3 (star_cons es (by simpa using h1.1)) (star_any h1.2)
    rw [star_all h1']
    show (true && true && decide ((e1 :: es).length + 0 + 0 < 30)) = true
    rw [Bool.true_and, Bool.true_and]
    exact h2
theorem trPart_ok (o : TrsOk Γ r) (x : CtxOk Γ cl W n sc X) {e : Option Expr} {l : Option Unit × C} (h : trPart r sc e = some l) : PO X e (tO X.K W cl (pmT Γ.kws) l.1 l.2) ∧ (l.1 = none → l.2 = .nil) := by
  unfold trPart at h
  split at h
  · cases h; exact ⟨po_none, fun _ => rfl⟩
  · obtain ⟨a, ha, rfl⟩ := Option.map_eq_some_iff.mp h
    exact ⟨po_some (o.E cl W n sc X x _ _ _ a ha), fun z => by cases z⟩
theorem trSub_ok (o : TrsOk Γ r) (x : CtxOk Γ cl W n sc X) {e i : Expr} {pos : Pos} {c : C} (h : trSub r sc e i = some c) : PE X (.Subscript e i pos) (tE X.K W cl (pmT Γ.kws) c) := by
  unfold trSub at h
  split at h
  · obtain ⟨a, ha, h⟩ := Option.bind_eq_some_iff.mp h
    obtain ⟨l, hl, h⟩ := Option.bind_eq_some_iff.mp h
    obtain ⟨u, hu, rfl⟩ := Option.map_eq_some_iff.mp h
    obtain ⟨p1, p2⟩ := trPart_ok o x hl
    obtain ⟨p3, p4⟩ := trPart_ok o x hu
    exact qe_sl (o.E cl W n sc X x _ _ _ a ha) p1 p3 p2 p4
  · obtain ⟨a, ha, rfl⟩ := Option.map_eq_some_iff.mp h
    exact qe_rev (o.E cl W n sc X x _ _ _ a ha)
  · cases h
  · rename_i n1 n0 n2
    obtain ⟨a, ha, h⟩ := Option.bind_eq_some_iff.mp h
    obtain ⟨b, hb, rfl⟩ := Option.map_eq_some_iff.mp h
    refine qe_idx (by have := x.hu; omega) (o.E cl W n sc X x _ _ _ a ha) (o.E cl W n sc X x _ _ _ b hb) (plain_ix ?_)
    cases i with
    | Slice lo hi st p =>
      cases st with
      | none => exact absurd rfl (n1 lo hi p)
      | some s => exact absurd rfl (n2 lo hi s p)
    | _ => rfl
theorem trCmp_ok (o : TrsOk Γ r) (x : CtxOk Γ cl W n sc X) {e : Expr} {ops : List CmpOp} {es : List Expr} {pos : Pos} {c : C} (h : trCmp r sc e ops es = some c) : PE X (.Compare e ops es pos) (tE X.K W cl (pmT Γ.kws) c) ∧ PT X (.Compare e ops es pos) (tT X.K W cl (pmT Γ.kws) c) := by
  unfold trCmp at h
  split at h
  · obtain ⟨h1, h⟩ := gd_some h
    obtain ⟨a, ha, h⟩ := Option.bind_eq_some_iff.mp h
    obtain ⟨b, hb, rfl⟩ := Option.map_eq_some_iff.mp h
    have m : _ = false := Bool.not_eq_true' _ ▸ h1
    exact ⟨qe_cmp x.hu (o.E cl W n sc X x _ _ _ a ha) (o.E cl W n sc X x _ _ _ b hb) (by simpa using h1), qt_cmp x.hu (o.E cl W n sc X x _ _ _ a ha) (o.E cl W n sc X x _ _ _ b hb) (by simpa using h1)⟩
  · obtain ⟨h1, h⟩ := gd_some h
    rw [Bool.and_eq_true] at h1
    obtain ⟨a, ha, h⟩ := Option.bind_eq_some_iff.mp h
    obtain ⟨b, hb, h⟩ := Option.bind_eq_some_iff.mp h
    obtain ⟨c, hc, rfl⟩ := Option.map_eq_some_iff.mp h
    exact ⟨qe_chn x.hu (o.E cl W n sc X x _ _ _ a ha) (o.E cl W n sc X x _ _ _ b hb) (o.E cl W n sc X x _ _ _ c hc) (by simpa using h1.1) (by simpa using h1.2), qt_chn x.hu (o.E cl W n sc X x _ _ _ a ha) (o.E cl W n sc X x _ _ _ b hb) (o.E cl W n sc X x _ _ _ c hc) (by simpa using h1.1) (by simpa using h1.2)⟩
  · cases h
theorem trCst_ok {c : Const} {t : T} {k : Nat} {pos : Pos} (h : trCst c = some t) : PE X (.Constant c k pos) (tE X.K W cl (pmT Γ.kws) (.cst t)) := by
  unfold trCst at h
  split at h
  · cases h; exact qe_cst pe_non fun _ => .non
  · cases h; exact qe_cst pe_bl fun _ => .bl _
  · cases h; exact qe_cst pe_int fun _ => .int _
  · cases h; exact qe_cst pe_str fun _ => .str _
  · cases h
theorem stE_ok (o : TrsOk Γ r) (x : CtxOk Γ cl W n sc X) {fr tk : Bool} {e : Expr} {c : C} (h : stE Γ r sc fr tk e = some c) : PE X e (tE X.K W cl (pmT Γ.kws) c) := by
  unfold stE at h
  split at h
  · unfold trName at h
    obtain ⟨h1, h⟩ := gd_some h
    split at h
    · rename_i hv
      obtain ⟨i, hi, rfl⟩ := Option.map_eq_some_iff.mp h
      have hq : ∀ p, PE X (.Name _ p) (tE X.K W cl (pmT Γ.kws) (.var i)) := fun p => qe_var (by rw [x.N]; exact posOf_get hi) (x.vis hv) (dbg_ok h1).1 (dbg_ok h1).2
      split
      · exact qe_frz (hq _)
      · exact hq _
    · obtain ⟨h2, h⟩ := gd_some h
      obtain ⟨t, ht, rfl⟩ := Option.map_eq_some_iff.mp h
      obtain ⟨v, u, hm, rv, hr⟩ := x.cs _ _ ht
      exact qe_cst (pe_glob (x.gl h2) hm rv (dbg_ok h1).1) hr
  · obtain ⟨t, ht, rfl⟩ := Option.map_eq_some_iff.mp h
    exact trCst_ok ht
  · rename_i a0 op b0 p0
    obtain ⟨a, ha, h⟩ := Option.bind_eq_some_iff.mp h
    obtain ⟨b, hb, rfl⟩ := Option.map_eq_some_iff.mp h
    cases hfr : (fr && decide (op = .Add)) with
    | false => exact qe_bin (o.E cl W n sc X x _ _ _ a ha) (o.E cl W n sc X x _ _ _ b hb)
    | true =>
      rw [Bool.and_eq_true] at hfr
      have := of_decide_eq_true hfr.2
      subst this
      exact qe_binF (o.E cl W n sc X x _ _ _ a ha) (o.E cl W n sc X x _ _ _ b hb)
  · obtain ⟨a, ha, rfl⟩ := Option.map_eq_some_iff.mp h
    exact qe_neg (o.E cl W n sc X x _ _ _ a ha)
  · obtain ⟨a, ha, rfl⟩ := Option.map_eq_some_iff.mp h
    exact qe_not (o.E cl W n sc X x _ _ _ a ha)
  · exact trAnd_ok o x _ _ h
  · exact trOr_ok o x _ _ h
  · exact (trCmp_ok o x h).1
  · obtain ⟨t, ht, h⟩ := Option.bind_eq_some_iff.mp h
    obtain ⟨a, ha, h⟩ := Option.bind_eq_some_iff.mp h
    obtain ⟨b, hb, rfl⟩ := Option.map_eq_some_iff.mp h
    exact qe_ife (o.T cl W n sc X x _ t ht) (o.E cl W n sc X x _ _ _ a ha) (o.E cl W n sc X x _ _ _ b hb)
  · obtain ⟨l, hl, rfl⟩ := Option.map_eq_some_iff.mp h
    exact qe_tup (trEsZ_ok o x _ _ hl)
  · obtain ⟨l, hl, rfl⟩ := Option.map_eq_some_iff.mp h
    exact qe_lst (trEsZ_ok o x _ _ hl)
  · cases h; exact qe_dct
  · obtain ⟨a, ha, h⟩ := Option.bind_eq_some_iff.mp h
    obtain ⟨k, hk, h⟩ := Option.bind_eq_some_iff.mp h
    obtain ⟨v, hv, rfl⟩ := Option.map_eq_some_iff.mp h
    exact qe_dsp (o.E cl W n sc X x _ _ _ a ha) (o.E cl W n sc X x _ _ _ k hk) (o.E cl W n sc X x _ _ _ v hv)
  · obtain ⟨k, l, g, t, ek, e, rfl, h1, h2, h3, h4, h5, h5', h6, h7⟩ := trDc_ok o x h
    exact qe_dcm x.calm (by rw [x.N]; exact x.nd) h1 h2 h3 h4 h5 h5' h6 h7
  · obtain ⟨k, l, g, t, e, rfl, h1, h2, h3, h4, h5, h6, h7⟩ := trLc_ok o x h
    exact qe_comp x.calm (by rw [x.N]; exact x.nd) h1 h2 h3 h4 h5 h6 h7
  · exact trCall_ok o x h
  · exact trMth_ok o x h
  · exact trSub_ok o x h
  · cases h
theorem stT_ok (o : TrsOk Γ r) (x : CtxOk Γ cl W n sc X) {e : Expr} {c : C} (h : stT r sc e = some c) : PT X e (tT X.K W cl (pmT Γ.kws) c) := by
  unfold stT at h
  split at h
  · exact (trCmp_ok o x h).2
  · exact (twAnd_ok o x _ _ h).pt
  · exact (twOr_ok o x _ _ h).pt
  · obtain ⟨a, ha, rfl⟩ := Option.map_eq_some_iff.mp h
    exact qt_not (o.T cl W n sc X x _ a ha)
  · obtain ⟨a, ha, rfl⟩ := Option.map_eq_some_iff.mp h
    exact qt_tru (o.E cl W n sc X x _ _ _ a ha) fun _ => rfl
  · obtain ⟨a, ha, rfl⟩ := Option.map_eq_some_iff.mp h
    exact qt_tru (o.E cl W n sc X x _ _ _ a ha) fun _ => rfl
  · obtain ⟨a, ha, rfl⟩ := Option.map_eq_some_iff.mp h
    exact qt_tru (o.E cl W n sc X x _ _ _ a ha) fun _ => rfl
  · obtain ⟨a, ha, rfl⟩ := Option.map_eq_some_iff.mp h
    exact qt_tru (o.E cl W n sc X x _ _ _ a ha) fun _ => rfl
  · cases h
end
theorem trs_ok (Γ : Gm) : ∀ n, TrsOk Γ (trs Γ n)
  | 0 => ⟨fun _ _ _ _ _ _ _ _ _ _ h => (by cases h), fun _ _ _ _ _ _ _ _ h => (by cases h)⟩
  | n + 1 => ⟨fun cl W k sc X x fr tk e c h => stE_ok (trs_ok Γ n) x h, fun cl W k sc X x e c h => stT_ok (trs_ok Γ n) x h⟩
end Qq

set_option maxHeartbeats 400000
/-! Q11: from the text to what is said in short: statements, defs. -/
namespace Qq
open PySem PySem.Spec PyProof.Rows L2

def swSt (sc : Scope) (ts vs : List Expr) : Option (Option (List Str)) :=
  if (!(ts.length == 2 || ts.length == 3) || vs.length != ts.length) = true then some none
  else if (vs.any isStar) = true then some none
  else
    let line := (ts.head?.map (·.pos.line)).getD 0
    let names := ts.filterMap fun
      | .Name id pos => if sc.names.lookup id == some .local && pos.line == line then some id else none
      | _ => none
    if (names.length != ts.length || names.eraseDups.length != names.length) = true then some none
    else if vs.all (foldedForSure 8) = true then some none
    else if vs.all (constantsAlone 8) = true then none
    else some (some names)
theorem blockKind_fn {env : PySem.Env} (h : env.scope.kind = .function) : env.blockKind = .function := by
  unfold PySem.Env.blockKind
  rw [h]; rfl
theorem swSt_ok {env : PySem.Env} {sc : Scope} {ts vs : List Expr} {o : Option (List Str)} {k k2 : Nat} {p p2 : Pos} (hsc : env.scope = sc) (hk : sc.kind = .function) (h : swSt sc ts vs = some o) : swappedStores [.Tuple ts k p] (.Tuple vs k2 p2) env = pure o := by
  subst hsc
  have hb := blockKind_fn hk
  have e2 : (env.blockKind != .function) = false := by rw [hb]; rfl
  have e3 : (vs.any fun | .Starred .. => true | _ => false) = vs.any isStar := by
    congr 1
  unfold swSt at h
  unfold swappedStores
  show (if (!(ts.length == 2 || ts.length == 3) || vs.length != ts.length || env.blockKind != .function) = true then (pure none : Sem _) else _) = _
  rw [e2, Bool.or_false]
  split at h
  · rename_i h1
    cases h
    rw [if_pos h1]
  · rename_i h1
    rw [if_neg h1]
    show (if (vs.any fun | .Starred .. => true | _ => false) = true then (pure none : Sem _) else _) = _
    rw [e3]
    split at h
    · rename_i h2
      cases h
      rw [if_pos h2]
    · rename_i h2
      rw [if_neg h2]
      simp only at h
      split at h
      · rename_i h3
        cases h
        exact if_pos h3
      · rename_i h3
        refine (if_neg h3).trans ?_
        split at h
        · rename_i h4
          cases h
          exact if_pos h4
        · rename_i h4
          refine (if_neg h4).trans ?_
          split at h
          · cases h
          · rename_i h5
            cases h
            exact if_neg h5
def swLc (sc scope : Scope) (x : Str) (p cpos : Pos) : Bool := (sc.names.lookup x == some .local) && (p.line == cpos.line) && !(scope.names.any fun (n, k) => n == x && (k == .local || k == .cell))
theorem swLc_ok {env : PySem.Env} {sc scope : Scope} {x : Str} {p cpos : Pos} {l : Nat} {elt : Expr} {gs : List Comprehension} {b : Bool} (hsc : env.scope = sc) (hk : sc.kind = .function) (h : swLc sc scope x p cpos = b) : swapsWith (.ListComp elt gs scope cpos) (some (.Name x p)) l env = pure b := by
  subst hsc
  have hb := blockKind_fn hk
  unfold swapsWith
  show (pure (env.blockKind == .function && env.kindOf x == some .local && p.line == cpos.line && !(scope.names.any fun (n, k) => n == x && (k == .local || k == .cell))) : Sem Bool) = _
  rw [hb, ← h]
  rfl
theorem swDc_ok {env : PySem.Env} {sc scope : Scope} {x : Str} {p cpos : Pos} {l : Nat} {ex elt : Expr} {gs : List Comprehension} {b : Bool} (hsc : env.scope = sc) (hk : sc.kind = .function) (h : swLc sc scope x p cpos = b) : swapsWith (.DictComp ex elt gs scope cpos) (some (.Name x p)) l env = pure b := by
  subst hsc
  have hb := blockKind_fn hk
  unfold swapsWith
  show (pure (env.blockKind == .function && env.kindOf x == some .local && p.line == cpos.line && !(scope.names.any fun (n, k) => n == x && (k == .local || k == .cell))) : Sem Bool) = _
  rw [hb, ← h]
  rfl
theorem swaps_soleN {env : PySem.Env} {e t : Expr} {l : Nat} (h : isComp e = false) : swapsWithSole [t] e l env = pure false := swaps_no h
theorem swaps_tg {env : PySem.Env} {e t : Expr} {l : Nat} (h : ∀ x p, t ≠ .Name x p) : swapsWith e (some t) l env = pure false := by
  cases e <;> cases t <;> first | rfl | exact absurd rfl (h _ _)
theorem swaps_soleT {env : PySem.Env} {e t : Expr} {l : Nat} (h : ∀ x p, t ≠ .Name x p) : swapsWithSole [t] e l env = pure false := swaps_tg h
theorem swapped_no {env : PySem.Env} {t : Expr} {e : Expr} (h : ∀ ts k p, t ≠ .Tuple ts k p) (h2 : ∀ ts p, t ≠ .List ts p) : swappedStores [t] e env = pure none := by
  cases t <;> first | rfl | exact absurd rfl (h _ _ _) | exact absurd rfl (h2 _ _)
theorem swapped_noV {env : PySem.Env} {ts : List Expr} {k : Nat} {p : Pos} {e : Expr} (h : ∀ vs k p, e ≠ .Tuple vs k p) : swappedStores [.Tuple ts k p] e env = pure none := by
  cases e <;> first | rfl | exact absurd rfl (h _ _ _)

def isTup : Expr → Bool
  | .Tuple _ _ _ => true
  | _ => false
section
variable (Γ : Gm) (r : Trs) (sc : Scope)
/-- name = e -/
def trSet (x : Str) (p : Pos) (e : Expr) : Option P :=
  gd (visB sc x && match sc.names.lookup x with
    | some .free => false
    | _ => true) ((posOf Γ.N x).bind fun i => match e with
    | .ListComp elt [⟨tg, iter, ifs, 0⟩] scope cpos => (match swLc sc scope x p cpos with
      | true => (trLc Γ r sc (decide (x ∈ Γ.own)) elt tg iter ifs scope).map fun c => .asg (.n i) c
      | false => (r.E sc (decide (x ∈ Γ.own)) false e).map fun c => .asg (.n i) c)
    | .DictComp ex elt [⟨tg, iter, ifs, 0⟩] scope cpos => (match swLc sc scope x p cpos with
      | true => (trDc Γ r sc (decide (x ∈ Γ.own)) ex elt tg iter ifs scope).map fun c => .asg (.n i) c
      | false => (r.E sc (decide (x ∈ Γ.own)) false e).map fun c => .asg (.n i) c)
    | _ => gd (!isComp e) ((r.E sc (decide (x ∈ Γ.own)) (decide (x ∈ Γ.tks)) e).map fun c => .asg (.n i) c))
def trEsO : List Expr → List Expr → Option C
  | _, [] => some .nil
  | t :: ts, e :: es => gd (!isStar e) ((r.E sc (match t with
      | .Name x _ => decide (x ∈ Γ.own)
      | _ => false) (match t with
      | .Name x _ => decide (x ∈ Γ.tks)
      | _ => false) e).bind fun a => (trEsO ts es).map fun b => .cons a b)
  | [], _ :: _ => none
def tgNs : Tg → Option (List Nat)
  | .nil => some []
  | .cons (.n i) r => (tgNs r).map fun is => i :: is
  | _ => none
def trPar (ts vs : List Expr) (tg e : Expr) : Option P := match swSt sc ts vs with
  | none => none
  | some none => (trG Γ sc (fun _ => true) 4 tg).bind fun g => (match tgNs g with
    | some is => gd (decide (is.length ≤ 1000)) ((trEsO Γ r sc ts vs).map fun l => .par is l)
    | none => (r.E sc false false e).map fun c => .asg g c)
  | some (some nms) => (match ts, vs with
    | [.Name x _, .Name y _], [a, b] => gd (decide (nms = [x, y]) && decide (sc.names.lookup x = some .local) && decide (sc.names.lookup y = some .local)) ((posOf Γ.N x).bind fun i => (posOf Γ.N y).bind fun j => gd (decide (i ≠ j)) ((trEsO Γ r sc ts [a, b]).map fun l => .par [i, j] l))
    | [.Name x _, .Name y _, .Name z _], [a, b, c] => gd (decide (nms = [x, y, z]) && decide (sc.names.lookup x = some .local) && decide (sc.names.lookup y = some .local) && decide (sc.names.lookup z = some .local)) ((posOf Γ.N x).bind fun i => (posOf Γ.N y).bind fun j => (posOf Γ.N z).bind fun k =>
        gd (decide (i ≠ j) && decide (i ≠ k) && decide (j ≠ k)) ((trEsO Γ r sc ts [a, b, c]).map fun l => .par [i, j, k] l))
    | _, _ => none)
def trAsg (tg e : Expr) : Option P := match tg with
  | .Name x p => trSet Γ r sc x p e
  | .Tuple ts _ _ => (match e with
    | .Tuple vs _ _ => trPar Γ r sc ts vs tg e
    | _ => gd (!isTup e) ((trG Γ sc (fun _ => true) 4 tg).bind fun g => (r.E sc false false e).map fun c => .asg g c))
  | .Subscript o i _ => gd (!isSlc i) ((r.E sc false false e).bind fun c => (r.E sc false false o).bind fun o => (r.E sc false false i).map fun i => .setI o i c)
  | _ => none
def trAug (x : Str) (op : Operator) (e : Expr) : Option P :=
  gd (decide (op = .Add ∨ op = .Sub) && visB sc x && match sc.names.lookup x with
    | some .free => false
    | _ => true) ((posOf Γ.N x).bind fun i => (r.E sc false false e).map fun c => .aug i op c)
def trSs (f : Stmt → Option P) : List Stmt → Option P
  | [] => some .nil
  | s :: ss => (f s).bind fun a => (trSs f ss).map fun b => .seq a b
def isNm : Expr → Bool
  | .Name _ _ => true
  | _ => false
def trS (rr : Trs) : Nat → Stmt → Option P
  | 0, _ => none
  | n + 1, s => match s with
    | .Expr (.Constant (.str _) _ _) _ => some .pass
    | .Expr e _ => gd (!isComp e) ((r.E sc false false e).map .drop)
    | .Assign [tg] e _ => trAsg Γ r sc tg e
    | .AugAssign (.Name x _) op e _ => trAug Γ r sc x op e
    | .Return none _ => some .retN
    | .Return (some e) _ => (match isNm e with
      | true => (r.E sc Γ.kp false e).map .ret
      | false => (rr.E sc Γ.kp false e).map .ret)
    | .If t a b _ => (r.T sc t).bind fun t => (trSs (trS rr n) a).bind fun a => (trSs (trS rr n) b).map fun b => .ite t a b
    | .While t b [] _ => (r.T sc t).bind fun t => (trSs (trS rr n) b).map fun b => .whl t b
    | .For tg it b [] _ => gd (!isSetE it) ((trI r sc tg it).bind fun kl => (trG Γ sc (fun _ => true) 4 tg).bind fun g => (trSs (trS rr n) b).map fun b => .for_ g kl.1 kl.2 b)
    | .Break _ => some .brk
    | .Continue _ => some .cnt
    | .Pass _ => some .pass
    | .Raise _ _ _ => some .never
    | _ => none
end

/-- a def's own -/
structure DefOk (sc : Scope) (X : Cx) : Prop where
  kind : sc.kind = .function
  fn : ∀ x, X.fn x = true
  hp : PassesOwn (model X.prog X.w) X.A X.env X.xe
section
variable {Γ : Gm} {r : Trs} {cl : Nat → List D → Sto → R D} {E : XK} {wf n : Nat} {sc : Scope} {X : Cx}
theorem loc_of (x : CtxOk Γ cl (EW E) n sc X) {y : Str} (h : (visB sc y && match sc.names.lookup y with
    | some .free => false
    | _ => true) = true) : L2.Loc X.env.scope y := by
  rw [Bool.and_eq_true] at h
  obtain ⟨h1, h2⟩ := h
  rw [x.sc]
  unfold visB at h1
  unfold L2.Loc
  split at h1
  · rename_i q; exact .inl q
  · rename_i q; exact .inr q
  · rename_i q; rw [q] at h2; cases h2
  · cases h1
theorem trSet_ok (o : TrsOk Γ r) (x : CtxOk Γ cl (EW E) n sc X) (d : DefOk sc X) {y : Str} {p pos : Pos} {e : Expr} {c : P} (h : trSet Γ r sc y p e = some c) : PS X (.Assign [.Name y p] e pos) (tS X.K E wf cl (pmT Γ.kws) c) := by
  unfold trSet at h
  obtain ⟨h1, h⟩ := gd_some h
  have hl := loc_of x h1
  obtain ⟨i, hi, h⟩ := Option.bind_eq_some_iff.mp h
  have hi' := posOf_get hi
  rw [← x.N] at hi'
  have hnd : X.N.Nodup := by rw [x.N]; exact x.nd
  have hg : PG X (.Name y p) (tgP X.K (.n i)).1 := pg_name hnd hi' hl (.inl (d.fn y))
  split at h
  · rename_i elt tg iter ifs scope cpos hh hh2
    cases hsw : swLc sc scope y p cpos with
    | true =>
      rw [hsw] at h
      obtain ⟨c', hc, rfl⟩ := Option.map_eq_some_iff.mp h
      obtain ⟨k, l, g, t, e, rfl, h1', h2, h3, h4, h5, h6, h7⟩ := trLc_ok o x hc
      have hyl : X.env.scope.names.lookup y = some .local := by
        unfold swLc at hsw
        rw [Bool.and_eq_true, Bool.and_eq_true] at hsw
        rw [x.sc]; exact eq_of_beq hsw.1.1
      exact qs_asgLc x.calm hnd hi' hyl (swLc_ok x.sc d.kind hsw) h1' h2 h3 h4 h5 h6 h7
    | false =>
      rw [hsw] at h
      obtain ⟨c', hc, rfl⟩ := Option.map_eq_some_iff.mp h
      exact qs_asg (g := .n i) (o.E cl _ n sc X x _ _ _ c' hc) hg (swLc_ok (l := pos.line) x.sc d.kind hsw) rfl rfl
  · rename_i ex elt tg iter ifs scope cpos hh hh2
    cases hsw : swLc sc scope y p cpos with
    | true =>
      rw [hsw] at h
      obtain ⟨c', hc, rfl⟩ := Option.map_eq_some_iff.mp h
      obtain ⟨k, l, g, t, ek, e, rfl, h1', h2, h3, h4, h5, h5', h6, h7⟩ := trDc_ok o x hc
      have hyl : X.env.scope.names.lookup y = some .local := by
        unfold swLc at hsw
        rw [Bool.and_eq_true, Bool.and_eq_true] at hsw
        rw [x.sc]; exact eq_of_beq hsw.1.1
      exact qs_asgDc x.calm hnd hi' hyl (swDc_ok x.sc d.kind hsw) h1' h2 h3 h4 h5 h5' h6 h7
    | false =>
      rw [hsw] at h
      obtain ⟨c', hc, rfl⟩ := Option.map_eq_some_iff.mp h
      exact qs_asg (g := .n i) (o.E cl _ n sc X x _ _ _ c' hc) hg (swDc_ok (l := pos.line) x.sc d.kind hsw) rfl rfl
  · obtain ⟨h2, h⟩ := gd_some h
    obtain ⟨c', hc, rfl⟩ := Option.map_eq_some_iff.mp h
    exact qs_asg (g := .n i) (o.E cl _ n sc X x _ _ _ c' hc) hg (swaps_soleN (by simpa using h2)) rfl rfl
theorem trEsO_ok (o : TrsOk Γ r) {W : WX} (x : CtxOk Γ cl W n sc X) : ∀ (ts es : List Expr) (c : C), trEsO Γ r sc ts es = some c → PA X es (tA X.K W cl (pmT Γ.kws) c)
  | _, [], c, h => by
    unfold trEsO at h
    cases h; exact qa_nil
  | [], _ :: _, c, h => by cases h
  | t :: ts, e :: es, c, h => by
    unfold trEsO at h
    obtain ⟨h1, h⟩ := gd_some h
    obtain ⟨a, ha, h⟩ := Option.bind_eq_some_iff.mp h
    obtain ⟨b, hb, rfl⟩ := Option.map_eq_some_iff.mp h
    exact qa_cons (o.E cl W n sc X x _ _ e a ha) (trEsO_ok o x ts es b hb) (star_cons es (by simpa using h1))
theorem tgNs_ok : ∀ {g : Tg} {is : List Nat}, tgNs g = some is → g = tgN is
  | .nil, _, h => by cases h; rfl
  | .cons (.n i) r, is, h => by
    unfold tgNs at h
    obtain ⟨js, h1, rfl⟩ := Option.map_eq_some_iff.mp h
    rw [tgNs_ok h1]; rfl
  | .n _, _, h => by cases h
  | .cons .nil _, _, h => by cases h
  | .cons (.cons _ _) _, _, h => by cases h
theorem trPar_ok (o : TrsOk Γ r) (x : CtxOk Γ cl (EW E) n sc X) (d : DefOk sc X) {ts vs : List Expr} {k k2 : Nat} {p p2 pos : Pos} {c : P} (h : trPar Γ r sc ts vs (.Tuple ts k p) (.Tuple vs k2 p2) = some c) :
    PS X (.Assign [.Tuple ts k p] (.Tuple vs k2 p2) pos) (tS X.K E wf cl (pmT Γ.kws) c) := by
  have hnd : X.N.Nodup := by rw [x.N]; exact x.nd
  unfold trPar at h
  cases hw : swSt sc ts vs with
  | none => rw [hw] at h; cases h
  | some ow =>
    rw [hw] at h
    have sw := swSt_ok (k := k) (k2 := k2) (p := p) (p2 := p2) x.sc d.kind hw
    cases ow with
    | none =>
      obtain ⟨g, hg, h⟩ := Option.bind_eq_some_iff.mp h
      have hG := trG_ok x.sc x.N x.nd x.calm (fun y _ => d.fn y) 4 _ g hg
      split at h
      · rename_i is his
        obtain ⟨hl, h⟩ := gd_some h
        obtain ⟨l, hL, rfl⟩ := Option.map_eq_some_iff.mp h
        rw [tgNs_ok his] at hG
        exact qs_unp (of_decide_eq_true hl) (trEsO_ok o x _ _ _ hL) hG rfl sw
      · obtain ⟨c', hc, rfl⟩ := Option.map_eq_some_iff.mp h
        exact qs_asg (o.E cl _ n sc X x _ _ _ c' hc) hG rfl sw rfl
    | some nms =>
      simp only at h
      split at h
      · rename_i y py z pz a b
        obtain ⟨h1, h⟩ := gd_some h
        rw [Bool.and_eq_true, Bool.and_eq_true] at h1
        obtain ⟨⟨h1, h2⟩, h3⟩ := h1
        obtain ⟨i, hi, h⟩ := Option.bind_eq_some_iff.mp h
        obtain ⟨j, hj, h⟩ := Option.bind_eq_some_iff.mp h
        obtain ⟨hij, h⟩ := gd_some h
        obtain ⟨l, hL, rfl⟩ := Option.map_eq_some_iff.mp h
        have := of_decide_eq_true h1
        subst this
        have h2 := of_decide_eq_true h2
        have h3 := of_decide_eq_true h3
        rw [← x.sc] at h2 h3
        exact qs_par x.calm hnd (by rw [x.N]; exact posOf_get hi) (by rw [x.N]; exact posOf_get hj) (of_decide_eq_true hij) h2 h3 (trEsO_ok o x _ _ _ hL) sw rfl
      · rename_i y py z pz u pu a b c0
        obtain ⟨h1, h⟩ := gd_some h
        rw [Bool.and_eq_true, Bool.and_eq_true, Bool.and_eq_true] at h1
        obtain ⟨⟨⟨h1, h2⟩, h3⟩, h4⟩ := h1
        obtain ⟨i, hi, h⟩ := Option.bind_eq_some_iff.mp h
        obtain ⟨j, hj, h⟩ := Option.bind_eq_some_iff.mp h
        obtain ⟨q, hq, h⟩ := Option.bind_eq_some_iff.mp h
        obtain ⟨hij, h⟩ := gd_some h
        rw [Bool.and_eq_true, Bool.and_eq_true] at hij
        obtain ⟨l, hL, rfl⟩ := Option.map_eq_some_iff.mp h
        have := of_decide_eq_true h1
        subst this
        have h2 := of_decide_eq_true h2
        have h3 := of_decide_eq_true h3
        have h4 := of_decide_eq_true h4
        rw [← x.sc] at h2 h3 h4
        exact qs_par3 x.calm hnd (by rw [x.N]; exact posOf_get hi) (by rw [x.N]; exact posOf_get hj) (by rw [x.N]; exact posOf_get hq) (of_decide_eq_true hij.1.1) (of_decide_eq_true hij.1.2) (of_decide_eq_true hij.2) h2 h3 h4 (trEsO_ok o x _ _ _ hL) sw rfl
      · cases h
theorem trAsg_ok (o : TrsOk Γ r) (x : CtxOk Γ cl (EW E) n sc X) (d : DefOk sc X) {tg e : Expr} {pos : Pos} {c : P} (h : trAsg Γ r sc tg e = some c) : PS X (.Assign [tg] e pos) (tS X.K E wf cl (pmT Γ.kws) c) := by
  unfold trAsg at h
  split at h
  · exact trSet_ok o x d h
  · split at h
    · exact trPar_ok o x d h
    · obtain ⟨h1, h⟩ := gd_some h
      obtain ⟨g, hg, h⟩ := Option.bind_eq_some_iff.mp h
      obtain ⟨c', hc, rfl⟩ := Option.map_eq_some_iff.mp h
      exact qs_asg (o.E cl _ n sc X x _ _ _ c' hc) (trG_ok x.sc x.N x.nd x.calm (fun y _ => d.fn y) 4 _ g hg) (swaps_soleT fun _ _ z => nomatch z) (swapped_noV fun vs k p z => by subst z; cases h1) rfl
  · rename_i ob i p
    obtain ⟨h1, h⟩ := gd_some h
    obtain ⟨c', hc, h⟩ := Option.bind_eq_some_iff.mp h
    obtain ⟨o', ho, h⟩ := Option.bind_eq_some_iff.mp h
    obtain ⟨i', hi, rfl⟩ := Option.map_eq_some_iff.mp h
    refine qs_setI x.hu (o.E cl _ n sc X x _ _ _ c' hc) (o.E cl _ n sc X x _ _ _ o' ho) (o.E cl _ n sc X x _ _ _ i' hi) (fun v => ?_) (swaps_soleT fun _ _ z => nomatch z) rfl rfl
    cases i <;> first | rfl | cases h1
  · cases h
theorem trAug_ok (o : TrsOk Γ r) (x : CtxOk Γ cl (EW E) n sc X) (d : DefOk sc X) {y : Str} {op : Operator} {e : Expr} {pos p : Pos} {c : P} (h : trAug Γ r sc y op e = some c) : PS X (.AugAssign (.Name y p) op e pos) (tS X.K E wf cl (pmT Γ.kws) c) := by
  unfold trAug at h
  obtain ⟨h1, h⟩ := gd_some h
  rw [Bool.and_assoc, Bool.and_eq_true] at h1
  obtain ⟨h1, h2⟩ := h1
  obtain ⟨i, hi, h⟩ := Option.bind_eq_some_iff.mp h
  obtain ⟨c', hc, rfl⟩ := Option.map_eq_some_iff.mp h
  exact qs_aug (of_decide_eq_true h1) (by rw [x.N]; exact x.nd) (by rw [x.N]; exact posOf_get hi) (loc_of x h2) (o.E cl _ n sc X x _ _ _ c' hc) (.inl (d.fn y))
theorem trSs_ok {f : Stmt → Option P} (hf : ∀ s c, f s = some c → PS X s (tS X.K E wf cl (pmT Γ.kws) c)) : ∀ (ss : List Stmt) (c : P), trSs f ss = some c → PSs X ss (tS X.K E wf cl (pmT Γ.kws) c)
  | [], c, h => by cases h; exact qs_nil
  | s :: ss, c, h => by
    unfold trSs at h
    obtain ⟨a, ha, h⟩ := Option.bind_eq_some_iff.mp h
    obtain ⟨b, hb, rfl⟩ := Option.map_eq_some_iff.mp h
    exact qs_seq (hf s a ha) (trSs_ok hf ss b hb)
theorem trS_ok {rr : Trs} (o : TrsOk Γ r) (o2 : TrsOk Γ.ret rr) (x : CtxOk Γ cl (EW E) n sc X) (d : DefOk sc X) : ∀ (k : Nat) (s : Stmt) (c : P), trS Γ r sc rr k s = some c → PS X s (tS X.K E wf cl (pmT Γ.kws) c)
  | 0, _, _, h => by cases h
  | k + 1, s, c, h => by
    have ih := trSs_ok (trS_ok o o2 x d k)
    unfold trS at h
    split at h
    · cases h; exact qs_doc
    · obtain ⟨h1, h⟩ := gd_some h
      obtain ⟨a, ha, rfl⟩ := Option.map_eq_some_iff.mp h
      exact qs_drop (o.E cl _ n sc X x _ _ _ a ha) (swaps_no (by simpa using h1))
    · exact trAsg_ok o x d h
    · exact trAug_ok o x d h
    · cases h; exact qs_retN
    · split at h
      · obtain ⟨a, ha, rfl⟩ := Option.map_eq_some_iff.mp h
        exact qs_ret (o.E cl _ n sc X x _ _ _ a ha)
      · obtain ⟨a, ha, rfl⟩ := Option.map_eq_some_iff.mp h
        exact qs_ret (o2.E cl _ n sc X x.ret _ _ _ a ha)
    · obtain ⟨t, ht, h⟩ := Option.bind_eq_some_iff.mp h
      obtain ⟨a, ha, h⟩ := Option.bind_eq_some_iff.mp h
      obtain ⟨b, hb, rfl⟩ := Option.map_eq_some_iff.mp h
      exact qs_ite (o.T cl _ n sc X x _ t ht) (ih _ a ha) (ih _ b hb)
    · obtain ⟨t, ht, h⟩ := Option.bind_eq_some_iff.mp h
      obtain ⟨b, hb, rfl⟩ := Option.map_eq_some_iff.mp h
      exact qs_whl d.hp (o.T cl _ n sc X x _ t ht) (ih _ b hb)
    · obtain ⟨h1, h⟩ := gd_some h
      obtain ⟨⟨ik, l⟩, hi, h⟩ := Option.bind_eq_some_iff.mp h
      obtain ⟨g, hg, h⟩ := Option.bind_eq_some_iff.mp h
      obtain ⟨b, hb, rfl⟩ := Option.map_eq_some_iff.mp h
      exact qs_for d.hp x.calm (trI_ok o x hi) (trG_ok x.sc x.N x.nd x.calm (fun y _ => d.fn y) 4 _ g hg) (ih _ b hb) (folded_pure (by simpa using h1))
    · cases h; exact qs_brk
    · cases h; exact qs_cnt
    · cases h; exact qs_pass
    · cases h; exact qs_never
    · cases h
end
end Qq

set_option maxHeartbeats 400000
/-! Q12: all defs. -/
namespace Qq
open PySem PySem.Spec PyProof.Rows L2

section
variable {K : PySem.W.Frag} {B G H : Hp} {m : List Addr} {S : Sto}
theorem pre_get {m m' : List Addr} {i : Nat} {a : Addr} (h : m <+: m') (e : m'[i]? = some a) (hi : i < m.length) : m[i]? = some a := by
  obtain ⟨r, rfl⟩ := h
  rw [List.getElem?_append_left hi] at e
  exact e
theorem fin_o {kp : Bool} {n i : Nat} {S : Sto} : fin kp n (.ret (.o i)) S = if i < n then .ok (.o i) (S.take n) else match S[i]? with
    | some (.lst xs) => if kp then .ok (.o n) (S.take n ++ [.lst xs]) else .ok (.t (.lst xs)) (S.take n)
    | some (.dK xs) => if kp then .ok (.o n) (S.take n ++ [.dK xs]) else .ok (.t (.dK xs)) (S.take n)
    | some (.dT xs) => if kp then .ok (.o n) (S.take n ++ [.dT xs]) else .ok (.t (.dT xs)) (S.take n)
    | some (.gon t) => .ok (.t t) (S.take n)
    | _ => .bad := rfl
/-- what a def hands back -/
theorem fin_post {E : XK} {W : WX} {σ σ2 : L2.St} {kp : Bool} {Q : VK} {D : Ends} (hD : D = { nx := fun _ H' => Q .non H', rt := Q }) (hl : m.length = S.length) {r : R (Fl × Env)}
    (q : Post K B W σ G m (RD K) Q ((r.bind fun fr S' => fin kp S.length fr.1 S').cut (S.length + 1))) : Post K B (EW E) σ2 G m (RS K) (QS D) r := by
  subst hD
  cases r with
  | bad => exact q.elim
  | exc x S' => exact fun c dd H' G' m' _ _ _ z => False.elim z
  | ok a S' =>
    obtain ⟨fl, r'⟩ := a
    rintro ⟨fv, σ'⟩ H' G' m' h1 h2 h3 ⟨h4, h5⟩
    have hle : S.length ≤ S'.length := by
      obtain ⟨z, rfl⟩ := h1
      have := h3.len
      rw [List.length_append] at this
      omega
    replace q : Post K B W σ G m (RD K) Q (R.cut (S.length + 1) (fin kp S.length fl S')) := q
    have P1 : Pre K B G' m (S'.take S.length) H' := by
      have := h3.take m.length
      rw [take_pre h1, hl] at this
      exact this
    have cutT : ∀ d : D, R.cut (S.length + 1) (.ok d (S'.take S.length)) = (.ok d (S'.take S.length) : R D) := fun d => by
      show R.ok d ((S'.take S.length).take (S.length + 1)) = _
      rw [List.take_take]
      congr 2
      omega
    have cutA : ∀ (d : D) (c : Cl), R.cut (S.length + 1) (.ok d (S'.take S.length ++ [c])) = (.ok d (S'.take S.length ++ [c]) : R D) := fun d c => by
      show R.ok d ((S'.take S.length ++ [c]).take (S.length + 1)) = _
      rw [List.take_of_length_le]
      rw [List.length_append, List.length_take]
      simp; omega
    cases fl with
    | brk => exact q.elim
    | cnt => exact q.elim
    | nx =>
      cases fv with
      | nx =>
        have q : Post K B W σ G m (RD K) Q (R.cut (S.length + 1) (.ok (.t .non) (S'.take S.length))) := q
        rw [cutT] at q
        exact q .non H' G' m (pre_rfl m) h2 P1 (.t .non)
      | brk => exact h5.elim
      | cnt => exact h5.elim
      | ret v => exact h5.elim
    | ret d =>
      cases fv with
      | nx => exact h5.elim
      | brk => exact h5.elim
      | cnt => exact h5.elim
      | ret v =>
        replace h5 : RpD K G' m' d v := h5
        show Q v H'
        cases h5 with
        | t h5 =>
          rename_i t
          have q : Post K B W σ G m (RD K) Q (R.cut (S.length + 1) (.ok (.t t) (S'.take S.length))) := q
          rw [cutT] at q
          exact q v H' G' m (pre_rfl m) h2 P1 (.t h5)
        | o h5 =>
          rename_i i a
          by_cases hi : i < S.length
          · rw [fin_o, if_pos hi, cutT] at q
            exact q _ H' G' m (pre_rfl m) h2 P1 (.o (pre_get h1 h5 (by omega)))
          · rw [fin_o, if_neg hi] at q
            have hi' : S.length ≤ i := by omega
            have key : ∀ (c : Cl) (t : T) (o : HO), S'[i]? = some c → (∀ c0, c ≠ .lck c0) → c.gonB = false → CellOk K G' c o → H' a = some o → (∀ ob u, o ≠ .frz ob u) → (∀ G2, Fz G' G2 → G2 a = some o → Rp K G2 (.ref a) t) →
                Post K B W σ G m (RD K) Q (R.cut (S.length + 1) (if kp then .ok (.o S.length) (S'.take S.length ++ [c]) else .ok (.t t) (S'.take S.length))) → Q (.ref a) H' := by
              intro c t o hc hn hgn hok ho hz hrp q
              obtain ⟨ga, _⟩ := (h3.cells i c a hc h5).live hgn
              have ham : a ∉ m := fun hm => by
                obtain ⟨j, hj⟩ := List.getElem?_of_mem hm
                have hj2 := getElem?_pre h1 hj
                have hjl : j < m.length := (List.getElem?_eq_some_iff.mp hj).1
                have : j = i := by
                  obtain ⟨hj3, e3⟩ := List.getElem?_eq_some_iff.mp hj2
                  obtain ⟨hi3, e4⟩ := List.getElem?_eq_some_iff.mp h5
                  have pw := List.pairwise_iff_getElem.mp h3.nd
                  rcases Nat.lt_trichotomy j i with z | z | z
                  · exact absurd (e3.trans e4.symm) (pw j i hj3 hi3 z)
                  · exact z
                  · exact absurd (e4.trans e3.symm) (pw i j hi3 hj3 z)
                omega
              have hB : B a = none := by
                cases e : B a with
                | none => rfl
                | some o' =>
                  obtain ⟨_, _, z⟩ := h3.hid a o' e
                  obtain ⟨c0, hc0⟩ := z i h5
                  rw [hc] at hc0
                  exact absurd (Option.some.inj hc0) (hn c0)
              cases kp with
              | true =>
                rw [if_pos rfl, cutA] at q
                refine q (.ref a) H' G' (m ++ [a]) ⟨[a], rfl⟩ h2 (P1.ownAt ho ga ham hB hok) (.o ?_)
                rw [← hl, List.getElem?_append_right (Nat.le_refl _), Nat.sub_self]; rfl
              | false =>
                rw [if_neg Bool.false_ne_true, cutT] at q
                obtain ⟨f1, P2⟩ := P1.frzAt ho ga ham hB hz
                exact q (.ref a) H' _ m (pre_rfl m) (h2.trans f1) P2 (.t (hrp _ f1 upd_same))
            split at q
            · rename_i xs hc
              obtain ⟨ga, o, ho, hok⟩ := (h3.cells i _ a hc h5).live rfl
              have hok2 := hok
              cases hok with
              | lst hr => exact key _ (.lst xs) _ hc (fun _ z => by cases z) rfl hok2 ho (fun ob u z => by cases z) (fun G2 f hG => .lst (.inl hG) (hr.mono f)) q
            · rename_i xs hc
              obtain ⟨ga, o, ho, hok⟩ := (h3.cells i _ a hc h5).live rfl
              have hok2 := hok
              cases hok with
              | dK hr => exact key _ (.dK xs) _ hc (fun _ z => by cases z) rfl hok2 ho (fun ob u z => by cases z) (fun G2 f hG => .dK (.inl hG) (hr.mono f)) q
            · rename_i xs hc
              obtain ⟨ga, o, ho, hok⟩ := (h3.cells i _ a hc h5).live rfl
              have hok2 := hok
              cases hok with
              | dT hr => exact key _ (.dT xs) _ hc (fun _ z => by cases z) rfl hok2 ho (fun ob u z => by cases z) (fun G2 f hG => .dT (.inl hG) (hr.mono f)) q
            · rename_i t hc
              rcases h3.cells i _ a hc h5 with ⟨_, o, ho, hok⟩ | ⟨⟨t', e, rr⟩, _⟩
              · cases hok
              · cases e
                rw [cutT] at q
                exact q _ H' G' m (pre_rfl m) h2 P1 (.t rr)
            · exact q.elim
end

/-- a def of the text -/
structure Df where
  x : Str
  st : Stmt
  ps : List Str
  N : List Str
  own : List Str
  tks : List Str
  kp : Bool
  cs : List (Str × T)
def Df.gm (d : Df) (fns : List (Str × (Nat × Nat))) (kws : List ((Str × Nat × List Str) × (Nat × List Nat))) : Gm := ⟨d.N, fns, kws, d.own, d.tks, d.kp, d.cs, [], d.own.filter fun x => decide (x ∉ d.ps)⟩
def Df.tr (d : Df) (fns : List (Str × (Nat × Nat))) (kws : List ((Str × Nat × List Str) × (Nat × List Nat))) : Option FI :=
  (trSs (trS (d.gm fns kws) (trs (d.gm fns kws) 14) (defScope d.st) (trs (d.gm fns kws).ret 14) 10) (defBody d.st)).map fun b => ⟨d.ps.length, d.N.length, d.kp, b⟩
def fnsOf (ds : List Df) : List (Str × (Nat × Nat)) := go 0 ds
where go (i : Nat) : List Df → List (Str × (Nat × Nat))
  | [] => []
  | d :: r => (d.x, (i, d.ps.length)) :: go (i + 1) r
theorem fnsOf_go : ∀ (ds : List Df) (i : Nat) (x : Str) (f np : Nat), (fnsOf.go i ds).lookup x = some (f, np) → ∃ k d, f = i + k ∧ ds[k]? = some d ∧ d.x = x ∧ np = d.ps.length
  | [], _, _, _, _, h => by cases h
  | d :: r, i, x, f, np, h => by
    unfold fnsOf.go at h
    rw [List.lookup_cons] at h
    split at h
    · rename_i e
      cases h
      exact ⟨0, d, rfl, rfl, (eq_of_beq e).symm, rfl⟩
    · obtain ⟨k, d', h1, h2, h3, h4⟩ := fnsOf_go r (i + 1) x f np h
      exact ⟨k + 1, d', by omega, by rw [List.getElem?_cons_succ]; exact h2, h3, h4⟩
def scopeB (N ps : List Str) (sc : Scope) : Bool := decide (sc.kind = .function) && !sc.isCoroutine && !sc.isGenerator && decide N.Nodup && decide (N.take ps.length = ps) && ps.all (fun x => decide (sc.names.lookup x = some .local ∨ sc.names.lookup x = some .cell)) && sc.names.all (fun y => decide (y.2 ≠ .free))
theorem scopeB_ok {N ps : List Str} {sc : Scope} (h : scopeB N ps sc = true) : FnScope N ps sc := by
  unfold scopeB at h
  rw [Bool.and_eq_true, Bool.and_eq_true, Bool.and_eq_true, Bool.and_eq_true, Bool.and_eq_true, Bool.and_eq_true] at h
  obtain ⟨⟨⟨⟨⟨⟨h1, h2⟩, h3⟩, h4⟩, h5⟩, h6⟩, h7⟩ := h
  exact ⟨of_decide_eq_true h1, by simpa using h2, by simpa using h3, of_decide_eq_true h4, of_decide_eq_true h5, fun x hx => of_decide_eq_true (List.all_eq_true.mp h6 x hx), fun y hy => of_decide_eq_true (List.all_eq_true.mp h7 y hy)⟩
/-- what the top has written of a def -/
structure DfAt (K : PySem.W.Frag) (mg : Str → Option Value) (d : Df) : Prop where
  ex : ∃ a fd, mg d.x = some (.ref a) ∧ Fun K d.x d.x d.st a fd
  bd : ∀ (kV doc pm : Value) (an : Option Addr) (cdv ct : Value) (us : List Value), us.length = d.ps.length → bindArgs (PySem.W.fnOf d.x d.x (defArgs d.st) (defBody d.st) (defScope d.st) .none kV doc pm an cdv ct) ⟨us, []⟩ = pure (d.ps.zip us)
  cs : ∀ x t, d.cs.lookup x = some t → ∃ v u, mg x = some u ∧ RelV v u ∧ ∀ G, Rp K G v t
structure KwOk (ds : List Df) (q : (Str × Nat × List Str) × (Nat × List Nat)) : Prop where
  ex : ∃ d, ds[q.2.1]? = some d ∧ d.x = q.1.1 ∧ d.ps.length = q.2.2.length ∧ ∀ (kV doc pm : Value) (an : Option Addr) (cdv ct : Value) (us ws : List Value), us.length = q.1.2.1 → ws.length = q.1.2.2.length →
    bindArgs (PySem.W.fnOf d.x d.x (defArgs d.st) (defBody d.st) (defScope d.st) .none kV doc pm an cdv ct) ⟨us, q.1.2.2.zip ws⟩ = pure (d.ps.zip (q.2.2.map fun j => (us ++ ws).getD j .none))
  pos : q.2.2 ≠ []
theorem callF_len {fs : List FI} {wf : Nat} {pm : Nat → List D → List D → Option (List D)} {n f : Nat} {F : FI} (hF : fs[f]? = some F) {ds : List D} {S : Sto} (h : ds.length ≠ F.np) : callF fs wf pm n f ds S = .bad := by
  cases n with
  | zero => rfl
  | succ n =>
    unfold callF
    rw [hF]
    exact if_neg h
/-- all defs do what is said in short -/
theorem all_ok {P : Program} {w : World} {K : PySem.W.Frag} {mg : Str → Option Value} {base : Heap} {ds : List Df} {fs : List FI} {kws : List ((Str × Nat × List Str) × (Nat × List Nat))} {wf : Nat}
    (hd : ∀ (i : Nat) d, ds[i]? = some d → DfAt K mg d) (ht : ∀ (i : Nat) d, ds[i]? = some d → ∃ F, fs[i]? = some F ∧ d.tr (fnsOf ds) kws = some F ∧ scopeB d.N d.ps (defScope d.st) = true)
    (hk : ∀ q ∈ kws, KwOk ds q) (hb : ∀ x, bltOnes.contains x = true → mg x = none) :
    ∀ (n i : Nat) d, ds[i]? = some d → ∀ a fd, mg d.x = some (.ref a) → Fun K d.x d.x d.st a fd → FnOk P w K mg base (L2.CX P w) n a fd d.ps (spF K (callF fs wf (pmT kws) n) i d.ps.length) := by
  intro n
  induction n with
  | zero =>
    intro i d hi a fd hm F
    refine ⟨fun vs H Q E h => ?_, fun A outer s H args us vs Q E hr e0 hb hv h => ?_⟩
    · obtain ⟨B, G, m, S, dd, hl, hp, hr, q⟩ := h
      exact q.elim
    · obtain ⟨B, G, m, S, dd, hl, hp, hr, q⟩ := h
      exact q.elim
  | succ n ih =>
    intro i d hi a fd hm F
    obtain ⟨FI, hFI, htr, hsc⟩ := ht i d hi
    have SC := scopeB_ok hsc
    obtain ⟨body, hbody, rfl⟩ := Option.map_eq_some_iff.mp htr
    refine F.okX SC (fun vs H Q E h => ?_) fun cdv A outer s H vs Q E hr h => ?_
    · obtain ⟨B, G, m, S, dd, hl, hp, hr, q⟩ := h
      rw [← hr.length]; exact hl
    · obtain ⟨B, G, m, S, dd, hl, hp, hrp, q⟩ := h
      have hX : CtxOk (d.gm (fnsOf ds) kws) (callF fs wf (pmT kws) n) (EW E) n (defScope d.st) (cxOf (L2.CX P w) P w K mg base d.N d.x (defScope d.st) a cdv A outer s H E) := {
        sc := rfl
        N := rfl
        nd := SC.nd
        calm := rfl
        room := hr
        fn := fun x f np hx => by
          obtain ⟨k, d', e1, e2, e3, e4⟩ := fnsOf_go ds 0 x f np hx
          subst e3 e4
          have e1 : f = k := by omega
          subst e1
          obtain ⟨a', fd', hm', F'⟩ := (hd f d' e2).ex
          have ok' := ih f d' e2 a' fd' hm' F'
          obtain ⟨FI', hF', htr', _⟩ := ht f d' e2
          obtain ⟨b', _, rfl⟩ := Option.map_eq_some_iff.mp htr'
          exact ⟨⟨a', fd', d'.ps, hm', F'.kp, F'.binds (hd f d' e2).bd, ok'⟩, fun dd S hl => callF_len hF' hl⟩
        kw := fun g x p ks f ix hg => by
          obtain ⟨⟨d', e2, e3, e4, hbd⟩, hpos⟩ := hk _ (List.mem_of_getElem? hg)
          have e2 : ds[f]? = some d' := e2
          have e3 : d'.x = x := e3
          have e4 : d'.ps.length = ix.length := e4
          obtain ⟨a', fd', hm', F'⟩ := (hd f d' e2).ex
          have ok' := ih f d' e2 a' fd' hm' F'
          obtain ⟨FI', hF', htr', _⟩ := ht f d' e2
          obtain ⟨b', _, rfl⟩ := Option.map_eq_some_iff.mp htr'
          refine ⟨⟨⟨a', fd', d'.ps, by rw [← e3]; exact hm', F'.kp, by rw [← e4]; exact ok', e4, fun s us ws h1 h2 => ?_⟩, hpos⟩, fun dd S hl => callF_len hF' (by rw [← e4] at hl; exact hl)⟩
          obtain ⟨oc, od, kV, doc, pm, an, cdv', ct, osl, rfl, lk, hcd⟩ := F'.ex
          exact .of_eq (hbd kV doc pm an cdv' ct us ws h1 h2)
        bl := hb
        tk := takes_of rfl rfl rfl rfl
        cs := (hd i d hi).cs }
      have hDef : DefOk (defScope d.st) (cxOf (L2.CX P w) P w K mg base d.N d.x (defScope d.st) a cdv A outer s H E) := ⟨SC.kind, fun _ => rfl, passes_of rfl⟩
      refine ⟨_, trSs_ok (wf := wf) (trS_ok (trs_ok _ 14) (trs_ok _ 14) hX hDef 10) _ body hbody, B, G, m, S, dd.map some ++ List.replicate (d.N.length - d.ps.length) none, hp, ?_, ?_⟩
      · have hvl := hrp.length
        refine ⟨?_, fun j d' h => ?_⟩
        · unfold L2.start
          rw [List.length_append, List.length_append, List.length_map, List.length_map, List.length_replicate, List.length_replicate, ← hvl, hl]
        · have go : ∀ {dd : List D} {vs : List V}, RpDs K G m dd vs → ∀ (j : Nat) (d' : D), (dd.map some ++ List.replicate (d.N.length - d.ps.length) none)[j]? = some (some d') → ∀ k, ∃ v, (vs.map some ++ List.replicate k none)[j]? = some (some v) ∧ RpD K G m d' v := by
            intro dd vs hr
            induction hr with
            | nil =>
              intro j d' h k
              rw [List.map_nil, List.nil_append] at h
              have := List.mem_of_getElem? h
              rw [List.mem_replicate] at this
              cases this.2
            | cons h1 h2 ih =>
              intro j d' h k
              cases j with
              | zero =>
                cases h
                exact ⟨_, rfl, h1⟩
              | succ j => exact ih j d' h k
          exact go hrp j d' h _
      · have q2 : Post K B (fun c d _ H => E c d H) [] G m (RD K) Q (callF fs wf (pmT kws) (n + 1) i dd S) := q
        unfold callF at q2
        rw [hFI] at q2
        have q3 : Post K B (fun c d _ H => E c d H) [] G m (RD K) Q (if dd.length = d.ps.length then ((exec wf (callF fs wf (pmT kws) n) (pmT kws) body (dd.map some ++ List.replicate (d.N.length - d.ps.length) none) S).bind fun fr S' => fin d.kp S.length fr.1 S').cut (S.length + 1) else .bad) := q2
        rw [if_pos hl] at q3
        exact fin_post rfl hp.len q3
theorem ht_of {ds : List Df} {fs : List FI} {kws : List ((Str × Nat × List Str) × (Nat × List Nat))} (h : ds.map (fun d => d.tr (fnsOf ds) kws) = fs.map some) (s : ds.all (fun d => scopeB d.N d.ps (defScope d.st)) = true) :
    ∀ (i : Nat) d, ds[i]? = some d → ∃ F, fs[i]? = some F ∧ d.tr (fnsOf ds) kws = some F ∧ scopeB d.N d.ps (defScope d.st) = true := fun i d hi => by
  have e : (ds.map (fun d => d.tr (fnsOf ds) kws))[i]? = (fs.map some)[i]? := by rw [h]
  rw [List.getElem?_map, List.getElem?_map, hi] at e
  cases hf : fs[i]? with
  | none => rw [hf] at e; cases e
  | some F =>
    rw [hf] at e
    exact ⟨F, rfl, Option.some.inj e, List.all_eq_true.mp s d (List.mem_of_getElem? hi)⟩
theorem dfAt {K : PySem.W.Frag} {h : Heap} {mg : Str → Option Value} (X : K.In h) (G : h.Ns mainGlobals mg) {d : Df} {f : Addr} {oc kV dc pm cd ct : Value} {od an : Option Addr} {sl : Array (Option Value)}
    (a : PySem.W.nsIn K mainGlobals d.x = some (some (.ref f))) (l : K.lookup f = some ⟨oc, od, .func (PySem.W.fnOf d.x d.x (defArgs d.st) (defBody d.st) (defScope d.st) .none kV dc pm an cd ct), sl⟩) (c : PySem.W.codeIn K cd d.x = true) (k : PySem.W.keepIn K (.ref f) = true)
    (bd : ∀ (kV doc pm : Value) (an : Option Addr) (cdv ct : Value) (us : List Value), us.length = d.ps.length → bindArgs (PySem.W.fnOf d.x d.x (defArgs d.st) (defBody d.st) (defScope d.st) .none kV doc pm an cdv ct) ⟨us, []⟩ = pure (d.ps.zip us)) (cs : ∀ x t, d.cs.lookup x = some t → ∃ v u, mg x = some u ∧ RelV v u ∧ ∀ G, Rp K G v t) : DfAt K mg d :=
  ⟨⟨f, _, PySem.W.mg_of X G a, fun_mk l c k⟩, bd, cs⟩
/-- the constants of the module that a def reads -/
def CsOk (K : PySem.W.Frag) (mg : Str → Option Value) (cs : List (Str × T)) : Prop := ∀ x t, cs.lookup x = some t → ∃ v u, mg x = some u ∧ RelV v u ∧ ∀ G, Rp K G v t
theorem cs_nil {K : PySem.W.Frag} {mg : Str → Option Value} : CsOk K mg [] := fun x t h => by cases h
theorem cs_str {K : PySem.W.Frag} {h : Heap} {mg : Str → Option Value} {cs : List (Str × T)} {x z : Str} {k : Tok} (X : K.In h) (G : h.Ns mainGlobals mg) (a : PySem.W.nsIn K mainGlobals x = some (some (.str z k))) (r : CsOk K mg cs) : CsOk K mg ((x, .str z) :: cs) := fun y t e => by
  rw [List.lookup_cons] at e
  split at e
  · rename_i hy
    cases e
    have : y = x := eq_of_beq hy
    subst this
    exact ⟨.str z, _, PySem.W.mg_of X G a, ⟨k, rfl⟩, fun _ => .str z⟩
  · exact r y t e
theorem cs_int {K : PySem.W.Frag} {h : Heap} {mg : Str → Option Value} {cs : List (Str × T)} {x : Str} {z : Int} {k : Tok} (X : K.In h) (G : h.Ns mainGlobals mg) (a : PySem.W.nsIn K mainGlobals x = some (some (.int z k))) (r : CsOk K mg cs) : CsOk K mg ((x, .int z) :: cs) := fun y t e => by
  rw [List.lookup_cons] at e
  split at e
  · rename_i hy
    cases e
    have : y = x := eq_of_beq hy
    subst this
    exact ⟨.int z, _, PySem.W.mg_of X G a, ⟨k, rfl⟩, fun _ => .int z⟩
  · exact r y t e
theorem passLQ {P : Program} {w : World} {H : Hp} {s s' : Shared} {e : Value} (h : L2.CX P w [] H s (fun _ _ _ => False) e s') : False := by
  obtain ⟨_, _, _, _, _, _, _, _, _, _, _, _, z⟩ := h
  exact z.elim
/-- the law's script -/
theorem spF_law {K : PySem.W.Frag} {cl : Nat → List D → Sto → R D} {f : Nat} {H : Hp} {a : Addr} {ns : List Int} (h : SqL K H a (ns.map V.int)) (q : ∃ S, cl f [.t (.scr ns)] [] = .ok (.t (.bl true)) S) :
    spF K cl f 1 [.ref a] H (fun v _ => v = .bl true) fun _ _ _ => False := by
  obtain ⟨S, q⟩ := q
  refine ⟨fun _ => none, H, [], [], [.t (.scr ns)], rfl, ⟨fun a o z => (nomatch z), Fz.refl H, rfl, List.nodup_nil, fun i c a z => (by simp at z)⟩, .cons (.t (.scr h)) .nil, ?_⟩
  rw [q]
  intro v H' G' m' _ _ _ r
  exact bl_inv r
theorem walkQ {l : PySem.W.OpenLaw} {q : Program} {loose : List Str} {XP : (Str → Option Value) → Heap → Prop} {YP : World → Heap → Prop} {d : DefRec} {K : Params → PySem.W.Frag} {fs : List FI} {pm : Nat → List D → List D → Option (List D)} {wf n f : Nat} {x : Str}
    (hn : l.most = some 63) (hdf : d.params.defaults = []) (hr : Room n callerA) (hY : ∀ (w : World) (h : Heap), YP w h → (K w.params).In h)
    (F : ∀ (w : World) (mg : Str → Option Value) (fa : Addr) (h : Heap), (K w.params).In h → h.Ns mainGlobals mg → mg d.name = some (.ref fa) →
      ∃ fd : FuncData, (∀ (s : Shared) (u : Value), BindsTo s fd ⟨[u], []⟩ [(x, u)]) ∧ ∀ base : Heap, (K w.params).In base → base.Ns mainGlobals mg → FnOk l.prog w (K w.params) mg base (L2.CX l.prog w) n fa fd [x] (spF (K w.params) (callF fs wf pm n) f 1))
    (hlaw : ∀ ns : List Int, ns.length ≤ 63 → (∀ z ∈ ns, Builtin.Int.intBits z ≤ 1048576) → ∃ S, callF fs wf pm n f [.t (.scr ns)] [] = .ok (.t (.bl true)) S) : PySem.W.WalkO q loose XP YP l.row.toRowW d [] (fun f vs => PySem.call f vs) :=
  L2.walk_ofB (n := 63) (k := n) (x := x) (CX := fun w => L2.CX l.prog w) (sp := fun w => spF (K w.params) (callF fs wf pm n) f 1) hn (by decide) hdf hr hY F (fun _ _ a ns hl hb _ hS => spF_law hS (hlaw ns hl hb)) fun _ _ _ _ _ z => passLQ z
end Qq

set_option maxHeartbeats 400000
/-! Q13: a def read with less known of what it calls. -/
namespace Qq
open PySem PySem.Spec PyProof.Rows L2

def RLe {α : Type} (r r' : R α) : Prop := r = .bad ∨ r = r'
def Le (cl cl' : Nat → List D → Sto → R D) : Prop := ∀ f ds S, RLe (cl f ds S) (cl' f ds S)
section
variable {α β : Type}
theorem RLe.refl (r : R α) : RLe r r := .inr rfl
theorem RLe.bind {r r' : R α} {f f' : α → Sto → R β} (h : RLe r r') (k : ∀ a S, RLe (f a S) (f' a S)) : RLe (r.bind f) (r'.bind f') := by
  rcases h with h | h
  · subst h; exact .inl rfl
  · subst h
    cases r with
    | ok a S => exact k a S
    | exc x S => exact .inr rfl
    | bad => exact .inl rfl
theorem RLe.nox {r r' : R α} (h : RLe r r') : RLe r.nox r'.nox := by
  rcases h with h | h
  · subst h; exact .inl rfl
  · subst h; exact .inr rfl
theorem RLe.cut {r r' : R α} (n : Nat) (h : RLe r r') : RLe (r.cut n) (r'.cut n) := by
  rcases h with h | h
  · subst h; exact .inl rfl
  · subst h; exact .inr rfl
theorem RLe.ok {r r' : R α} {a : α} {S : Sto} (h : RLe r r') (e : r = .ok a S) : r' = .ok a S := by
  rcases h with h | h
  · rw [h] at e; cases e
  · rw [← h]; exact e
end
theorem compGo_le {α : Type} {f f' : T → Sto → R (Option α)} (h : ∀ d S, RLe (f d S) (f' d S)) : ∀ (ds : List T) (S : Sto), RLe (compGo f ds S) (compGo f' ds S)
  | [], S => .inr rfl
  | d :: ds, S => by
    unfold compGo
    exact (h d S).bind fun o S1 => (compGo_le h ds S1).bind fun _ _ => .inr rfl
theorem forGo_le {f f' : T → Env → Sto → R (Fl × Env)} (h : ∀ d r S, RLe (f d r S) (f' d r S)) : ∀ (ds : List T) (r : Env) (S : Sto), RLe (forGo f ds r S) (forGo f' ds r S)
  | [], r, S => .inr rfl
  | d :: ds, r, S => by
    unfold forGo
    refine (h d r S).bind fun fr S1 => ?_
    obtain ⟨fl, r1⟩ := fr
    cases fl with
    | nx => exact forGo_le h ds r1 S1
    | cnt => exact forGo_le h ds r1 S1
    | brk => exact .inr rfl
    | ret d => exact .inr rfl
theorem whlGo_le {t t' : Env → Sto → R Bool} {f f' : Env → Sto → R (Fl × Env)} (ht : ∀ r S, RLe (t r S) (t' r S)) (h : ∀ r S, RLe (f r S) (f' r S)) : ∀ (n : Nat) (r : Env) (S : Sto), RLe (whlGo t f n r S) (whlGo t' f' n r S)
  | 0, r, S => .inr rfl
  | n + 1, r, S => by
    unfold whlGo
    refine (ht r S).bind fun b S1 => ?_
    cases b with
    | false => exact .inr rfl
    | true =>
      refine (h r S1).bind fun fr S2 => ?_
      obtain ⟨fl, r1⟩ := fr
      cases fl with
      | nx => exact whlGo_le ht h n r1 S2
      | cnt => exact whlGo_le ht h n r1 S2
      | brk => exact .inr rfl
      | ret d => exact .inr rfl
section
variable {cl cl' : Nat → List D → Sto → R D} (pm : Nat → List D → List D → Option (List D)) (h : Le cl cl')
include h
theorem ev_le : ∀ (c : C) (r : Env) (S : Sto), RLe (ev cl pm c r S) (ev cl' pm c r S)
  | .var _, _, _ => .inr rfl
  | .cst _, _, _ => .inr rfl
  | .bin _ _ a b, r, S => (ev_le a r S).bind fun _ S => (ev_le b r S).bind fun _ _ => .inr rfl
  | .neg a, r, S => (ev_le a r S).bind fun _ _ => .inr rfl
  | .cmp _ a b, r, S => (ev_le a r S).bind fun _ S => (ev_le b r S).bind fun _ _ => .inr rfl
  | .chn _ _ a b c, r, S => (ev_le a r S).bind fun _ S => (ev_le b r S).bind fun _ S => (RLe.refl _).bind fun k S => by
      cases k with
      | false => exact .inr rfl
      | true => exact (ev_le c r S).bind fun _ _ => .inr rfl
  | .andV a b, r, S => (ev_le a r S).bind fun _ S => (RLe.refl _).bind fun k S => by
      cases k with
      | false => exact .inr rfl
      | true => exact ev_le b r S
  | .orV a b, r, S => (ev_le a r S).bind fun _ S => (RLe.refl _).bind fun k S => by
      cases k with
      | true => exact .inr rfl
      | false => exact ev_le b r S
  | .notV a, r, S => (ev_le a r S).bind fun _ _ => .inr rfl
  | .ife t a b, r, S => (ev_le t r S).bind fun _ S => (RLe.refl _).bind fun k S => by
      cases k with
      | true => exact ev_le a r S
      | false => exact ev_le b r S
  | .tru a, r, S => (ev_le a r S).bind fun _ _ => .inr rfl
  | .tup l, r, S => (ev_le l r S).bind fun _ _ => .inr rfl
  | .lst _ l, r, S => (ev_le l r S).bind fun _ _ => .inr rfl
  | .nil, _, _ => .inr rfl
  | .cons a q, r, S => (ev_le a r S).bind fun _ S => (ev_le q r S).bind fun _ _ => .inr rfl
  | .call f l, r, S => (ev_le l r S).bind fun _ S => (RLe.refl _).bind fun ds S => h f ds S
  | .callk f g l k, r, S => (ev_le l r S).bind fun _ S => (ev_le k r S).bind fun _ S => (RLe.refl _).bind fun ds S => h f ds S
  | .bi _ _ l, r, S => (ev_le l r S).bind fun _ _ => .inr rfl
  | .isi a _ _, r, S => (ev_le a r S).bind fun _ _ => .inr rfl
  | .idx a b, r, S => (ev_le a r S).bind fun _ S => (ev_le b r S).bind fun _ _ => .inr rfl
  | .sl _ a _ _ b c, r, S => (ev_le a r S).bind fun _ S => (ev_le b r S).bind fun _ S => (RLe.refl _).bind fun _ S => (ev_le c r S).bind fun _ _ => .inr rfl
  | .mth _ o l, r, S => (ev_le o r S).bind fun _ S => (RLe.refl _).bind fun _ S => (ev_le l r S).bind fun _ _ => .inr rfl
  | .dct _ _, _, _ => .inr rfl
  | .frz a, r, S => (ev_le a r S).bind fun _ _ => .inr rfl
  | .rev a, r, S => (ev_le a r S).bind fun _ _ => .inr rfl
  | .spl a q, r, S => (ev_le a r S).bind fun _ S => (RLe.refl _).bind fun _ S => (ev_le q r S).bind fun _ _ => .inr rfl
  | .dsp _ a k v, r, S => (ev_le a r S).bind fun _ S => (RLe.refl _).bind fun _ S => (ev_le k r S).bind fun _ S => (RLe.refl _).bind fun _ S => (ev_le v r S).bind fun _ S => (RLe.refl _).bind fun _ _ => .inr rfl
  | .dcm fr vs g k l t ek e, r, S => by
    unfold ev
    refine (ev_le l r S).bind fun x S => (RLe.refl _).bind fun dis S => RLe.bind (compGo_le (fun d S0 => ?_) dis.2 _) fun _ _ => .inr rfl
    cases asgT g d (wip r vs) with
    | none => exact .inr rfl
    | some r' =>
      refine RLe.cut _ (RLe.nox ((ev_le t r' S0).bind fun x S => (RLe.refl _).bind fun k S => ?_))
      cases k with
      | false => exact .inr rfl
      | true => exact (ev_le ek r' S).bind fun y S => (RLe.refl _).bind fun _ S => (ev_le e r' S).bind fun _ _ => .inr rfl
  | .comp fr vs g k l t e, r, S => by
    unfold ev
    refine (ev_le l r S).bind fun x S => (RLe.refl _).bind fun dis S => RLe.bind (compGo_le (fun d S0 => ?_) dis.2 _) fun _ _ => .inr rfl
    cases asgT g d (wip r vs) with
    | none => exact .inr rfl
    | some r' =>
      refine RLe.cut _ (RLe.nox ((ev_le t r' S0).bind fun x S => (RLe.refl _).bind fun k S => ?_))
      cases k with
      | false => exact .inr rfl
      | true => exact (ev_le e r' S).bind fun _ _ => .inr rfl
theorem exec_le (wf : Nat) : ∀ (p : P) (r : Env) (S : Sto), RLe (exec wf cl pm p r S) (exec wf cl' pm p r S)
  | .nil, _, _ => .inr rfl
  | .seq a q, r, S => (exec_le wf a r S).bind fun fr S => by
      obtain ⟨fl, r1⟩ := fr
      cases fl with
      | nx => exact exec_le wf q r1 S
      | brk => exact .inr rfl
      | cnt => exact .inr rfl
      | ret d => exact .inr rfl
  | .asg _ c, r, S => (ev_le pm h c r S).bind fun _ _ => .inr rfl
  | .par _ l, r, S => (ev_le pm h l r S).bind fun _ _ => .inr rfl
  | .aug _ _ c, r, S => (RLe.refl _).bind fun _ S => (ev_le pm h c r S).bind fun _ _ => .inr rfl
  | .setI o i c, r, S => (ev_le pm h c r S).bind fun _ S => (ev_le pm h o r S).bind fun _ S => (ev_le pm h i r S).bind fun _ _ => .inr rfl
  | .drop c, r, S => (ev_le pm h c r S).bind fun _ _ => .inr rfl
  | .ret c, r, S => (ev_le pm h c r S).bind fun _ _ => .inr rfl
  | .retN, _, _ => .inr rfl
  | .ite t a b, r, S => (ev_le pm h t r S).bind fun _ S => (RLe.refl _).bind fun k S => by
      cases k with
      | true => exact exec_le wf a r S
      | false => exact exec_le wf b r S
  | .whl t b, r, S => by
    unfold exec
    exact whlGo_le (fun r S => (ev_le pm h t r S).bind fun _ _ => .inr rfl) (fun r S => exec_le wf b r S) wf r S
  | .for_ g k l b, r, S => by
    unfold exec
    refine (ev_le pm h l r S).bind fun x S => (RLe.refl _).bind fun dis S => RLe.bind (forGo_le (fun d r S => ?_) dis.2 r _) fun _ _ => .inr rfl
    cases asgT g d r with
    | none => exact .inr rfl
    | some r' => exact exec_le wf b r' S
  | .brk, _, _ => .inr rfl
  | .cnt, _, _ => .inr rfl
  | .pass, _, _ => .inr rfl
  | .never, _, _ => .inr rfl
end
/-- a def's body, by what is known of what it calls -/
def bodyF (wf : Nat) (cl : Nat → List D → Sto → R D) (pm : Nat → List D → List D → Option (List D)) (F : FI) (ds : List D) (S : Sto) : R D :=
  ((exec wf cl pm F.body (ds.map some ++ List.replicate (F.nn - F.np) none) S).bind fun fr S' => fin F.kp S.length fr.1 S').cut (S.length + 1)
theorem callF_of {fs : List FI} {wf : Nat} {pm : Nat → List D → List D → Option (List D)} {n f : Nat} {F : FI} {cl : Nat → List D → Sto → R D} {ds : List D} {S S' : Sto} {a : D} (hF : fs[f]? = some F) (hl : ds.length = F.np) (h : Le cl (callF fs wf pm n))
    (e : bodyF wf cl pm F ds S = .ok a S') : callF fs wf pm (n + 1) f ds S = .ok a S' := by
  unfold callF
  rw [hF]
  show (if ds.length = F.np then _ else _) = _
  rw [if_pos hl]
  exact RLe.ok (RLe.cut _ (RLe.bind (exec_le pm h wf F.body _ S) fun _ _ => .inr rfl)) e
theorem le_bad {cl : Nat → List D → Sto → R D} : Le (fun _ _ _ => .bad) cl := fun _ _ _ => .inl rfl
end Qq

set_option maxHeartbeats 400000
/-! Q14: rules of reckoning. -/
namespace Qq
open PySem PySem.Spec PyProof.Rows L2
section
variable {wf : Nat} {cl : Nat → List D → Sto → R D} {pm : Nat → List D → List D → Option (List D)}

@[simp] theorem ev_var (i : Nat) (r : Env) (S : Sto) : ev cl pm (.var i) r S = R.opt (match r[i]? with
    | some (some d) => some (see S d)
    | _ => none) S := rfl
@[simp] theorem ev_cst (d : T) (r : Env) (S : Sto) : ev cl pm (.cst d) r S = .ok (.t d) S := rfl
@[simp] theorem ev_bin (fr : Bool) (op : Operator) (a : C) (b : C) (r : Env) (S : Sto) : ev cl pm (.bin fr op a b) r S = (ev cl pm a r S).bind fun x S => (ev cl pm b r S).bind fun y S => (R.opt (match rd S x, rd S y with
    | some d, some e => binT op d e
    | _, _ => none) S).bind fun t S => own fr t S := rfl
@[simp] theorem ev_neg (a : C) (r : Env) (S : Sto) : ev cl pm (.neg a) r S = (ev cl pm a r S).bind fun x S => R.opt (match rd S x with
    | some (.int i) => some (.t (.int (-i)))
    | _ => none) S := rfl
@[simp] theorem ev_cmp (op : CmpOp) (a : C) (b : C) (r : Env) (S : Sto) : ev cl pm (.cmp op a b) r S = (ev cl pm a r S).bind fun x S => (ev cl pm b r S).bind fun y S => R.opt (match rd S x, rd S y with
    | some d, some e => (cmpT op d e).map fun b => .t (.bl b)
    | _, _ => none) S := rfl
@[simp] theorem ev_chn (op : CmpOp) (op2 : CmpOp) (a : C) (b : C) (c : C) (r : Env) (S : Sto) : ev cl pm (.chn op op2 a b c) r S = (ev cl pm a r S).bind fun x S => (ev cl pm b r S).bind fun y S => (R.opt (match rd S x, rd S y with
    | some d, some e => cmpT op d e
    | _, _ => none) S).bind fun k S => match k with
      | false => .ok (.t (.bl false)) S
      | true => (ev cl pm c r S).bind fun z S => R.opt (match rd S y, rd S z with
        | some d, some e => (cmpT op2 d e).map fun b => .t (.bl b)
        | _, _ => none) S := rfl
@[simp] theorem ev_andV (a : C) (b : C) (r : Env) (S : Sto) : ev cl pm (.andV a b) r S = (ev cl pm a r S).bind fun x S => (R.opt ((rd S x).bind truT) S).bind fun k S => match k with
    | true => ev cl pm b r S
    | false => .ok x S := rfl
@[simp] theorem ev_orV (a : C) (b : C) (r : Env) (S : Sto) : ev cl pm (.orV a b) r S = (ev cl pm a r S).bind fun x S => (R.opt ((rd S x).bind truT) S).bind fun k S => match k with
    | true => .ok x S
    | false => ev cl pm b r S := rfl
@[simp] theorem ev_notV (a : C) (r : Env) (S : Sto) : ev cl pm (.notV a) r S = (ev cl pm a r S).bind fun x S => R.opt (((rd S x).bind truT).map fun k => .t (.bl (!k))) S := rfl
@[simp] theorem ev_ife (t : C) (a : C) (b : C) (r : Env) (S : Sto) : ev cl pm (.ife t a b) r S = (ev cl pm t r S).bind fun x S => (R.opt x.bool S).bind fun k S => match k with
    | true => ev cl pm a r S
    | false => ev cl pm b r S := rfl
@[simp] theorem ev_tru (a : C) (r : Env) (S : Sto) : ev cl pm (.tru a) r S = (ev cl pm a r S).bind fun x S => R.opt (((rd S x).bind truT).map fun k => .t (.bl k)) S := rfl
@[simp] theorem ev_tup (l : C) (r : Env) (S : Sto) : ev cl pm (.tup l) r S = (ev cl pm l r S).bind fun x S => R.opt (match x.ls.bind trL with
    | some ts => if ts.length ≤ line then some (.t (.tup ts)) else none
    | none => none) S := rfl
@[simp] theorem ev_lst (fr : Bool) (l : C) (r : Env) (S : Sto) : ev cl pm (.lst fr l) r S = (ev cl pm l r S).bind fun x S => (R.opt (match x.ls.bind trL with
    | some ts => if ts.length ≤ line then some ts else none
    | none => none) S).bind fun ts S => own fr (.lst ts) S := rfl
@[simp] theorem ev_nil  (r : Env) (S : Sto) : ev cl pm (.nil) r S = .ok (.l []) S := rfl
@[simp] theorem ev_cons (a : C) (q : C) (r : Env) (S : Sto) : ev cl pm (.cons a q) r S = (ev cl pm a r S).bind fun x S => (ev cl pm q r S).bind fun y S => R.opt (y.ls.map fun ds => .l (x :: ds)) S := rfl
@[simp] theorem ev_call (f : Nat) (l : C) (r : Env) (S : Sto) : ev cl pm (.call f l) r S = (ev cl pm l r S).bind fun x S => (R.opt x.ls S).bind fun ds S => cl f ds S := rfl
@[simp] theorem ev_callk (f : Nat) (g : Nat) (l : C) (k : C) (r : Env) (S : Sto) : ev cl pm (.callk f g l k) r S = (ev cl pm l r S).bind fun x S => (ev cl pm k r S).bind fun y S => (R.opt (match x.ls, y.ls with
    | some ds, some es => pm g ds es
    | _, _ => none) S).bind fun ds S => cl f ds S := rfl
@[simp] theorem ev_bi (fr : Bool) (b : BI) (l : C) (r : Env) (S : Sto) : ev cl pm (.bi fr b l) r S = (ev cl pm l r S).bind fun x S => (R.opt ((x.ls.bind (rdL S)).bind (biT b)) S).bind fun t S => own fr t S := rfl
@[simp] theorem ev_isi (a : C) (cs : List String) (u2 : Bool) (r : Env) (S : Sto) : ev cl pm (.isi a cs u2) r S = (ev cl pm a r S).bind fun x S => R.opt ((((rd S x).bind tyT).bind fun ty => isiAny ty cs).map fun b => .t (.bl b)) S := rfl
@[simp] theorem ev_idx (a : C) (b : C) (r : Env) (S : Sto) : ev cl pm (.idx a b) r S = (ev cl pm a r S).bind fun x S => (ev cl pm b r S).bind fun y S => R.opt (match rd S x, rd S y with
    | some d, some e => (idxT d e).map D.t
    | _, _ => none) S := rfl
@[simp] theorem ev_sl (fr : Bool) (a : C) (lo : Option Unit) (hi : Option Unit) (b : C) (c : C) (r : Env) (S : Sto) : ev cl pm (.sl fr a lo hi b c) r S = (ev cl pm a r S).bind fun x S => (ev cl pm b r S).bind fun y S => (R.opt (partT lo y) S).bind fun l S => (ev cl pm c r S).bind fun z S => (R.opt (partT hi z) S).bind fun u S => (R.opt ((rd S x).bind fun d => slT d l u) S).bind fun t S => own fr t S := rfl
@[simp] theorem ev_rev (a : C) (r : Env) (S : Sto) : ev cl pm (.rev a) r S = (ev cl pm a r S).bind fun x S => R.opt (((rd S x).bind revT).map D.t) S := rfl
@[simp] theorem ev_mth (m : Str) (o : C) (l : C) (r : Env) (S : Sto) : ev cl pm (.mth m o l) r S = (ev cl pm o r S).bind fun x S => (R.opt ((rd S x).bind fun t => miOf t m) S).bind fun mi S => (ev cl pm l r S).bind fun y S => (R.opt y.ls S).bind fun ds S => mthS mi x ds S := rfl
@[simp] theorem ev_dct (fr : Bool) (tk : Bool) (r : Env) (S : Sto) : ev cl pm (.dct fr tk) r S = own fr (if tk then .dT [] else .dK []) S := rfl
@[simp] theorem ev_frz (a : C) (r : Env) (S : Sto) : ev cl pm (.frz a) r S = (ev cl pm a r S).bind fun x S => frzS S x := rfl
@[simp] theorem ev_spl (a : C) (q : C) (r : Env) (S : Sto) : ev cl pm (.spl a q) r S = (ev cl pm a r S).bind fun x S => (R.opt ((rd S x).bind T.its) S).bind fun ds S => (ev cl pm q r S).bind fun y S => R.opt (y.ls.map fun es => .l (ds.map D.t ++ es)) S := rfl
@[simp] theorem ev_dsp (fr : Bool) (a : C) (k : C) (v : C) (r : Env) (S : Sto) : ev cl pm (.dsp fr a k v) r S = (ev cl pm a r S).bind fun x S1 => (R.opt ((x.tr.bind T.dk).bind fun kvs => if kvs.length < line ∧ S1.length = S.length then some kvs else none) S1).bind fun kvs S1 => (ev cl pm k r S1).bind fun y S2 => (R.opt y.key S2).bind fun key S2 => (ev cl pm v r S2).bind fun z S3 => (R.opt (z.tr.bind fun t => if S3.length = S.length then some t else none) S3).bind fun t S3 => own fr (.dK (putT kvs key t)) S3 := rfl
@[simp] theorem exec_nil  (r : Env) (S : Sto) : exec wf cl pm (.nil) r S = .ok (.nx, r) S := rfl
@[simp] theorem exec_seq (a : P) (q : P) (r : Env) (S : Sto) : exec wf cl pm (.seq a q) r S = (exec wf cl pm a r S).bind fun fr S => match fr.1 with
    | .nx => exec wf cl pm q fr.2 S
    | .brk => .ok fr S
    | .cnt => .ok fr S
    | .ret _ => .ok fr S := rfl
@[simp] theorem exec_asg (g : Tg) (c : C) (r : Env) (S : Sto) : exec wf cl pm (.asg g c) r S = (ev cl pm c r S).bind fun x S => R.opt ((asgD g x r).map fun r' => (.nx, r')) S := rfl
@[simp] theorem exec_par (gs : List Nat) (l : C) (r : Env) (S : Sto) : exec wf cl pm (.par gs l) r S = (ev cl pm l r S).bind fun x S => R.opt ((x.ls.bind fun ds => asgP gs ds r).map fun r' => (.nx, r')) S := rfl
@[simp] theorem exec_aug (i : Nat) (op : Operator) (c : C) (r : Env) (S : Sto) : exec wf cl pm (.aug i op c) r S = (R.opt (match r[i]? with
    | some (some (.t d)) => some d
    | _ => none) S).bind fun d S => (ev cl pm c r S).bind fun y S => R.opt (match d, op, rd S y with
      | .int a, .Add, some (.int b) => some (.nx, r.set i (some (.t (.int (a + b)))))
      | .int a, .Sub, some (.int b) => some (.nx, r.set i (some (.t (.int (a - b)))))
      | _, _, _ => none) S := rfl
@[simp] theorem exec_setI (o : C) (i : C) (c : C) (r : Env) (S : Sto) : exec wf cl pm (.setI o i c) r S = (ev cl pm c r S).bind fun z S => (ev cl pm o r S).bind fun x S => (ev cl pm i r S).bind fun y S => (match x, rd S y, z with
    | .o a, some e, .t d => match S[a]? with
      | some (.lst xs) => match e with
        | .int k => (match ixN xs.length k with
          | some j => .ok (.nx, r) (S.set a (.lst (xs.set j d)))
          | none => .bad)
        | _ => .bad
      | some (.dK kvs) => match keyT e with
        | some k => if kvs.length < line then .ok (.nx, r) (S.set a (.dK (putT kvs k d))) else .bad
        | none => .bad
      | some (.dT kvs) => match e with
        | .tup es => (match keysT es with
          | some k => if kvs.length < line then .ok (.nx, r) (S.set a (.dT (putT kvs k d))) else .bad
          | none => .bad)
        | _ => .bad
      | _ => .bad
    | _, _, _ => .bad) := rfl
@[simp] theorem exec_drop (c : C) (r : Env) (S : Sto) : exec wf cl pm (.drop c) r S = (ev cl pm c r S).bind fun _ S => .ok (.nx, r) S := rfl
@[simp] theorem exec_ret (c : C) (r : Env) (S : Sto) : exec wf cl pm (.ret c) r S = (ev cl pm c r S).bind fun x S => .ok (.ret x, r) S := rfl
@[simp] theorem exec_retN  (r : Env) (S : Sto) : exec wf cl pm (.retN) r S = .ok (.ret (.t .non), r) S := rfl
@[simp] theorem exec_ite (t : C) (a : P) (b : P) (r : Env) (S : Sto) : exec wf cl pm (.ite t a b) r S = (ev cl pm t r S).bind fun x S => (R.opt x.bool S).bind fun k S => match k with
    | true => exec wf cl pm a r S
    | false => exec wf cl pm b r S := rfl
@[simp] theorem exec_brk  (r : Env) (S : Sto) : exec wf cl pm (.brk) r S = .ok (.brk, r) S := rfl
@[simp] theorem exec_cnt  (r : Env) (S : Sto) : exec wf cl pm (.cnt) r S = .ok (.cnt, r) S := rfl
@[simp] theorem exec_pass  (r : Env) (S : Sto) : exec wf cl pm (.pass) r S = .ok (.nx, r) S := rfl
@[simp] theorem exec_never  (r : Env) (S : Sto) : exec wf cl pm (.never) r S = .bad := rfl
@[simp] theorem ev_dcm (fr : Bool) (vs : List Nat) (g : Tg) (k : IK) (l t ek e : C) (r : Env) (S : Sto) : ev cl pm (.dcm fr vs g k l t ek e) r S = (ev cl pm l r S).bind fun x S => (R.opt (srcT k x S) S).bind fun dis S => (compGo (dcEl cl pm vs g t ek e r) dis.2 (lockS dis.1 S)).bind fun xs S' => own fr (.dK (mrgT [] xs)) (unlockS dis.1 S S') := rfl
@[simp] theorem exec_for (g : Tg) (k : IK) (l : C) (b : P) (r : Env) (S : Sto) : exec wf cl pm (.for_ g k l b) r S = (ev cl pm l r S).bind fun x S => (R.opt (srcT k x S) S).bind fun dis S => (forGo (forEl wf cl pm g b) dis.2 r (lockS dis.1 S)).bind fun fr S' => .ok fr (unlockS dis.1 S S') := rfl
def tst (cl : Nat → List D → Sto → R D) (pm : Nat → List D → List D → Option (List D)) (t : C) (r : Env) (S : Sto) : R Bool := (ev cl pm t r S).bind fun x S => R.opt x.bool S
@[simp] theorem exec_whl (t : C) (b : P) (r : Env) (S : Sto) : exec wf cl pm (.whl t b) r S = whlGo (tst cl pm t) (exec wf cl pm b) wf r S := rfl
@[simp] theorem ev_comp (fr : Bool) (vs : List Nat) (g : Tg) (k : IK) (l t e : C) (r : Env) (S : Sto) : ev cl pm (.comp fr vs g k l t e) r S = (ev cl pm l r S).bind fun x S => (R.opt (srcT k x S) S).bind fun dis S => (compGo (compEl cl pm vs g t e r) dis.2 (lockS dis.1 S)).bind fun xs S' => own fr (.lst xs) (unlockS dis.1 S S') := rfl
end
theorem b_add (i j : Int) : binT .Add (.int i) (.int j) = some (.int (i + j)) := rfl
theorem b_sub (i j : Int) : binT .Sub (.int i) (.int j) = some (.int (i - j)) := rfl
theorem c_gt (i j : Int) : cmpT .Gt (.int i) (.int j) = some (decide (j < i)) := rfl
theorem c_lt (i j : Int) : cmpT .Lt (.int i) (.int j) = some (decide (i < j)) := rfl
theorem c_ge (i j : Int) : cmpT .GtE (.int i) (.int j) = some (decide (j ≤ i)) := rfl
theorem c_le (i j : Int) : cmpT .LtE (.int i) (.int j) = some (decide (i ≤ j)) := rfl
theorem eqT_int (i j : Int) : eqT (.int i) (.int j) = some (decide (i = j)) := by
  show some (decide (_ = _)) = _
  rfl
theorem c_eq (i j : Int) : cmpT .Eq (.int i) (.int j) = some (decide (i = j)) := eqT_int i j
theorem c_ne (i j : Int) : cmpT .NotEq (.int i) (.int j) = some (!decide (i = j)) := by
  show (eqT (.int i) (.int j)).map (fun b => !b) = _
  rw [eqT_int]
  rfl
@[simp] theorem le_line0 : 0 ≤ line := Nat.zero_le _
@[simp] theorem le_line1 : 1 ≤ line := by decide
@[simp] theorem le_line2 : 2 ≤ line := by decide
@[simp] theorem le_line3 : 3 ≤ line := by decide
@[simp] theorem le_line4 : 4 ≤ line := by decide
@[simp] theorem le_line5 : 5 ≤ line := by decide
@[simp] theorem le_line6 : 6 ≤ line := by decide
@[simp] theorem le_line7 : 7 ≤ line := by decide
@[simp] theorem le_line8 : 8 ≤ line := by decide
@[simp] theorem le_line9 : 9 ≤ line := by decide
@[simp] theorem le_line10 : 10 ≤ line := by decide
@[simp] theorem le_line11 : 11 ≤ line := by decide
@[simp] theorem le_line12 : 12 ≤ line := by decide
@[simp] theorem le_line13 : 13 ≤ line := by decide
@[simp] theorem le_line14 : 14 ≤ line := by decide
@[simp] theorem le_line15 : 15 ≤ line := by decide
@[simp] theorem le_line16 : 16 ≤ line := by decide
@[simp] theorem le_line17 : 17 ≤ line := by decide
@[simp] theorem le_line18 : 18 ≤ line := by decide
@[simp] theorem le_line19 : 19 ≤ line := by decide
@[simp] theorem le_line20 : 20 ≤ line := by decide
@[simp] theorem le_line21 : 21 ≤ line := by decide
@[simp] theorem le_line22 : 22 ≤ line := by decide
@[simp] theorem le_line23 : 23 ≤ line := by decide
theorem Le.refl (cl : Nat → List D → Sto → R D) : Le cl cl := fun _ _ _ => .inr rfl
theorem b_fd {i j : Int} (h : 0 < j ∧ j.natAbs.log2 < 9000) : binT .FloorDiv (.int i) (.int j) = some (.int (i / j)) := if_pos h
theorem b_mod {i j : Int} (h : 0 < j) : binT .Mod (.int i) (.int j) = some (.int (i % j)) := if_pos h
theorem b_mul {i j : Int} (h : i.natAbs.log2 + j.natAbs.log2 < 134000000) : binT .Mult (.int i) (.int j) = some (.int (i * j)) := if_pos h
@[simp] theorem lkOf_1 (t : T) : lkOf [.t t] = some none := rfl
@[simp] theorem lkOf_2 (t u : T) : lkOf [.t t, .t u] = some none := rfl
@[simp] theorem lockS_n (S : Sto) : lockS none S = S := rfl
@[simp] theorem unlockS_n (S S' : Sto) : unlockS none S S' = S' := rfl
def mnI (i j : Int) : Int := if j < i then j else i
theorem b_min (i j : Int) : biT .min2 [.int i, .int j] = some (.int (mnI i j)) := rfl
theorem b_int (i : Int) : biT .int [.int i] = some (.int i) := rfl
theorem take_len1 (S : Sto) : List.take (S.length + 1) S = S := List.take_of_length_le (Nat.le_succ _)
theorem take_len (S : Sto) : List.take S.length S = S := List.take_length
@[simp] theorem rd_t (S : Sto) (t : T) : rd S (.t t) = some t := rfl
@[simp] theorem own_f (t : T) (S : Sto) : own false t S = .ok (.t t) S := rfl
@[simp] theorem bool_t (b : Bool) : (D.t (.bl b)).bool = some b := rfl
@[simp] theorem tr_t (t : T) : (D.t t).tr = some t := rfl
@[simp] theorem ls_l (ds : List D) : (D.l ds).ls = some ds := rfl
@[simp] theorem trL_nil : trL [] = some [] := rfl
@[simp] theorem trL_cons (t : T) (r : List D) : trL (.t t :: r) = (trL r).map fun ds => t :: ds := rfl
@[simp] theorem rdL_nil (S : Sto) : rdL S [] = some [] := rfl
@[simp] theorem asgD_n (i : Nat) (d : D) (r : Env) : asgD (.n i) d r = some (r.set i (some d)) := rfl
@[simp] theorem asgD_p (i j : Nat) (a b : T) (r : Env) : asgD (.cons (.n i) (.cons (.n j) .nil)) (.t (.tup [a, b])) r = some ((r.set i (some (.t a))).set j (some (.t b))) := rfl
@[simp] theorem asgT_n (i : Nat) (d : T) (r : Env) : asgT (.n i) d r = some (r.set i (some (.t d))) := rfl
@[simp] theorem asgT_p (i j : Nat) (a b : T) (r : Env) : asgT (.cons (.n i) (.cons (.n j) .nil)) (.tup [a, b]) r = some ((r.set i (some (.t a))).set j (some (.t b))) := rfl
@[simp] theorem asgT_l (i j : Nat) (a b : T) (r : Env) : asgT (.cons (.n i) (.cons (.n j) .nil)) (.lst [a, b]) r = some ((r.set i (some (.t a))).set j (some (.t b))) := rfl
@[simp] theorem see_t (S : Sto) (t : T) : see S (.t t) = .t t := rfl
@[simp] theorem see_l (S : Sto) (t : List D) : see S (.l t) = .l t := rfl
@[simp] theorem see_0l (S : Sto) (xs : List T) : see (.lst xs :: S) (.o 0) = .o 0 := rfl
@[simp] theorem see_0k (S : Sto) (xs : List (Key × T)) : see (.dK xs :: S) (.o 0) = .o 0 := rfl
@[simp] theorem see_0t (S : Sto) (xs : List (List Key × T)) : see (.dT xs :: S) (.o 0) = .o 0 := rfl
@[simp] theorem see_1 (S : Sto) (c : Cl) (xs : List T) : see (c :: .lst xs :: S) (.o 1) = .o 1 := rfl
@[simp] theorem see_1k (S : Sto) (c : Cl) (xs : List (Key × T)) : see (c :: .dK xs :: S) (.o 1) = .o 1 := rfl
@[simp] theorem see_1t (S : Sto) (c : Cl) (xs : List (List Key × T)) : see (c :: .dT xs :: S) (.o 1) = .o 1 := rfl
@[simp] theorem see_2 (S : Sto) (c d : Cl) (xs : List T) : see (c :: d :: .lst xs :: S) (.o 2) = .o 2 := rfl
@[simp] theorem frzS_t (S : Sto) (t : T) : frzS S (.t t) = .ok (.t t) S := rfl
theorem see_at {S : Sto} {j : Nat} {xs : List T} (h : S[j]? = some (.lst xs)) : see S (.o j) = .o j := by
  show (match S[j]? with
    | some (.gon t) => D.t t
    | _ => .o j) = _
  rw [h]
@[simp] theorem bind_ok' {α β : Type} (a : α) (S : Sto) (f : α → Sto → R β) : R.bind (.ok a S) f = f a S := rfl
@[simp] theorem opt_some' {α : Type} (a : α) (S : Sto) : R.opt (some a) S = .ok a S := rfl
@[simp] theorem rdL_cons (S : Sto) (d : D) (r : List D) : rdL S (d :: r) = match rd S d, rdL S r with
    | some t, some ts => some (t :: ts)
    | _, _ => none := rfl
end Qq

set_option maxHeartbeats 400000
/-! P1: what the laws' own helpers do, whatever law they stand in: draws, boxes, cells. -/
namespace Qq.Lw
open PySem L2

/-! ### small facts -/
theorem rd_hd (xs : List T) (S : Sto) : rd (.lst xs :: S) (.o 0) = some (.lst xs) := rfl
theorem x0 (a b c : T) : idxT (.lst [a, b, c]) (.int 0) = some a := rfl
theorem x1 (a b c : T) : idxT (.lst [a, b, c]) (.int 1) = some b := rfl
theorem x2 (a b c : T) : idxT (.lst [a, b, c]) (.int 2) = some c := rfl
theorem n0 : ixN 3 0 = some 0 := by decide +kernel
theorem n1 : ixN 3 1 = some 1 := by decide +kernel
theorem n2 : ixN 3 2 = some 2 := by decide +kernel
theorem lg {i : Int} {k : Nat} (h : i.natAbs < 2 ^ k) (hk : 0 < k) : i.natAbs.log2 < k := by
  by_cases h0 : i.natAbs = 0
  · rw [h0]; simpa using hk
  · exact (Nat.log2_lt h0).mpr h
theorem ml {i j : Int} (hi : i.natAbs < 2 ^ 200) (hj : j.natAbs < 2 ^ 200) : binT .Mult (.int i) (.int j) = some (.int (i * j)) := by
  have h1 := lg hi (by decide)
  have h2 := lg hj (by decide)
  exact b_mul (by omega)
theorem ix_at {n i : Nat} (h : i < n) : ixN n (i : Int) = some i := by
  unfold ixN
  rw [if_pos (by omega), if_pos (by omega), Int.toNat_natCast]
theorem idx_l {xs : List T} {i : Nat} {x : T} (h : xs[i]? = some x) : idxT (.lst xs) (.int (i : Int)) = some x := by
  have hi := (List.getElem?_eq_some_iff.mp h).1
  show atI _ _ = _
  unfold atI
  rw [ix_at hi]
  exact h
theorem idx_t {xs : List T} {i : Nat} {x : T} (h : xs[i]? = some x) : idxT (.tup xs) (.int (i : Int)) = some x := by
  have hi := (List.getElem?_eq_some_iff.mp h).1
  show atI _ _ = _
  unfold atI
  rw [ix_at hi]
  exact h
theorem b_len (xs : List T) : biT .len [.lst xs] = some (.int (xs.length : Int)) := rfl
theorem b_lent (xs : List T) : biT .len [.tup xs] = some (.int (xs.length : Int)) := rfl
theorem bi_bl (k : Bool) : biT .int [.bl k] = some (.int (if k then 1 else 0)) := rfl
theorem bi_abs (i : Int) : biT .abs [.int i] = some (.int (if i < 0 then -i else i)) := rfl
theorem pw18 : binT .Pow (.int 10) (.int 18) = some (.int 1000000000000000000) := by kernel_rfl!
theorem cons_take (c : Cl) (S : Sto) : List.take (S.length + 1) (c :: S) = c :: S := by rw [List.take_succ_cons, List.take_length]
theorem cons_take2 (c : Cl) (S : Sto) : List.take (S.length + 1 + 1) (c :: S) = c :: S := List.take_of_length_le (by simp)
theorem len_cons (c : Cl) (S : Sto) : (c :: S).length = S.length + 1 := rfl

/-! ### the jar of draws -/
def jar (a b c : Int) : Cl := .lst [.int a, .int b, .int c]
/-- k draws more may be made of it -/
def JarOk (k : Nat) (j : Cl) : Prop := ∃ a b c : Int, j = jar a b c ∧ 0 ≤ b ∧ b < 2 ^ 63 ∧ 0 ≤ c ∧ c + k < 2 ^ 90
theorem JarOk.mono {k k' : Nat} {j : Cl} (h : JarOk k j) (hk : k' ≤ k) : JarOk k' j := by
  obtain ⟨a, b, c, e, h1, h2, h3, h4⟩ := h
  exact ⟨a, b, c, e, h1, h2, h3, by omega⟩
theorem JarOk.see {k : Nat} {j : Cl} (h : JarOk k j) (S : Sto) : see (j :: S) (.o 0) = .o 0 := by
  obtain ⟨a, b, c, e, _⟩ := h
  subst e
  rfl
def FTake (cA : Int) : FI := ⟨2, 6, false, (.seq (.ite (.cmp .Gt (.idx (.var 0) (.cst (.int 0))) (.cst (.int 0))) (.seq (.asg (.n 5) (.bin false .Mod (.bi false .int (.cons (.idx (.var 0) (.cst (.int 0))) .nil)) (.var 1))) (.seq (.setI (.var 0) (.cst (.int 0)) (.bin false .FloorDiv (.idx (.var 0) (.cst (.int 0))) (.var 1))) (.seq (.ret (.var 5)) .nil))) .nil) (.seq (.setI (.var 0) (.cst (.int 2)) (.bin false .Add (.idx (.var 0) (.cst (.int 2))) (.cst (.int 1)))) (.seq (.asg (.n 2) (.bin false .Mod (.bi false .int (.cons (.bin false .Mult (.bin false .Add (.idx (.var 0) (.cst (.int 1))) (.bin false .Mult (.cst (.int 48271)) (.idx (.var 0) (.cst (.int 2))))) (.bin false .Add (.cst (.int cA)) (.idx (.var 0) (.cst (.int 2))))) .nil)) (.cst (.int 2147483647)))) (.seq (.asg (.n 3) (.bin false .Add (.bin false .Mod (.bi false .int (.cons (.var 2) .nil)) (.cst (.int 40009))) (.cst (.int 7)))) (.seq (.asg (.n 4) (.bin false .Mod (.bi false .int (.cons (.bin false .Mult (.bin false .Add (.bin false .Add (.var 2) (.idx (.var 0) (.cst (.int 2)))) (.bin false .FloorDiv (.idx (.var 0) (.cst (.int 1))) (.cst (.int 1000003)))) (.var 3)) .nil)) (.cst (.int 2147483629)))) (.seq (.ret (.bin false .Mod (.bi false .int (.cons (.bin false .FloorDiv (.bin false .Mod (.bi false .int (.cons (.bin false .Add (.bin false .Mult (.var 4) (.cst (.int 48271))) (.var 2)) .nil)) (.cst (.int 2147483587))) (.cst (.int 64))) .nil)) (.var 1))) .nil))))))⟩
theorem fdA (i : Int) : binT .FloorDiv (.int i) (.int 1000003) = some (.int (i / 1000003)) := b_fd (by decide +kernel)
theorem fdB (i : Int) : binT .FloorDiv (.int i) (.int 64) = some (.int (i / 64)) := b_fd (by decide +kernel)
section
variable {fs : List FI} {wf : Nat} {pm : Nat → List D → List D → Option (List D)}
theorem take_pos {n iT : Nat} {cA : Int} (hF : fs[iT]? = some (FTake cA)) {a b c top : Int} (S : Sto) (ha : 0 < a) (ht : 0 < top ∧ top.natAbs.log2 < 9000) : callF fs wf pm (n + 1) iT [.o 0, .t (.int top)] (jar a b c :: S) = .ok (.t (.int (a % top))) (jar (a / top) b c :: S) := by
  refine callF_of hF rfl (Le.refl _) ?_
  unfold bodyF jar
  simp [FTake, rd_hd, x0, c_gt, ha, b_int, b_mod ht.1, b_fd ht, n0, fin, R.cut, take_len1, take_len]
theorem take_zero {n iT : Nat} {cA : Int} (hF : fs[iT]? = some (FTake cA)) (hA : 0 ≤ cA ∧ cA < 2 ^ 40) {a b c top : Int} (S : Sto) (ha : ¬ 0 < a) (b0 : 0 ≤ b) (b1 : b < 2 ^ 63) (c0 : 0 ≤ c) (c1 : c + 1 < 2 ^ 90) (ht : 0 < top ∧ top.natAbs.log2 < 9000) :
    ∃ v, 0 ≤ v ∧ v < top ∧ callF fs wf pm (n + 1) iT [.o 0, .t (.int top)] (jar a b c :: S) = .ok (.t (.int v)) (jar a b (c + 1) :: S) := by
  have m1 : binT .Mult (.int 48271) (.int (c + 1)) = some (.int (48271 * (c + 1))) := ml (by decide) (by omega)
  have m2 : binT .Mult (.int (b + 48271 * (c + 1))) (.int (cA + (c + 1))) = some (.int ((b + 48271 * (c + 1)) * (cA + (c + 1)))) := ml (by omega) (by omega)
  obtain ⟨fi, hfi⟩ : ∃ fi, fi = (b + 48271 * (c + 1)) * (cA + (c + 1)) % 2147483647 := ⟨_, rfl⟩
  have f0 : 0 ≤ fi := by rw [hfi]; exact Int.emod_nonneg _ (by decide)
  have f1 : fi < 2147483647 := by rw [hfi]; exact Int.emod_lt_of_pos _ (by decide)
  have f2 : 0 ≤ fi % 40009 := Int.emod_nonneg _ (by decide)
  have f3 : fi % 40009 < 40009 := Int.emod_lt_of_pos _ (by decide)
  have g1 : 0 ≤ b / 1000003 := Int.ediv_nonneg b0 (by decide)
  have g2 : b / 1000003 ≤ b := Int.ediv_le_self _ b0
  have m3 : binT .Mult (.int (fi + (c + 1) + b / 1000003)) (.int (fi % 40009 + 7)) = some (.int ((fi + (c + 1) + b / 1000003) * (fi % 40009 + 7))) := ml (by omega) (by omega)
  obtain ⟨th, hth⟩ : ∃ th, th = (fi + (c + 1) + b / 1000003) * (fi % 40009 + 7) % 2147483629 := ⟨_, rfl⟩
  have t0 : 0 ≤ th := by rw [hth]; exact Int.emod_nonneg _ (by decide)
  have t1 : th < 2147483629 := by rw [hth]; exact Int.emod_lt_of_pos _ (by decide)
  have m4 : binT .Mult (.int th) (.int 48271) = some (.int (th * 48271)) := ml (by omega) (by decide)
  refine ⟨((th * 48271 + fi) % 2147483587 / 64) % top, Int.emod_nonneg _ (by omega), Int.emod_lt_of_pos _ ht.1, ?_⟩
  refine callF_of hF rfl (Le.refl _) ?_
  unfold bodyF jar
  simp [FTake, rd_hd, x0, x1, x2, c_gt, ha, b_int, b_add, b_mod ht.1, fdA, fdB, n2, m1, m2, ← hfi, b_mod, m3, ← hth, m4, fin, R.cut, take_len1, take_len]
/-- a draw -/
theorem take_ok {n iT k : Nat} {cA : Int} (hF : fs[iT]? = some (FTake cA)) (hA : 0 ≤ cA ∧ cA < 2 ^ 40) {j : Cl} (hj : JarOk (k + 1) j) (S : Sto) {top : Int} (h0 : 0 < top) (h1 : top < 2 ^ 62) :
    ∃ (v : Nat) (j' : Cl), (v : Int) < top ∧ JarOk k j' ∧ callF fs wf pm (n + 1) iT [.o 0, .t (.int top)] (j :: S) = .ok (.t (.int (v : Int))) (j' :: S) := by
  obtain ⟨a, b, c, rfl, b0, b1, c0, c1⟩ := hj
  have ht : 0 < top ∧ top.natAbs.log2 < 9000 := ⟨h0, Nat.lt_trans (lg (k := 62) (by omega) (by decide)) (by decide)⟩
  by_cases ha : 0 < a
  · have q0 : 0 ≤ a % top := Int.emod_nonneg _ (by omega)
    obtain ⟨v, hv⟩ := Int.eq_ofNat_of_zero_le q0
    refine ⟨v, jar (a / top) b c, by rw [← hv]; exact Int.emod_lt_of_pos _ h0, ⟨_, _, _, rfl, b0, b1, c0, by omega⟩, ?_⟩
    rw [← hv]
    exact take_pos hF S ha ht
  · obtain ⟨v, q0, q1, e⟩ := take_zero (wf := wf) (pm := pm) (n := n) hF hA S ha b0 b1 c0 (by omega) ht
    obtain ⟨v, rfl⟩ := Int.eq_ofNat_of_zero_le q0
    exact ⟨v, jar a b (c + 1), q1, ⟨_, _, _, rfl, b0, b1, by omega, by omega⟩, e⟩
/-- one of some things -/
def FOf (iT : Nat) : FI := ⟨2, 2, false, (.seq (.ret (.idx (.var 1) (.call iT (.cons (.var 0) (.cons (.bi false .len (.cons (.var 1) .nil)) .nil))))) .nil)⟩
theorem of_ok {n iO iT k : Nat} {cA : Int} (hO : fs[iO]? = some (FOf iT)) (hF : fs[iT]? = some (FTake cA)) (hA : 0 ≤ cA ∧ cA < 2 ^ 40) {j : Cl} (hj : JarOk (k + 1) j) (S : Sto) {ts : List T} (h0 : ts ≠ []) (h1 : ts.length ≤ line) :
    ∃ (t : T) (j' : Cl), t ∈ ts ∧ JarOk k j' ∧ callF fs wf pm (n + 1 + 1) iO [.o 0, .t (.lst ts)] (j :: S) = .ok (.t t) (j' :: S) := by
  have hp : 0 < ts.length := List.length_pos_iff.mpr h0
  unfold line at h1
  obtain ⟨v, j', hv, hj', e⟩ := take_ok (wf := wf) (pm := pm) (n := n) hF hA hj S (top := (ts.length : Int)) (by omega) (by omega)
  have hv' : v < ts.length := by omega
  refine ⟨ts[v], j', List.getElem_mem hv', hj', callF_of hO rfl (Le.refl _) ?_⟩
  have hx : idxT (.lst ts) (.int (v : Int)) = some ts[v] := idx_l (by simp [hv'])
  unfold bodyF
  simp [FOf, hj.see, b_len, e, hx, fin, R.cut, take_len1, take_len]
theorem of_okt {n iO iT k : Nat} {cA : Int} (hO : fs[iO]? = some (FOf iT)) (hF : fs[iT]? = some (FTake cA)) (hA : 0 ≤ cA ∧ cA < 2 ^ 40) {j : Cl} (hj : JarOk (k + 1) j) (S : Sto) {ts : List T} (h0 : ts ≠ []) (h1 : ts.length ≤ line) :
    ∃ (t : T) (j' : Cl), t ∈ ts ∧ JarOk k j' ∧ callF fs wf pm (n + 1 + 1) iO [.o 0, .t (.tup ts)] (j :: S) = .ok (.t t) (j' :: S) := by
  have hp : 0 < ts.length := List.length_pos_iff.mpr h0
  unfold line at h1
  obtain ⟨v, j', hv, hj', e⟩ := take_ok (wf := wf) (pm := pm) (n := n) hF hA hj S (top := (ts.length : Int)) (by omega) (by omega)
  have hv' : v < ts.length := by omega
  refine ⟨ts[v], j', List.getElem_mem hv', hj', callF_of hO rfl (Le.refl _) ?_⟩
  have hx : idxT (.tup ts) (.int (v : Int)) = some ts[v] := idx_t (by simp [hv'])
  unfold bodyF
  simp [FOf, hj.see, b_lent, e, hx, fin, R.cut, take_len1, take_len]
/-- a jar is made -/
def FBox (cA cB : Int) : FI := ⟨2, 3, true, (.seq (.asg (.n 2) (.ife (.cmp .Lt (.var 1) (.bi false .len (.cons (.var 0) .nil))) (.idx (.var 0) (.var 1)) (.cst (.int 0)))) (.seq (.ret (.lst true (.cons (.bin false .Mult (.bi false .abs (.cons (.var 2) .nil)) (.bi false .int (.cons (.cmp .GtE (.bi false .abs (.cons (.var 2) .nil)) (.bin false .Pow (.cst (.int 10)) (.cst (.int 18)))) .nil))) (.cons (.bin false .Add (.bin false .Add (.bin false .Mod (.bi false .int (.cons (.var 2) .nil)) (.cst (.int 2305843009213693951))) (.bin false .Mult (.cst (.int cA)) (.var 1))) (.cst (.int cB))) (.cons (.cst (.int 0)) .nil))))) .nil))⟩
theorem box_ok {n iB : Nat} {cA cB : Int} (hF : fs[iB]? = some (FBox cA cB)) (hA : 0 ≤ cA ∧ cA < 2 ^ 40) (hB : 0 ≤ cB ∧ cB < 2 ^ 40) {xs : List Int} {k : Nat} {x : Int} (hx : xs[k]? = some x) (hk : k < 1000) (hb : x.natAbs.log2 < 100000000) :
    ∃ j, JarOk (2 ^ 80) j ∧ callF fs wf pm (n + 1) iB [.t (.lst (xs.map T.int)), .t (.int (k : Int))] [] = .ok (.o 0) [j] := by
  have hl : k < xs.length := (List.getElem?_eq_some_iff.mp hx).1
  have hlt : ((k : Int) < (xs.length : Int)) := by omega
  have hix : idxT (.lst (xs.map T.int)) (.int (k : Int)) = some (.int x) := idx_l (by simp [hx])
  obtain ⟨y, hy⟩ : ∃ y, y = (if x < 0 then -x else x) := ⟨_, rfl⟩
  have hyb : y.natAbs.log2 < 100000000 := by
    have : y.natAbs = x.natAbs := by rw [hy]; split <;> omega
    rw [this]; exact hb
  obtain ⟨z, hz⟩ : ∃ z, z = (if (1000000000000000000 : Int) ≤ y then (1 : Int) else 0) := ⟨_, rfl⟩
  have hz2 : z.natAbs.log2 = 0 := by rw [hz]; split <;> decide +kernel
  have m1 : binT .Mult (.int y) (.int z) = some (.int (y * z)) := b_mul (by omega)
  have m2 : binT .Mult (.int cA) (.int (k : Int)) = some (.int (cA * (k : Int))) := ml (by omega) (by omega)
  have r0 : 0 ≤ x % 2305843009213693951 := Int.emod_nonneg _ (by decide)
  have r1 : x % 2305843009213693951 < 2305843009213693951 := Int.emod_lt_of_pos _ (by decide)
  have b1 : binT .Mod (.int x) (.int 2305843009213693951) = some (.int (x % 2305843009213693951)) := b_mod (by decide)
  have p0 : 0 ≤ cA * (k : Int) := Int.mul_nonneg hA.1 (by omega)
  have p1 : cA * (k : Int) ≤ 2 ^ 40 * 1000 := Int.mul_le_mul (by omega) (by omega) (by omega) (by decide)
  refine ⟨jar (y * z) (x % 2305843009213693951 + cA * (k : Int) + cB) 0, ⟨_, _, _, rfl, by omega, by omega, by decide, by decide⟩, ?_⟩
  refine callF_of hF rfl (Le.refl _) ?_
  have hlen : biT .len [.lst (xs.map T.int)] = some (.int (xs.length : Int)) := by rw [b_len, List.length_map]
  unfold bodyF jar
  simp [FBox, hlen, c_lt, hlt, hix, bi_abs, ← hy, pw18, c_ge, bi_bl, ← hz, m1, m2, b_int, b1, b_add, fin, R.cut, own, T.cl]
end
end Qq.Lw

set_option maxHeartbeats 400000
/-! P2: the cells of a script; equal things of equal kinds; the law's last line. -/
namespace Qq.Lw
open PySem L2
theorem sIx_n (n d k : Nat) : HT.sIx n d (some (k : Int)) = min k n := by
  show (if (k : Int) < 0 then ((k : Int) + (n : Int)).toNat else min (k : Int).toNat n) = min k n
  rw [if_neg (by omega), Int.toNat_natCast]
theorem cut_lo {α : Type} (ns : List α) (k : Nat) : cutL ns none (some (k : Int)) = ns.take k := by
  unfold cutL
  rw [sIx_n]
  show (ns.drop 0).take (min k ns.length - 0) = _
  rw [List.drop_zero, Nat.sub_zero]
  by_cases h : k ≤ ns.length
  · rw [Nat.min_eq_left h]
  · rw [Nat.min_eq_right (by omega), List.take_length, List.take_of_length_le (by omega)]
theorem cut_hi {α : Type} (ns : List α) (k : Nat) : cutL ns (some (k : Int)) none = ns.drop k := by
  unfold cutL
  rw [sIx_n]
  show (ns.drop (min k ns.length)).take (ns.length - min k ns.length) = _
  by_cases h : k ≤ ns.length
  · rw [Nat.min_eq_left h, List.take_of_length_le (by rw [List.length_drop]; omega)]
  · rw [Nat.min_eq_right (by omega), List.drop_length, List.drop_eq_nil_of_le (by omega)]; simp
theorem cut_2 {α : Type} (ns : List α) (k l : Nat) (h : k ≤ l) : cutL ns (some (k : Int)) (some (l : Int)) = (ns.drop k).take (l - k) := by
  unfold cutL
  rw [sIx_n, sIx_n]
  by_cases h1 : k ≤ ns.length
  · rw [Nat.min_eq_left h1]
    by_cases h2 : l ≤ ns.length
    · rw [Nat.min_eq_left h2]
    · rw [Nat.min_eq_right (by omega), List.take_of_length_le (by rw [List.length_drop]; omega), List.take_of_length_le (by rw [List.length_drop]; omega)]
  · have e1 : ns.drop (min k ns.length) = [] := List.drop_eq_nil_of_le (by omega)
    have e2 : ns.drop k = [] := List.drop_eq_nil_of_le (by omega)
    rw [e1, e2]; simp
theorem pt1 (d : D) : partT none d = some none := by cases d <;> rfl
theorem pt2 (i : Int) : partT (some ()) (.t (.int i)) = some (some i) := rfl
theorem sl_scr (ns : List Int) (l u : Option Int) : slT (.scr ns) l u = some (.lst ((cutL ns l u).map T.int)) := rfl
theorem b_lst (ds : List T) : biT .list [.lst ds] = some (.lst ds) := rfl
theorem own_l (ds : List T) (S : Sto) : own true (.lst ds) S = .ok (.o S.length) (S ++ [.lst ds]) := rfl
theorem tr_l (ds : List T) : truT (.lst ds) = some (!ds.isEmpty) := rfl
theorem src_en (ds : List T) (S : Sto) (h : ds.length ≤ line) : srcT .enum (.l [.t (.lst ds)]) S = some (none, enumT 0 ds) := if_pos (by rw [len_enumT]; exact h)
theorem src_of {k : IK} {ds : List D} {S : Sto} {lk : Option Nat} {is : List T} (h1 : lkOf ds = some lk) (h2 : (rdL S ds).bind (itC k ds) = some is) (h3 : is.length ≤ line) : srcT k (.l ds) S = some (lk, is) := by
  show (match lkOf ds, (rdL S ds).bind (itC k ds) with
    | some lk, some is => if is.length ≤ line then some (lk, is) else none
    | _, _ => none) = _
  rw [h1, h2]
  exact if_pos h3
theorem bind1 {k : IK} {t : T} {S : Sto} {o : Option (List T)} (h : itT k [t] = o) : (rdL S [.t t]).bind (itC k [.t t]) = o := h
theorem bind2 {k : IK} {t u : T} {S : Sto} {o : Option (List T)} (h : itT k [t, u] = o) : (rdL S [.t t, .t u]).bind (itC k [.t t, .t u]) = o := h
theorem it_r1 {j : Int} (h1 : -(2 ^ 62) ≤ j) (h2 : j ≤ 16777216) : itT .r1 [.int j] = some (upT 0 j.toNat) := by
  unfold itT
  exact if_pos ⟨h1, h2⟩
theorem it_r2 {i j : Int} (h1 : -(2 ^ 62) ≤ i) (h2 : i < 2 ^ 62) (h3 : -(2 ^ 62) ≤ j) (h4 : j < 2 ^ 62) (h5 : j - i ≤ 16777216) : itT .r2 [.int i, .int j] = some (upT i (j - i).toNat) := by
  unfold itT
  exact if_pos ⟨h1, h2, h3, h4, h5⟩
theorem src_r1 (n : Nat) (h : n ≤ 16777216) (S : Sto) : srcT .r1 (.l [.t (.int (n : Int))]) S = some (none, upT 0 n) := by
  have e := it_r1 (j := (n : Int)) (by omega) (by omega)
  rw [Int.toNat_natCast] at e
  exact src_of (lkOf_1 _) (bind1 e) (by rw [len_upT]; exact h)

/-! cells -/
def cB : P := (.seq (.asg (.n 5) (.bin false .Mod (.bi false .int (.cons (.var 3) .nil)) (.var 1))) (.seq (.setI (.var 2) (.var 5) (.bin false .Add (.idx (.var 2) (.var 5)) (.bin false .Mult (.var 4) (.bin false .Add (.var 3) (.cst (.int 2)))))) .nil))
def FCells : FI := ⟨2, 6, false, (.seq (.asg (.n 2) (.orV (.bi true .list (.cons (.sl false (.var 0) none (some ()) .nil (.var 1)) .nil)) (.lst true (.cons (.cst (.int 0)) .nil)))) (.seq (.for_ (.cons (.n 3) (.cons (.n 4) .nil)) .enum (.cons (.sl false (.var 0) (some ()) (some ()) (.var 1) (.cst (.int 63))) .nil) cB) (.seq (.ret (.var 2)) .nil)))⟩
theorem map_set {xs : List Int} {i : Nat} {x : Int} : (xs.map T.int).set i (.int x) = (xs.set i x).map T.int := by rw [List.map_set]
section
variable {fs : List FI} {wf : Nat} {pm : Nat → List D → List D → Option (List D)}
theorem cell_step {cl : Nat → List D → Sto → R D} {ns xs : List Int} {m j : Nat} {z y0 : Int} {x y u : Option D} (hm : 0 < m) (hx : xs[j % m]? = some y0) (hz : binT .Mult (.int z) (.int ((j : Int) + 2)) = some (.int (z * ((j : Int) + 2)))) :
    ∃ y', forEl wf cl pm (.cons (.n 3) (.cons (.n 4) .nil)) cB (.tup [.int (j : Int), .int z]) [some (.t (.scr ns)), some (.t (.int (m : Int))), some (.o 0), x, y, u] [.lst (xs.map T.int)] = .ok (.nx, [some (.t (.scr ns)), some (.t (.int (m : Int))), some (.o 0), some (.t (.int (j : Int))), some (.t (.int z)), y']) [.lst ((xs.set (j % m) (y0 + z * ((j : Int) + 2))).map T.int)] := by
  have hmod : binT .Mod (.int (j : Int)) (.int (m : Int)) = some (.int ((j % m : Nat) : Int)) := by rw [b_mod (by omega)]; rfl
  have hl := (List.getElem?_eq_some_iff.mp hx).1
  have hix : idxT (.lst (xs.map T.int)) (.int ((j % m : Nat) : Int)) = some (.int y0) := idx_l (by simp [hx])
  have hn : ixN (xs.map T.int).length ((j % m : Nat) : Int) = some (j % m) := ix_at (by rw [List.length_map]; exact hl)
  rw [List.length_map] at hn
  refine ⟨some (.t (.int ((j % m : Nat) : Int))), ?_⟩
  generalize j % m = q at *
  simp [forEl, cB, b_int, hmod, rd_hd, hix, b_add, hz, hn, List.map_set]
theorem grow {M w : Nat} {a z j : Int} (ha : a.natAbs ≤ M * w) (hz : z.natAbs ≤ M) (hj : 0 ≤ j) (hj2 : j ≤ 62) : (a + z * (j + 2)).natAbs ≤ M * (w + 64) := by
  have h1 : (a + z * (j + 2)).natAbs ≤ a.natAbs + (z * (j + 2)).natAbs := Int.natAbs_add_le _ _
  have h2 : (z * (j + 2)).natAbs = z.natAbs * (j + 2).natAbs := Int.natAbs_mul _ _
  have h3 : (j + 2).natAbs ≤ 64 := by omega
  have h4 : z.natAbs * (j + 2).natAbs ≤ M * 64 := Nat.mul_le_mul hz h3
  rw [Nat.mul_add]
  omega
theorem cells_loop {cl : Nat → List D → Sto → R D} {ns : List Int} {m M : Nat} (hm : 0 < m) (hM : ∀ z : Int, z.natAbs ≤ M → z.natAbs.log2 < 120000000) : ∀ (zs : List Int) (j w : Nat) (xs : List Int) (x y u : Option D), xs.length = m → (∀ z ∈ zs, z.natAbs ≤ M) → j + zs.length ≤ 63 → (∀ a ∈ xs, a.natAbs ≤ M * w) →
    ∃ (xs' : List Int) (x' y' u' : Option D), forGo (forEl wf cl pm (.cons (.n 3) (.cons (.n 4) .nil)) cB) (enumT j (zs.map T.int)) [some (.t (.scr ns)), some (.t (.int (m : Int))), some (.o 0), x, y, u] [.lst (xs.map T.int)] = .ok (.nx, [some (.t (.scr ns)), some (.t (.int (m : Int))), some (.o 0), x', y', u']) [.lst (xs'.map T.int)] ∧
      xs'.length = m ∧ ∀ a ∈ xs', a.natAbs ≤ M * (w + 64 * zs.length) := by
  intro zs
  induction zs with
  | nil => intro j w xs x y u hl _ _ ha; exact ⟨xs, x, y, u, rfl, hl, ha⟩
  | cons z zs ih =>
    intro j w xs x y u hl hz hj ha
    rw [List.length_cons] at hj
    have hz0 := hz z List.mem_cons_self
    have hml : binT .Mult (.int z) (.int ((j : Int) + 2)) = some (.int (z * ((j : Int) + 2))) := b_mul (by
      have h1 := hM z hz0
      have h2 : ((j : Int) + 2).natAbs.log2 < 7 := lg (by omega) (by decide)
      omega)
    have hlt : j % m < xs.length := by rw [hl]; exact Nat.mod_lt _ hm
    obtain ⟨y1, e1⟩ := cell_step (wf := wf) (cl := cl) (pm := pm) (ns := ns) (xs := xs) (m := m) (j := j) (y0 := xs[j % m]) (x := x) (y := y) (u := u) hm (by simp [hlt]) hml
    obtain ⟨xs', x', y', u', e2, h1, h2⟩ := ih (j + 1) (w + 64) (xs.set (j % m) (xs[j % m] + z * ((j : Int) + 2))) (some (.t (.int (j : Int)))) (some (.t (.int z))) y1 (by rw [List.length_set, hl]) (fun z' hz' => hz z' (List.mem_cons_of_mem _ hz')) (by omega) (fun a h => by
      rcases List.mem_or_eq_of_mem_set h with h | h
      · exact Nat.le_trans (ha a h) (Nat.mul_le_mul_left _ (by omega))
      · rw [h]; exact grow (ha _ (List.getElem_mem hlt)) hz0 (by omega) (by omega))
    have ew : w + 64 + 64 * zs.length = w + 64 * (zs.length + 1) := by omega
    rw [ew] at h2
    refine ⟨xs', x', y', u', ?_, h1, h2⟩
    rw [List.map_cons]
    unfold enumT forGo
    rw [e1]
    exact e2
theorem cells_ok {n iC m M : Nat} (hF : fs[iC]? = some FCells) (hm : 0 < m) (hm2 : m ≤ 3) (hM : ∀ z : Int, z.natAbs ≤ M → z.natAbs.log2 < 120000000) {ns : List Int} (hz : ∀ z ∈ ns, z.natAbs ≤ M) : ∃ xs : List Int, xs ≠ [] ∧ xs.length ≤ 3 ∧ (∀ x ∈ xs, x.natAbs ≤ M * 5000) ∧
    callF fs wf pm (n + 1) iC [.t (.scr ns), .t (.int (m : Int))] [] = .ok (.t (.lst (xs.map T.int))) [] := by
  have c1 : cutL ns none (some (m : Int)) = ns.take m := cut_lo ns m
  have c2 : cutL ns (some (m : Int)) (some 63) = (ns.drop m).take (63 - m) := cut_2 ns m 63 (by omega)
  have small : ∀ z ∈ ns.take m, z.natAbs ≤ M * 5000 := fun z h => Nat.le_trans (hz z (List.mem_of_mem_take h)) (Nat.le_mul_of_pos_right M (by decide))
  by_cases hl : ns.length ≤ m
  · have hd : (ns.drop m).take (63 - m) = [] := by rw [List.drop_eq_nil_of_le hl]; simp
    rw [hd] at c2
    cases hns : ns.take m with
    | nil =>
      rw [hns] at c1
      refine ⟨[0], by simp, by simp, fun x hx => by simp at hx; subst hx; simp, callF_of hF rfl (Le.refl _) ?_⟩
      unfold bodyF
      simp [FCells, pt1, pt2, sl_scr, c1, c2, b_lst, own_l, tr_l, rd, Cl.tr, src_en, enumT, forGo, fin, R.cut]
    | cons z zs =>
      rw [hns] at c1 small
      have h3 : (z :: zs).length ≤ 3 := by rw [← hns, List.length_take]; omega
      refine ⟨z :: zs, by simp, h3, small, callF_of hF rfl (Le.refl _) ?_⟩
      unfold bodyF
      simp [FCells, pt1, pt2, sl_scr, c1, c2, b_lst, own_l, tr_l, rd, Cl.tr, src_en, enumT, forGo, fin, R.cut]
  · have hlm : (ns.take m).length = m := by rw [List.length_take]; omega
    obtain ⟨zs, hzs⟩ : ∃ zs, zs = (ns.drop m).take (63 - m) := ⟨_, rfl⟩
    rw [← hzs] at c2
    have hzl : zs.length ≤ 63 := by rw [hzs, List.length_take]; omega
    obtain ⟨xs', x', y', u', e, h1, h2⟩ := cells_loop (wf := wf) (cl := callF fs wf pm n) (pm := pm) (ns := ns) hm hM zs 0 1 (ns.take m) none none none hlm (fun z h => hz z (by rw [hzs] at h; exact List.mem_of_mem_drop (List.mem_of_mem_take h))) (by omega) (fun a h => by rw [Nat.mul_one]; exact hz a (List.mem_of_mem_take h))
    have hs := src_en (zs.map T.int) [Cl.lst ((ns.take m).map T.int)] (by rw [List.length_map]; unfold line; omega)
    have hne : ns.take m ≠ [] := fun h => by rw [h] at hlm; simp at hlm; omega
    refine ⟨xs', fun h => by rw [h] at h1; simp at h1; omega, by omega, fun x hx => Nat.le_trans (h2 x hx) (Nat.mul_le_mul_left _ (by omega)), callF_of hF rfl (Le.refl _) ?_⟩
    generalize hq : ns.take m = q at *
    cases q with
    | nil => exact absurd rfl hne
    | cons a q =>
      unfold bodyF
      rw [List.map_cons] at e hs
      simp [FCells, pt1, pt2, sl_scr, c1, c2, b_lst, own_l, tr_l, rd, Cl.tr, hs, e, fin, R.cut]
end
end Qq.Lw

set_option maxHeartbeats 400000
/-! P3: equal things of equal kinds; the law's last line. -/
namespace Qq.Lw
open PySem L2
/-- an atom -/
def atm : T → Bool
  | .non => true
  | .bl _ => true
  | .int _ => true
  | .str x => PyData.strOk x
  | _ => false
/-- data, nested so deep at most -/
def pln : Nat → T → Bool
  | 0, t => atm t
  | k + 1, t => match t with
    | .lst ts => ts.all (pln k) && decide (ts.length ≤ 1000000)
    | .tup ts => ts.all (pln k) && decide (ts.length ≤ 1000000)
    | t => atm t
theorem i01 : isiAny "int" ["list", "tuple"] = some false := by decide +kernel
theorem i02 : isiAny "NoneType" ["list", "tuple"] = some false := by decide +kernel
theorem i03 : isiAny "list" ["list", "tuple"] = some true := by decide +kernel
theorem i04 : isiAny "list" ["list"] = some true := by decide +kernel
theorem i05 : isiAny "list" ["tuple"] = some false := by decide +kernel
theorem i06 : isiAny "int" ["bool", "str"] = some false := by decide +kernel
theorem i07 : isiAny "int" ["int"] = some true := by decide +kernel
theorem i08 : isiAny "int" ["bool"] = some false := by decide +kernel
theorem i09 : isiAny "NoneType" ["bool"] = some false := by decide +kernel
theorem i10 : isiAny "tuple" ["list", "tuple"] = some true := by decide +kernel
theorem i11 : isiAny "tuple" ["list"] = some false := by decide +kernel
theorem i12 : isiAny "tuple" ["tuple"] = some true := by decide +kernel
theorem i13 : isiAny "bool" ["list", "tuple"] = some false := by decide +kernel
theorem i14 : isiAny "str" ["list", "tuple"] = some false := by decide +kernel
theorem i15 : isiAny "bool" ["bool", "str"] = some true := by decide +kernel
theorem i16 : isiAny "str" ["bool", "str"] = some true := by decide +kernel
theorem i17 : isiAny "bool" ["bool"] = some true := by decide +kernel
theorem i18 : isiAny "str" ["bool"] = some false := by decide +kernel
theorem eb1 : cmpT .Eq (.bl true) (.bl true) = some true := by decide +kernel
theorem eb2 : cmpT .Eq (.bl false) (.bl false) = some true := by decide +kernel
theorem eb3 : cmpT .NotEq (.bl true) (.bl true) = some false := by decide +kernel
theorem eb4 : cmpT .NotEq (.bl false) (.bl false) = some false := by decide +kernel
theorem eb5 : cmpT .Eq .non .non = some true := by decide +kernel
theorem eb6 (b : Bool) : cmpT .Eq (.bl b) (.bl b) = some true := by cases b <;> decide +kernel
theorem eqT_str {x : Str} (h : PyData.strOk x = true) : eqT (.str x) (.str x) = some true := by
  unfold eqT
  simp [T.pd, shB_eq, SeqAt.shaped, PyData.eqv, PyData.canLay0, PyData.depth, h]
theorem eb7 {x : Str} (h : PyData.strOk x = true) : cmpT .Eq (.str x) (.str x) = some true := eqT_str h
theorem is1 : cmpT .Is .non .non = some true := rfl
theorem is2 (i : Int) : cmpT .Is (.int i) .non = some false := rfl
theorem is3 (i : Bool) : cmpT .Is (.bl i) .non = some false := rfl
theorem is4 (i : Str) : cmpT .Is (.str i) .non = some false := rfl
theorem bools_rep : ∀ n : Nat, boolsT (List.replicate n (.bl true)) = some (List.replicate n true)
  | 0 => rfl
  | n + 1 => by
    rw [List.replicate_succ, List.replicate_succ]
    show (boolsT (List.replicate n (.bl true))).map _ = _
    rw [bools_rep n]; rfl
theorem all_rep (n : Nat) : biT .all [.lst (List.replicate n (.bl true))] = some (.bl true) := by
  show (boolsT _).map _ = _
  rw [bools_rep]
  simp
def FSame (i : Nat) : FI := ⟨2, 4, false, (.seq (.ite (.tru (.isi (.var 1) ["list", "tuple"] false)) (.seq (.ite (.orV (.cmp .NotEq (.isi (.var 0) ["list"] true) (.isi (.var 1) ["list"] true)) (.cmp .NotEq (.isi (.var 0) ["tuple"] true) (.isi (.var 1) ["tuple"] true))) (.seq (.ret (.cst (.bl false))) .nil) .nil) (.seq (.ret (.andV (.cmp .Eq (.bi false .len (.cons (.var 0) .nil)) (.bi false .len (.cons (.var 1) .nil))) (.bi false .all (.cons (.comp false [2, 3] (.cons (.n 2) (.cons (.n 3) .nil)) .zip (.cons (.var 0) (.cons (.var 1) .nil)) (.cst (.bl true)) (.frz (.call i (.cons (.var 2) (.cons (.var 3) .nil))))) .nil)))) .nil)) .nil) (.seq (.ite (.orV (.cmp .Is (.var 1) (.cst .non)) (.tru (.isi (.var 1) ["bool", "str"] false))) (.seq (.ret (.andV (.cmp .Eq (.var 0) (.var 1)) (.andV (.cmp .Eq (.isi (.var 0) ["bool"] true) (.isi (.var 1) ["bool"] true)) (.cmp .Eq (.cmp .Is (.var 0) (.cst .non)) (.cmp .Is (.var 1) (.cst .non)))))) .nil) .nil) (.seq (.ret (.andV (.isi (.var 0) ["int"] true) (.andV (.notV (.isi (.var 0) ["bool"] true)) (.cmp .Eq (.var 0) (.var 1))))) .nil)))⟩
theorem zip_same : ∀ ts : List T, (zipT ts ts).length = ts.length
  | [] => rfl
  | t :: ts => by unfold zipT; rw [List.length_cons, List.length_cons, zip_same ts]
section
variable {fs : List FI} {wf : Nat} {pm : Nat → List D → List D → Option (List D)} {i : Nat} (hF : fs[i]? = some (FSame i))
include hF
theorem same_at {m : Nat} {t : T} {S : Sto} (h : atm t = true) : callF fs wf pm (m + 1) i [.t t, .t t] S = .ok (.t (.bl true)) S := by
  refine callF_of hF rfl (Le.refl _) ?_
  unfold bodyF
  cases t with
  | non => simp [FSame, tyT, i02, i09, is1, eb1, eb2, eb5, fin, R.cut, take_len1, take_len, truT]
  | bl b => simp [FSame, tyT, i13, i15, i17, is3, eb1, eb2, eb5, eb6, fin, R.cut, take_len1, take_len, truT]
  | int j => simp [FSame, tyT, i01, i06, i07, i08, is2, c_eq, fin, R.cut, take_len1, take_len, truT]
  | str x => simp [FSame, tyT, i14, i16, i18, is4, eb1, eb2, eb5, eb7 h, fin, R.cut, take_len1, take_len, truT]
  | _ => cases h
omit hF in
theorem same_go {cl : Nat → List D → Sto → R D} {f : T → Bool} {x y : Option D} {S : Sto} (hf : ∀ t, f t = true → cl i [.t t, .t t] S = .ok (.t (.bl true)) S) : ∀ ts : List T, ts.all f = true →
    compGo (compEl cl pm [2, 3] (.cons (.n 2) (.cons (.n 3) .nil)) (.cst (.bl true)) (.frz (.call i (.cons (.var 2) (.cons (.var 3) .nil)))) [x, y, none, none]) (zipT ts ts) S = .ok (List.replicate ts.length (.bl true)) S
  | [], _ => rfl
  | t :: ts, h => by
    rw [List.all_cons, Bool.and_eq_true] at h
    unfold zipT compGo
    simp [compEl, wip, hf t h.1, R.nox, R.cut, take_len, same_go hf ts h.2, List.replicate_succ]
/-- the same twice -/
theorem same_ok : ∀ (k n : Nat) (t : T) (S : Sto), pln k t = true → callF fs wf pm (n + 1 + k) i [.t t, .t t] S = .ok (.t (.bl true)) S
  | 0, n, t, S, h => same_at hF h
  | k + 1, n, t, S, h => by
    unfold pln at h
    split at h
    · rename_i ts
      rw [Bool.and_eq_true] at h
      refine callF_of (n := n + 1 + k) hF rfl (Le.refl _) ?_
      have hg := same_go (i := i) (pm := pm) (x := some (.t (.lst ts))) (y := some (.t (.lst ts))) (fun t z => same_ok k n t S z) ts h.1
      have hz : (zipT ts ts).length ≤ line := by rw [zip_same]; exact Nat.le_trans (of_decide_eq_true h.2) (by decide)
      have hs : srcT .zip (.l [.t (.lst ts), .t (.lst ts)]) S = some (none, zipT ts ts) := if_pos hz
      unfold bodyF
      simp [FSame, tyT, i03, i04, i05, eb3, eb4, c_eq, fin, R.cut, take_len1, take_len, truT, b_len, hs, hg, all_rep]
    · rename_i ts
      rw [Bool.and_eq_true] at h
      refine callF_of (n := n + 1 + k) hF rfl (Le.refl _) ?_
      have hg := same_go (i := i) (pm := pm) (x := some (.t (.tup ts))) (y := some (.t (.tup ts))) (fun t z => same_ok k n t S z) ts h.1
      have hz : (zipT ts ts).length ≤ line := by rw [zip_same]; exact Nat.le_trans (of_decide_eq_true h.2) (by decide)
      have hs : srcT .zip (.l [.t (.tup ts), .t (.tup ts)]) S = some (none, zipT ts ts) := if_pos hz
      unfold bodyF
      simp [FSame, tyT, i10, i11, i12, eb3, eb4, c_eq, fin, R.cut, take_len1, take_len, truT, b_lent, hs, hg, all_rep]
    · exact same_at (m := n + 1 + k) hF h
end

/-! the law's last line -/
section
variable {fs : List FI} {wf : Nat} {pm : Nat → List D → List D → Option (List D)}
theorem el_gen {cl : Nat → List D → Sto → R D} {iB iR : Nat} {x : Option D} {t u : T} {c0 c1 : Cl} (e : cl iB [.t t, .t u] [] = .ok (.o 0) [c0]) (e2 : cl iR [.o 0] [c0] = .ok (.t (.bl true)) [c1]) :
    compEl cl pm [2] (.n 2) (.cst (.bl true)) (.frz (.call iR (.cons (.call iB (.cons (.var 1) (.cons (.var 2) .nil))) .nil))) [x, some (.t t), none] u [] = .ok (some (.bl true)) [] := by
  simp [compEl, wip, e, e2, R.nox, R.cut]
/-- the law behind what is asked by hand -/
def LTail (iC iB iR : Nat) (m : Int) : P := (.seq (.asg (.n 1) (.call iC (.cons (.var 0) (.cons (.cst (.int m)) .nil)))) (.seq (.ret (.bi false .all (.cons (.comp false [2] (.n 2) .r1 (.cons (.bi false .len (.cons (.var 1) .nil)) .nil) (.cst (.bl true)) (.frz (.call iR (.cons (.call iB (.cons (.var 1) (.cons (.var 2) .nil))) .nil)))) .nil))) .nil))
/-- asked by hand first -/
def FLawH (iH iC iB iR : Nat) (m : Int) : FI := ⟨1, 3, false, (.seq (.ite (.notV (.tru (.call iH .nil))) (.seq (.ret (.cst (.bl false))) .nil) .nil) (LTail iC iB iR m))⟩
theorem comp_all {cl : Nat → List D → Sto → R D} {iB iR : Nat} {xs : List Int} {x : Option D} (h : ∀ (k : Nat), k < xs.length → ∃ c0 c1, cl iB [.t (.lst (xs.map T.int)), .t (.int (k : Int))] [] = .ok (.o 0) [c0] ∧ cl iR [.o 0] [c0] = .ok (.t (.bl true)) [c1]) : ∀ (n k : Nat), k + n ≤ xs.length →
    compGo (compEl cl pm [2] (.n 2) (.cst (.bl true)) (.frz (.call iR (.cons (.call iB (.cons (.var 1) (.cons (.var 2) .nil))) .nil))) [x, some (.t (.lst (xs.map T.int))), none]) (upT (k : Int) n) [] = .ok (List.replicate n (.bl true)) []
  | 0, _, _ => rfl
  | n + 1, k, hk => by
    have ih := comp_all (x := x) h n (k + 1) (by omega)
    obtain ⟨c0, c1, e1, e2⟩ := h k (by omega)
    unfold upT compGo
    rw [el_gen e1 e2]
    show R.bind (compGo _ (upT ((k : Int) + 1) n) []) _ = _
    have ec : ((k + 1 : Nat) : Int) = (k : Int) + 1 := by omega
    rw [ec] at ih
    rw [ih]
    rfl
theorem lg_le {z : Int} {e : Nat} (h : z.natAbs ≤ 2 ^ e) : z.natAbs.log2 < e + 1 := lg (Nat.lt_of_le_of_lt h (Nat.pow_lt_pow_right (by decide) (Nat.lt_succ_self e))) (Nat.succ_pos e)
theorem bits_le {z : Int} {e : Nat} (h : Builtin.Int.intBits z ≤ e) : z.natAbs ≤ 2 ^ e := by
  unfold Builtin.Int.intBits at h
  split at h
  · rename_i h0
    have : z = 0 := by simpa using h0
    subst this
    exact Nat.zero_le _
  · exact Nat.le_of_lt (Nat.lt_of_lt_of_le Nat.lt_log2_self (Nat.pow_le_pow_right (by decide) h))
/-- what is left of a law: right for each jar -/
def RightOk (cl : Nat → List D → Sto → R D) (iR : Nat) : Prop := ∀ j, JarOk (2 ^ 80) j → ∃ j', cl iR [.o 0] [j] = .ok (.t (.bl true)) [j']
theorem boxes {n iB iR : Nat} {cA cB : Int} (hB : fs[iB]? = some (FBox cA cB)) (hA : 0 ≤ cA ∧ cA < 2 ^ 40) (hC : 0 ≤ cB ∧ cB < 2 ^ 40) (hR : RightOk (callF fs wf pm (n + 1)) iR) {xs : List Int} (h3 : xs.length ≤ 3) (hb : ∀ x ∈ xs, x.natAbs.log2 < 100000000) (k : Nat) (hk : k < xs.length) :
    ∃ c0 c1, callF fs wf pm (n + 1) iB [.t (.lst (xs.map T.int)), .t (.int (k : Int))] [] = .ok (.o 0) [c0] ∧ callF fs wf pm (n + 1) iR [.o 0] [c0] = .ok (.t (.bl true)) [c1] := by
  obtain ⟨j, hj, e⟩ := box_ok (wf := wf) (pm := pm) (n := n) hB hA hC (xs := xs) (k := k) (x := xs[k]) (by simp [hk]) (by omega) (hb _ (List.getElem_mem hk))
  obtain ⟨j', e2⟩ := hR j hj
  exact ⟨j, j', e, e2⟩
theorem tail_ok {n iC iB iR m : Nat} {cA cB : Int} (hC : fs[iC]? = some FCells) (hB : fs[iB]? = some (FBox cA cB)) (hm : 0 < m ∧ m ≤ 3) (h1 : 0 ≤ cA ∧ cA < 2 ^ 40) (h2 : 0 ≤ cB ∧ cB < 2 ^ 40) (hR : RightOk (callF fs wf pm (n + 1)) iR) {ns : List Int} (hz : ∀ z ∈ ns, Builtin.Int.intBits z ≤ 1048576) :
    ∃ r, exec wf (callF fs wf pm (n + 1)) pm (LTail iC iB iR (m : Int)) [some (.t (.scr ns)), none, none] [] = .ok (.ret (.t (.bl true)), r) [] := by
  have gen : ∀ e : Nat, e ≤ 2000000 → (∀ z ∈ ns, z.natAbs ≤ 2 ^ e) → ∃ xs : List Int, xs ≠ [] ∧ xs.length ≤ 3 ∧ (∀ x ∈ xs, x.natAbs.log2 < 100000000) ∧ callF fs wf pm (n + 1) iC [.t (.scr ns), .t (.int (m : Int))] [] = .ok (.t (.lst (xs.map T.int))) [] := fun e he hz => by
    obtain ⟨xs, a1, a2, a3, a4⟩ := cells_ok (wf := wf) (pm := pm) (n := n) hC hm.1 hm.2 (M := 2 ^ e) (fun z h => Nat.lt_of_lt_of_le (lg_le h) (by omega)) hz
    refine ⟨xs, a1, a2, fun x hx => ?_, a4⟩
    have h3 : (2 : Nat) ^ e * 5000 ≤ 2 ^ (e + 13) := by
      rw [Nat.pow_add]
      exact Nat.mul_le_mul_left _ (by decide)
    exact Nat.lt_of_lt_of_le (lg_le (Nat.le_trans (a3 x hx) h3)) (by omega)
  obtain ⟨xs, a1, a2, a3, a4⟩ := gen 1048576 (by omega) (fun z h => bits_le (hz z h))
  have hc := comp_all (pm := pm) (x := some (.t (.scr ns))) (boxes hB h1 h2 hR a2 a3) xs.length 0 (by omega)
  have hsr := src_r1 xs.length (by omega) []
  refine ⟨[some (.t (.scr ns)), some (.t (.lst (xs.map T.int))), none], ?_⟩
  generalize callF fs wf pm (n + 1) = cl at *
  simp at hc hsr
  simp [LTail, a4, b_len, hsr, hc, all_rep]
theorem lawH_ok {n iL iH iC iB iR m : Nat} {cA cB : Int} (hL : fs[iL]? = some (FLawH iH iC iB iR (m : Int))) (hC : fs[iC]? = some FCells) (hB : fs[iB]? = some (FBox cA cB)) (hm : 0 < m ∧ m ≤ 3) (h1 : 0 ≤ cA ∧ cA < 2 ^ 40) (h2 : 0 ≤ cB ∧ cB < 2 ^ 40)
    (hH : callF fs wf pm (n + 1) iH [] [] = .ok (.t (.bl true)) []) (hR : RightOk (callF fs wf pm (n + 1)) iR) (ns : List Int) (hz : ∀ z ∈ ns, Builtin.Int.intBits z ≤ 1048576) : callF fs wf pm (n + 1 + 1) iL [.t (.scr ns)] [] = .ok (.t (.bl true)) [] := by
  obtain ⟨r, e⟩ := tail_ok (wf := wf) (pm := pm) hC hB hm h1 h2 hR hz
  refine callF_of hL rfl (Le.refl _) ?_
  unfold bodyF
  generalize callF fs wf pm (n + 1) = cl at *
  simp [FLawH, hH, truT]
  rw [e]
  rfl
end
end Qq.Lw

set_option maxHeartbeats 400000
/-! P4: probes: many_found, fewest_probes. -/
namespace Qq.Lw
open PySem L2
variable {fs : List FI} {pm : Nat → List D → List D → Option (List D)}
def mfl (p e : Int) : Nat → Int → Int → Int → Option Int
  | 0, _, fd, _ => some fd
  | n + 1, t, fd, pt => match binT .Mult (.int pt) (.int (p - t)) with
    | some (.int m) => match binT .FloorDiv (.int m) (.int (t + 1)) with
      | some (.int q) => if e < fd + pt then some (fd + pt) else mfl p e n (t + 1) (fd + pt) q
      | _ => none
    | _ => none
def mB : P := (.seq (.aug 4 .Add (.var 5)) (.seq (.asg (.n 5) (.bin false .FloorDiv (.bin false .Mult (.var 5) (.bin false .Sub (.var 0) (.var 3))) (.bin false .Add (.var 3) (.cst (.int 1))))) (.seq (.ite (.cmp .Gt (.var 4) (.var 2)) (.seq .brk .nil) .nil) .nil)))
def FMany : FI := ⟨3, 6, false, (.seq (.asg (.cons (.n 4) (.cons (.n 5) .nil)) (.tup (.cons (.cst (.int 0)) (.cons (.cst (.int 1)) .nil)))) (.seq (.for_ (.n 3) .r1 (.cons (.bin false .Add (.bi false .min2 (.cons (.var 0) (.cons (.var 1) .nil))) (.cst (.int 1))) .nil) mB) (.seq (.ret (.var 4)) .nil)))⟩
theorem mf_loop {wf : Nat} {cl : Nat → List D → Sto → R D} (p r e : Int) (S : Sto) : ∀ (k : Nat) (t fd pt v : Int) (x : Option D), mfl p e k t fd pt = some v →
    ∃ y w, forGo (forEl wf cl pm (.n 3) mB) (upT t k) [some (.t (.int p)), some (.t (.int r)), some (.t (.int e)), x, some (.t (.int fd)), some (.t (.int pt))] S = .ok (.nx, [some (.t (.int p)), some (.t (.int r)), some (.t (.int e)), y, some (.t (.int v)), w]) S := by
  intro k
  induction k with
  | zero =>
    intro t fd pt v x h
    cases h
    exact ⟨_, _, rfl⟩
  | succ k ih =>
    intro t fd pt v x h
    unfold mfl at h
    split at h
    · rename_i m hm
      split at h
      · rename_i q hq
        unfold upT forGo
        split at h
        · rename_i hc
          cases h
          refine ⟨some (.t (.int t)), some (.t (.int q)), ?_⟩
          simp [forEl, mB, hm, hq, b_add, b_sub, c_gt, hc]
        · rename_i hc
          obtain ⟨y, w, ih⟩ := ih (t + 1) (fd + pt) q v (some (.t (.int t))) h
          refine ⟨y, w, ?_⟩
          rw [← ih]
          simp [forEl, mB, hm, hq, b_add, b_sub, c_gt, hc]
      · cases h
    · cases h
def mfO (p r e : Int) : Option Int := if -(2 ^ 62) ≤ mnI p r + 1 ∧ mnI p r + 1 ≤ 16777216 then mfl p e (mnI p r + 1).toNat 0 0 1 else none
theorem mf_ok {n iM : Nat} (hM : fs[iM]? = some FMany) {p r e v : Int} {S : Sto} (h : mfO p r e = some v) : callF fs 300 pm (n + 1) iM [.t (.int p), .t (.int r), .t (.int e)] S = .ok (.t (.int v)) S := by
  unfold mfO at h
  generalize hm : mnI p r = mm at h
  by_cases hc : -(2 ^ 62) ≤ mm + 1 ∧ mm + 1 ≤ 16777216
  · rw [if_pos hc] at h
    obtain ⟨y, w, hl⟩ := mf_loop (wf := 300) (cl := callF fs 300 pm n) (pm := pm) p r e S (mm + 1).toNat 0 0 1 v none h
    have hlen : (mm + 1).toNat ≤ line := by unfold line; omega
    have hit : itT .r1 [.int (mm + 1)] = some (upT 0 (mm + 1).toNat) := if_pos hc
    refine callF_of hM rfl (Le.refl _) ?_
    unfold bodyF
    simp [FMany, b_add, b_min, hm, srcT, itC, lkOf, hit, hlen, len_upT, lockS, unlockS, hl, fin, R.cut, take_len1, take_len]
  · rw [if_neg hc] at h; cases h

theorem b_fd2 (i : Int) : binT .FloorDiv (.int i) (.int 2) = some (.int (i / 2)) := b_fd (by decide +kernel)
def bis (sp rf : Int) : Nat → Int → Int → Option Int
  | 0, _, _ => none
  | n + 1, lo, hi => if lo < hi then (match mfO ((lo + hi) / 2) rf sp with
    | some v => if sp < v then bis sp rf n lo ((lo + hi) / 2) else bis sp rf n ((lo + hi) / 2 + 1) hi
    | none => none) else some lo
def bB (iM : Nat) : P := (.seq (.asg (.n 4) (.bin false .FloorDiv (.bin false .Add (.var 2) (.var 3)) (.cst (.int 2)))) (.seq (.asg (.cons (.n 2) (.cons (.n 3) .nil)) (.ife (.cmp .Gt (.call iM (.cons (.var 4) (.cons (.var 1) (.cons (.var 0) .nil)))) (.var 0)) (.tup (.cons (.var 2) (.cons (.var 4) .nil))) (.tup (.cons (.bin false .Add (.var 4) (.cst (.int 1))) (.cons (.var 3) .nil))))) .nil))
def FFew (iM : Nat) : FI := ⟨2, 5, false, (.seq (.ite (.orV (.cmp .Eq (.var 0) (.cst (.int 0))) (.cmp .Eq (.var 1) (.cst (.int 0)))) (.seq (.ret (.ife (.cmp .Eq (.var 0) (.cst (.int 0))) (.cst (.int 0)) (.cst .non))) .nil) .nil) (.seq (.par [2, 3] (.cons (.cst (.int 0)) (.cons (.var 0) .nil))) (.seq (.whl (.cmp .Lt (.var 2) (.var 3)) (bB iM)) (.seq (.ret (.var 2)) .nil))))⟩
theorem bis_loop {n iM : Nat} (hM : fs[iM]? = some FMany) (sp rf : Int) (S : Sto) : ∀ (k : Nat) (lo hi v : Int) (x : Option D), bis sp rf k lo hi = some v →
    ∃ y w, whlGo (tst (callF fs 300 pm (n + 1)) pm (.cmp .Lt (.var 2) (.var 3))) (exec 300 (callF fs 300 pm (n + 1)) pm (bB iM)) k [some (.t (.int sp)), some (.t (.int rf)), some (.t (.int lo)), some (.t (.int hi)), x] S = .ok (.nx, [some (.t (.int sp)), some (.t (.int rf)), some (.t (.int v)), y, w]) S := by
  intro k
  induction k with
  | zero => intro lo hi v x h; cases h
  | succ k ih =>
    intro lo hi v x h
    unfold bis at h
    unfold whlGo
    split at h
    · rename_i hc
      split at h
      · rename_i u hu
        split at h
        · rename_i hg
          obtain ⟨y, w, ih⟩ := ih lo ((lo + hi) / 2) v (some (.t (.int ((lo + hi) / 2)))) h
          refine ⟨y, w, ?_⟩
          rw [← ih]
          simp [tst, bB, c_lt, c_gt, hc, b_add, b_fd2, mf_ok hM hu, hg]
        · rename_i hg
          obtain ⟨y, w, ih⟩ := ih ((lo + hi) / 2 + 1) hi v (some (.t (.int ((lo + hi) / 2)))) h
          refine ⟨y, w, ?_⟩
          rw [← ih]
          simp [tst, bB, c_lt, c_gt, hc, b_add, b_fd2, mf_ok hM hu, hg]
      · cases h
    · rename_i hc
      cases h
      exact ⟨some (.t (.int hi)), x, by simp [tst, c_lt, hc]⟩
def fpO (sp rf : Int) : Option T := if sp = 0 then some (.int 0) else if rf = 0 then some .non else (bis sp rf 300 0 sp).map T.int
theorem fp_ok {n iM iF : Nat} (hM : fs[iM]? = some FMany) (hF : fs[iF]? = some (FFew iM)) {sp rf : Int} {v : T} {S : Sto} (h : fpO sp rf = some v) : callF fs 300 pm (n + 2) iF [.t (.int sp), .t (.int rf)] S = .ok (.t v) S := by
  refine callF_of hF rfl (Le.refl _) ?_
  unfold bodyF
  unfold fpO at h
  by_cases h1 : sp = 0
  · rw [if_pos h1] at h
    cases h
    simp [FFew, c_eq, h1, fin, R.cut, take_len1, take_len, truT]
  · rw [if_neg h1] at h
    by_cases h2 : rf = 0
    · rw [if_pos h2] at h
      cases h
      simp [FFew, c_eq, h1, h2, fin, R.cut, take_len1, take_len, truT]
    · rw [if_neg h2] at h
      obtain ⟨u, hu, rfl⟩ := Option.map_eq_some_iff.mp h
      obtain ⟨y, w, hl⟩ := bis_loop (pm := pm) (n := n) hM sp rf S 300 0 sp u none hu
      simp [FFew, c_eq, h1, h2, fin, R.cut, take_len1, take_len, truT, asgP, hl]
end Qq.Lw

set_option maxHeartbeats 400000
/-! P7: plain trees: equal to themselves, in a list of texts; tupled, lists. -/
namespace Qq.Lw
open PySem L2

mutual
theorem eqv_self : ∀ (t : T) (p : PyData), t.pd = some p → PyData.eqv p p = true
  | .non, p, h => by unfold T.pd at h; cases h; rfl
  | .bl b, p, h => by unfold T.pd at h; cases h; cases b <;> rfl
  | .int i, p, h => by unfold T.pd at h; cases h; show (i == i) = true; simp
  | .str x, p, h => by unfold T.pd at h; cases h; show (x == x) = true; simp
  | .lst xs, p, h => by
    unfold T.pd at h
    cases e : T.pdL xs with
    | none => rw [e] at h; cases h
    | some ds => rw [e] at h; cases h; unfold PyData.eqv; exact eqvs_self xs ds e
  | .tup xs, p, h => by
    unfold T.pd at h
    cases e : T.pdL xs with
    | none => rw [e] at h; cases h
    | some ds => rw [e] at h; cases h; unfold PyData.eqv; exact eqvs_self xs ds e
  | .dK _, p, h => by unfold T.pd at h; cases h
  | .dT _, p, h => by unfold T.pd at h; cases h
  | .scr _, p, h => by unfold T.pd at h; cases h
theorem eqvs_self : ∀ (ts : List T) (ps : List PyData), T.pdL ts = some ps → PyData.eqvAll ps ps = true
  | [], ps, h => by unfold T.pdL at h; cases h; rfl
  | t :: ts, ps, h => by
    unfold T.pdL at h
    cases e1 : T.pd t with
    | none => rw [e1] at h; cases h
    | some p =>
      cases e2 : T.pdL ts with
      | none => rw [e1, e2] at h; cases h
      | some q =>
        rw [e1, e2] at h
        cases h
        unfold PyData.eqvAll
        rw [eqv_self t p e1, eqvs_self ts q e2]; rfl
end
theorem depthAll_le {n : Nat} : ∀ ps : List PyData, (∀ p ∈ ps, p.depth ≤ n) → PyData.depthAll ps ≤ n
  | [], _ => Nat.zero_le _
  | p :: ps, h => by
    unfold PyData.depthAll
    have h1 := h p List.mem_cons_self
    have h2 := depthAll_le ps fun q hq => h q (List.mem_cons_of_mem _ hq)
    omega
theorem pd_atm {t : T} (h : atm t = true) : ∃ p, t.pd = some p ∧ p.canLay0 = true ∧ p.depth ≤ 1 := by
  cases t <;> first | cases h | skip
  · exact ⟨_, rfl, rfl, by simp [PyData.depth]⟩
  · exact ⟨_, rfl, rfl, by simp [PyData.depth]⟩
  · exact ⟨_, rfl, rfl, by simp [PyData.depth]⟩
  · rename_i x
    have h : PyData.strOk x = true := h
    exact ⟨.str x, rfl, by unfold PyData.canLay0; exact h, by simp [PyData.depth]⟩
theorem pd_list {n : Nat} {ts : List T} (h : ∀ t ∈ ts, ∃ p, t.pd = some p ∧ p.canLay0 = true ∧ p.depth ≤ n) : ∃ ps, T.pdL ts = some ps ∧ PyData.canLayAll0 ps = true ∧ ∀ p ∈ ps, p.depth ≤ n := by
  induction ts with
  | nil => exact ⟨[], rfl, rfl, fun p hp => nomatch hp⟩
  | cons t ts ih =>
    obtain ⟨p, h1, h2, h3⟩ := h t List.mem_cons_self
    obtain ⟨ps, h4, h5, h6⟩ := ih fun u hu => h u (List.mem_cons_of_mem _ hu)
    refine ⟨p :: ps, ?_, ?_, fun q hq => ?_⟩
    · unfold T.pdL; rw [h1, h4]
    · unfold PyData.canLayAll0; rw [h2, h5]; rfl
    · rcases List.mem_cons.mp hq with rfl | hq
      · exact h3
      · exact h6 q hq
theorem pd_ok : ∀ (k : Nat) (t : T), pln k t = true → ∃ p, t.pd = some p ∧ p.canLay0 = true ∧ p.depth ≤ k + 1
  | 0, t, h => pd_atm h
  | k + 1, t, h => by
    unfold pln at h
    split at h
    · rename_i ts
      rw [Bool.and_eq_true] at h
      obtain ⟨ps, h1, h2, h3⟩ := pd_list fun t ht => pd_ok k t (List.all_eq_true.mp h.1 t ht)
      refine ⟨.list ps, by unfold T.pd; rw [h1], by unfold PyData.canLay0; exact h2, ?_⟩
      have := depthAll_le ps h3
      unfold PyData.depth; omega
    · rename_i ts
      rw [Bool.and_eq_true] at h
      obtain ⟨ps, h1, h2, h3⟩ := pd_list fun t ht => pd_ok k t (List.all_eq_true.mp h.1 t ht)
      refine ⟨.tuple ps, by unfold T.pd; rw [h1], by unfold PyData.canLay0; exact h2, ?_⟩
      have := depthAll_le ps h3
      unfold PyData.depth; omega
    · obtain ⟨p, h1, h2, h3⟩ := pd_atm h
      exact ⟨p, h1, h2, by omega⟩
theorem eqT_self {k : Nat} {t : T} (h : pln k t = true) (hk : k ≤ 60) : eqT t t = some true := by
  obtain ⟨p, h1, h2, h3⟩ := pd_ok k t h
  unfold eqT
  rw [h1]
  have hs : SeqAt.shaped p = true := by unfold SeqAt.shaped; rw [h2]; simp; omega
  simp [shB_eq, hs, eqv_self t p h1]
theorem inT_strs {w : Str} {g : List Str} (hw : PyData.strOk w = true) (hg : ∀ x ∈ g, PyData.strOk x = true) : inT (.str w) (g.map T.str) = some (g.any fun z => z == w) := by
  have e : T.pdL (g.map T.str) = some (g.map PyData.str) ∧ PyData.canLayAll0 (g.map PyData.str) = true := by
    induction g with
    | nil => exact ⟨rfl, rfl⟩
    | cons x g ih =>
      obtain ⟨i1, i2⟩ := ih fun y hy => hg y (List.mem_cons_of_mem _ hy)
      refine ⟨?_, ?_⟩
      · rw [List.map_cons, List.map_cons]; unfold T.pdL T.pd; rw [i1]
      · rw [List.map_cons]; unfold PyData.canLayAll0 PyData.canLay0; rw [hg x List.mem_cons_self, i2]; rfl
  unfold inT
  have hs : SeqAt.shaped (.str w) = true := by simp [SeqAt.shaped, PyData.canLay0, PyData.depth, hw]
  rw [e.1]
  simp only [T.pd, shB_eq, canBs_eq, hs, e.2, Bool.and_self, if_true, List.any_map]
  rfl

/-! tupled, lists -/
def FTup (i : Nat) : FI := ⟨1, 2, false, (.seq (.ret (.ife (.tru (.isi (.var 0) ["list", "tuple"] false)) (.bi false .tuple (.cons (.comp false [1] (.n 1) .seq (.cons (.var 0) .nil) (.cst (.bl true)) (.frz (.call i (.cons (.var 1) .nil)))) .nil)) (.var 0))) .nil)⟩
def FLists (i : Nat) : FI := ⟨1, 2, false, (.seq (.ret (.ife (.tru (.isi (.var 0) ["list", "tuple"] false)) (.comp false [1] (.n 1) .seq (.cons (.var 0) .nil) (.cst (.bl true)) (.frz (.call i (.cons (.var 1) .nil)))) (.var 0))) .nil)⟩
def tupD : Nat → T → T
  | 0, t => t
  | k + 1, t => match t with
    | .lst ts => .tup (ts.map (tupD k))
    | .tup ts => .tup (ts.map (tupD k))
    | t => t
def lstD : Nat → T → T
  | 0, t => t
  | k + 1, t => match t with
    | .lst ts => .lst (ts.map (lstD k))
    | .tup ts => .lst (ts.map (lstD k))
    | t => t
section
variable {fs : List FI} {wf : Nat} {pm : Nat → List D → List D → Option (List D)}
theorem rec_go {cl : Nat → List D → Sto → R D} {i : Nat} {x : Option D} {f : T → T} {p : T → Bool} {S : Sto} (hf : ∀ t, p t = true → cl i [.t t] S = .ok (.t (f t)) S) : ∀ ts : List T, ts.all p = true →
    compGo (compEl cl pm [1] (.n 1) (.cst (.bl true)) (.frz (.call i (.cons (.var 1) .nil))) [x, none]) ts S = .ok (ts.map f) S
  | [], _ => rfl
  | t :: ts, h => by
    rw [List.all_cons, Bool.and_eq_true] at h
    unfold compGo
    simp [compEl, wip, hf t h.1, R.nox, R.cut, take_len, rec_go hf ts h.2]
theorem src_lst {ts : List T} (S : Sto) (h : ts.length ≤ line) : srcT .seq (.l [.t (.lst ts)]) S = some (none, ts) := if_pos h
theorem src_tup {ts : List T} (S : Sto) (h : ts.length ≤ line) : srcT .seq (.l [.t (.tup ts)]) S = some (none, ts) := if_pos h
theorem b_tupl (ts : List T) : biT .tuple [.lst ts] = some (.tup ts) := rfl
theorem tupled_at {i m : Nat} (hF : fs[i]? = some (FTup i)) {t : T} {S : Sto} (h : atm t = true) : callF fs wf pm (m + 1) i [.t t] S = .ok (.t t) S := by
  refine callF_of hF rfl (Le.refl _) ?_
  unfold bodyF
  cases t with
  | non => simp [FTup, tyT, i02, fin, R.cut, take_len1, take_len, truT]
  | bl b => simp [FTup, tyT, i13, fin, R.cut, take_len1, take_len, truT]
  | int j => simp [FTup, tyT, i01, fin, R.cut, take_len1, take_len, truT]
  | str x => simp [FTup, tyT, i14, fin, R.cut, take_len1, take_len, truT]
  | _ => cases h
theorem tupled_ok {i : Nat} (hF : fs[i]? = some (FTup i)) : ∀ (k n : Nat) (t : T) (S : Sto), pln k t = true → callF fs wf pm (n + 1 + k) i [.t t] S = .ok (.t (tupD k t)) S
  | 0, n, t, S, h => tupled_at hF h
  | k + 1, n, t, S, h => by
    unfold pln at h
    split at h
    · rename_i ts
      rw [Bool.and_eq_true] at h
      refine callF_of (n := n + 1 + k) hF rfl (Le.refl _) ?_
      have hg := rec_go (i := i) (pm := pm) (x := some (.t (.lst ts))) (f := tupD k) (fun t z => tupled_ok hF k n t S z) ts h.1
      have hs := src_lst (ts := ts) S (Nat.le_trans (of_decide_eq_true h.2) (by decide))
      unfold bodyF
      simp [FTup, tyT, i03, fin, R.cut, take_len1, take_len, truT, hs, hg, b_tupl, tupD]
    · rename_i ts
      rw [Bool.and_eq_true] at h
      refine callF_of (n := n + 1 + k) hF rfl (Le.refl _) ?_
      have hg := rec_go (i := i) (pm := pm) (x := some (.t (.tup ts))) (f := tupD k) (fun t z => tupled_ok hF k n t S z) ts h.1
      have hs := src_tup (ts := ts) S (Nat.le_trans (of_decide_eq_true h.2) (by decide))
      unfold bodyF
      simp [FTup, tyT, i10, fin, R.cut, take_len1, take_len, truT, hs, hg, b_tupl, tupD]
    · have : tupD (k + 1) t = t := by
        cases t <;> first | rfl | cases h
      rw [this]
      exact tupled_at (m := n + 1 + k) hF h
theorem lists_at {i m : Nat} (hF : fs[i]? = some (FLists i)) {t : T} {S : Sto} (h : atm t = true) : callF fs wf pm (m + 1) i [.t t] S = .ok (.t t) S := by
  refine callF_of hF rfl (Le.refl _) ?_
  unfold bodyF
  cases t with
  | non => simp [FLists, tyT, i02, fin, R.cut, take_len1, take_len, truT]
  | bl b => simp [FLists, tyT, i13, fin, R.cut, take_len1, take_len, truT]
  | int j => simp [FLists, tyT, i01, fin, R.cut, take_len1, take_len, truT]
  | str x => simp [FLists, tyT, i14, fin, R.cut, take_len1, take_len, truT]
  | _ => cases h
theorem lists_ok {i : Nat} (hF : fs[i]? = some (FLists i)) : ∀ (k n : Nat) (t : T) (S : Sto), pln k t = true → callF fs wf pm (n + 1 + k) i [.t t] S = .ok (.t (lstD k t)) S
  | 0, n, t, S, h => lists_at hF h
  | k + 1, n, t, S, h => by
    unfold pln at h
    split at h
    · rename_i ts
      rw [Bool.and_eq_true] at h
      refine callF_of (n := n + 1 + k) hF rfl (Le.refl _) ?_
      have hg := rec_go (i := i) (pm := pm) (x := some (.t (.lst ts))) (f := lstD k) (fun t z => lists_ok hF k n t S z) ts h.1
      have hs := src_lst (ts := ts) S (Nat.le_trans (of_decide_eq_true h.2) (by decide))
      unfold bodyF
      simp [FLists, tyT, i03, fin, R.cut, take_len1, take_len, truT, hs, hg, lstD]
    · rename_i ts
      rw [Bool.and_eq_true] at h
      refine callF_of (n := n + 1 + k) hF rfl (Le.refl _) ?_
      have hg := rec_go (i := i) (pm := pm) (x := some (.t (.tup ts))) (f := lstD k) (fun t z => lists_ok hF k n t S z) ts h.1
      have hs := src_tup (ts := ts) S (Nat.le_trans (of_decide_eq_true h.2) (by decide))
      unfold bodyF
      simp [FLists, tyT, i10, fin, R.cut, take_len1, take_len, truT, hs, hg, lstD]
    · have : lstD (k + 1) t = t := by
        cases t <;> first | rfl | cases h
      rw [this]
      exact lists_at (m := n + 1 + k) hF h
end
end Qq.Lw

set_option maxHeartbeats 1000000
/-! P8: a thing of one's own behind all others; logs: who is held when. -/
namespace Qq.Lw
open PySem L2

section
variable (S : Sto) (xs : List T)
theorem see_e : see (S ++ [.lst xs]) (.o S.length) = .o S.length := see_at (xs := xs) (by simp)
theorem rd_e : rd (S ++ [.lst xs]) (.o S.length) = some (.lst xs) := by
  show ((S ++ [Cl.lst xs])[S.length]?).map Cl.tr = _
  simp [Cl.tr]
theorem mi_app : miOf (.lst xs) "append" = some .append := by
  unfold miOf
  exact if_pos rfl
theorem app_e (t : T) (h : xs.length < line) : mthS .append (.o S.length) [.t t] (S ++ [.lst xs]) = .ok (.t .non) (S ++ [.lst (xs ++ [t])]) := by
  unfold mthS
  simp [h]
theorem frz_e : frzS (S ++ [.lst xs]) (.o S.length) = .ok (.t (.lst xs)) (S ++ [.gon (.lst xs)]) := by
  show (match (S ++ [Cl.lst xs])[S.length]? with
    | some (.lst xs') => R.ok (D.t (.lst xs')) ((S ++ [Cl.lst xs]).set S.length (.gon (.lst xs')))
    | some (.dK xs') => .ok (.t (.dK xs')) ((S ++ [Cl.lst xs]).set S.length (.gon (.dK xs')))
    | some (.dT xs') => .ok (.t (.dT xs')) ((S ++ [Cl.lst xs]).set S.length (.gon (.dT xs')))
    | some (.gon t) => .ok (.t t) (S ++ [Cl.lst xs])
    | _ => .bad) = _
  simp
theorem fin_e : fin true S.length (.ret (.o S.length)) (S ++ [.lst xs]) = .ok (.o S.length) (S ++ [.lst xs]) := by
  rw [fin_o, if_neg (Nat.lt_irrefl _)]
  simp
theorem fin_eF : fin false S.length (.ret (.o S.length)) (S ++ [.lst xs]) = .ok (.t (.lst xs)) S := by
  rw [fin_o, if_neg (Nat.lt_irrefl _)]
  simp
theorem cut_e : R.cut (S.length + 1) (.ok (.o S.length) (S ++ [.lst xs])) = (.ok (.o S.length) (S ++ [.lst xs]) : R D) := by
  show R.ok _ _ = _
  rw [List.take_of_length_le (by simp)]
end

section
variable {cl : Nat → List D → Sto → R D} {pm : Nat → List D → List D → Option (List D)} {vs : List Nat} {g : Tg} {t e : C} {r r' : Env} {d : T} {S S' : Sto}
theorem compEl_tt {x : T} (h : asgT g d (wip r vs) = some r') (ht : ev cl pm t r' S = .ok (.t (.bl true)) S) (he : ev cl pm e r' S = .ok (.t x) S') (hS : S'.take S.length = S) : compEl cl pm vs g t e r d S = .ok (some x) S := by
  unfold compEl
  rw [h]
  simp [ht, he, R.nox, R.cut, hS, D.tr]
theorem compEl_ff (h : asgT g d (wip r vs) = some r') (ht : ev cl pm t r' S = .ok (.t (.bl false)) S') (hS : S'.take S.length = S) : compEl cl pm vs g t e r d S = .ok none S := by
  unfold compEl
  rw [h]
  simp [ht, R.nox, R.cut, hS]
theorem compGo_c {f : T → Sto → R (Option T)} {o : Option T} {ds : List T} {xs : List T} {S1 S2 : Sto} (h : f d S = .ok o S1) (h2 : compGo f ds S1 = .ok xs S2) : compGo f (d :: ds) S = .ok (o.toList ++ xs) S2 := by
  rw [compGo_cons, h]
  simp [h2]
end
@[simp] theorem asgP_c (i : Nat) (is : List Nat) (d : D) (ds : List D) (r : Env) : asgP (i :: is) (d :: ds) r = asgP is ds (r.set i (some d)) := rfl
@[simp] theorem asgP_n (r : Env) : asgP [] [] r = some r := rfl
theorem trL_app (es : List D) : ∀ ts : List T, trL (ts.map D.t ++ es) = (trL es).map fun us => ts ++ us
  | [] => by rw [List.map_nil, List.nil_append]; cases trL es <;> simp
  | t :: ts => by
    rw [List.map_cons, List.cons_append]
    show (trL (ts.map D.t ++ es)).map _ = _
    rw [trL_app es ts]
    cases trL es <;> simp
/-! logs -/
inductive En where
  | inn (w : Str) | out (w : Str) | go (i : Int)
def En.wd : En → Str
  | .inn _ => "in"
  | .out _ => "out"
  | .go _ => "go"
def En.vl : En → T
  | .inn w => .str w
  | .out w => .str w
  | .go i => .int i
def sq (b : Bool) (ts : List T) : T := match b with
  | true => .tup ts
  | false => .lst ts
def enT (b : Bool) (e : En) : T := sq b [.str e.wd, e.vl]
def logT (b : Bool) (l : List En) : T := sq b (l.map (enT b))
def EnOk : En → Prop
  | .inn w => PyData.strOk w = true
  | .out w => PyData.strOk w = true
  | .go _ => True
abbrev Hd := List (Int × Str)
def nxt (h : Hd) (j : Int) : En → Hd
  | .inn w => h ++ [(j, w)]
  | .out _ => h
  | .go i => h.filter fun p => !decide (p.1 = i)
def adv (j : Int) : En → Int
  | .go _ => j
  | _ => j + 1
def pres : List En → Hd → Int → List Hd
  | [], _, _ => []
  | e :: l, h, j => h :: pres l (nxt h j e) (adv j e)
def lastH : List En → Hd → Int → Hd
  | [], h, _ => h
  | e :: l, h, j => lastH l (nxt h j e) (adv j e)
def lastJ : List En → Int → Int
  | [], j => j
  | e :: l, j => lastJ l (adv j e)
def rows (l : List En) : List Hd := pres l [] 0 ++ [lastH l [] 0]
structure HOk (h : Hd) (j : Int) : Prop where
  nd : (h.map (·.1)).Nodup
  lt : ∀ p ∈ h, p.1 < j
  ok : ∀ p ∈ h, PyData.strOk p.2 = true
theorem HOk.nil : HOk [] 0 := ⟨List.nodup_nil, (fun _ h => nomatch h), (fun _ h => nomatch h)⟩
theorem HOk.nxt {h : Hd} {j : Int} (k : HOk h j) {e : En} (he : EnOk e) : HOk (nxt h j e) (adv j e) := by
  cases e with
  | inn w =>
    refine ⟨?_, fun p hp => ?_, fun p hp => ?_⟩
    · show ((h ++ [(j, w)]).map (·.1)).Nodup
      rw [List.map_append, List.nodup_append]
      refine ⟨k.nd, by simp, fun a ha b hb => ?_⟩
      obtain ⟨p, hp, rfl⟩ := List.mem_map.mp ha
      have : b = j := by simpa using hb
      have := k.lt p hp
      omega
    · rcases List.mem_append.mp hp with hp | hp
      · have := k.lt p hp; show p.1 < j + 1; omega
      · have : p = (j, w) := by simpa using hp
        subst this; show j < j + 1; omega
    · rcases List.mem_append.mp hp with hp | hp
      · exact k.ok p hp
      · have : p = (j, w) := by simpa using hp
        subst this; exact he
  | out w => exact ⟨k.nd, fun p hp => by have := k.lt p hp; show p.1 < j + 1; omega, k.ok⟩
  | go i => exact ⟨k.nd.sublist (List.Sublist.map _ List.filter_sublist), fun p hp => k.lt p ((List.mem_filter.mp hp).1), fun p hp => k.ok p ((List.mem_filter.mp hp).1)⟩
theorem nxt_len (h : Hd) (j : Int) (e : En) : (nxt h j e).length ≤ h.length + 1 := by
  cases e with
  | inn w => show (h ++ [(j, w)]).length ≤ _; rw [List.length_append]; exact Nat.le_refl _
  | out w => exact Nat.le_succ _
  | go i => exact Nat.le_succ_of_le (List.length_filter_le _ _)
/-- as a dict, as a list of pairs -/
def hD (h : Hd) : List (Key × T) := h.map fun p => (.inl p.1, .str p.2)
def hL (h : Hd) : List T := h.map fun p => .tup [.int p.1, .str p.2]
theorem hD_len (h : Hd) : (hD h).length = h.length := List.length_map _
theorem valT_hD {h : Hd} (nd : (h.map (·.1)).Nodup) {p : Int × Str} (hp : p ∈ h) : valT (hD h) (.inl p.1) = some (.str p.2) := by
  induction h with
  | nil => cases hp
  | cons q h ih =>
    rw [List.map_cons, List.nodup_cons] at nd
    unfold hD
    rw [List.map_cons]
    unfold valT
    rcases List.mem_cons.mp hp with rfl | hp
    · rw [if_pos rfl]
    · have : (Sum.inl q.1 : Key) ≠ .inl p.1 := fun e => by
        have e := Sum.inl.inj e
        exact nd.1 (by rw [e]; exact List.mem_map.mpr ⟨p, hp, rfl⟩)
      rw [if_neg this]
      exact ih nd.2 hp
theorem put_hD {h : Hd} {j : Int} (lt : ∀ p ∈ h, p.1 < j) (w : Str) : putT (hD h) (.inl j) (.str w) = hD (h ++ [(j, w)]) := by
  have : ((hD h).any fun kv => decide (kv.1 = Sum.inl j)) = false := by
    rw [List.any_eq_false]
    intro kv hk
    obtain ⟨p, hp, rfl⟩ := List.mem_map.mp hk
    have := lt p hp
    simp
    omega
  unfold putT
  rw [this]
  unfold hD
  simp
theorem mrg_nd : ∀ (xs acc : List (Key × T)), ((acc ++ xs).map (·.1)).Nodup → mrgT acc xs = acc ++ xs
  | [], acc, _ => by unfold mrgT; simp
  | kv :: r, acc, nd => by
    have hn : (acc.any fun kv' => decide (kv'.1 = kv.1)) = false := by
      rw [List.any_eq_false]
      intro kv' hk
      rw [List.map_append, List.map_cons, List.nodup_append] at nd
      have := nd.2.2 kv'.1 (List.mem_map.mpr ⟨kv', hk, rfl⟩) kv.1 List.mem_cons_self
      simpa using this
    have e : putT acc kv.1 kv.2 = acc ++ [kv] := by
      unfold putT
      rw [hn]; rfl
    unfold mrgT
    rw [e, mrg_nd r (acc ++ [kv]) (by simpa using nd)]
    simp
theorem cgg : cmpT .Eq (.str "go") (.str "go") = some true := by decide +kernel
theorem cig : cmpT .Eq (.str "in") (.str "go") = some false := by decide +kernel
theorem cog : cmpT .Eq (.str "out") (.str "go") = some false := by decide +kernel
theorem cii : cmpT .Eq (.str "in") (.str "in") = some true := by decide +kernel
theorem coi : cmpT .Eq (.str "out") (.str "in") = some false := by decide +kernel
theorem coo : cmpT .Eq (.str "out") (.str "out") = some true := by decide +kernel
theorem cio : cmpT .Eq (.str "in") (.str "out") = some false := by decide +kernel
theorem cgo : cmpT .Eq (.str "go") (.str "out") = some false := by decide +kernel
section
variable {fs : List FI} {wf : Nat} {cl : Nat → List D → Sto → R D} {pm : Nat → List D → List D → Option (List D)}
/-- {one: kind for one, kind in held.items() if one != value} -/
def dcE : C := (.dcm false [6, 7] (.cons (.n 6) (.cons (.n 7) .nil)) .items (.cons (.var 2) .nil) (.cmp .NotEq (.var 6) (.var 5)) (.var 6) (.var 7))
theorem dc_go {i : Int} {x0 x1 x2 x3 x4 : Option D} {S : Sto} : ∀ h : Hd, compGo (dcEl cl pm [6, 7] (.cons (.n 6) (.cons (.n 7) .nil)) (.cmp .NotEq (.var 6) (.var 5)) (.var 6) (.var 7) [x0, x1, x2, x3, x4, some (.t (.int i)), none, none]) (h.map fun p => .tup [.int p.1, .str p.2]) S = .ok (hD (h.filter fun p => !decide (p.1 = i))) S
  | [] => rfl
  | p :: h => by
    have ih := dc_go (i := i) (x0 := x0) (x1 := x1) (x2 := x2) (x3 := x3) (x4 := x4) (S := S) h
    rw [List.map_cons]
    unfold compGo
    by_cases e : p.1 = i
    · simp [dcEl, wip, c_ne, e, R.nox, R.cut, take_len, ih]
    · simp [dcEl, wip, c_ne, e, R.nox, R.cut, take_len, ih, D.key, D.tr, keyT, hD]
theorem it_items (kvs : List (Key × T)) : itT .items [.dK kvs] = some (kvs.map fun kv => .tup [kT kv.1, kv.2]) := rfl
theorem dc_ok {h : Hd} {j i : Int} (k : HOk h j) (hl : h.length ≤ line) {x0 x1 x3 x4 : Option D} (S : Sto) : ev cl pm dcE [x0, x1, some (.t (.dK (hD h))), x3, x4, some (.t (.int i)), none, none] S = .ok (.t (.dK (hD (h.filter fun p => !decide (p.1 = i))))) S := by
  have hs : srcT .items (.l [.t (.dK (hD h))]) S = some (none, h.map fun p => .tup [.int p.1, .str p.2]) := by
    refine src_of (lkOf_1 _) ?_ (by rw [List.length_map]; exact hl)
    show some ((hD h).map fun kv => T.tup [kT kv.1, kv.2]) = _
    unfold hD
    rw [List.map_map]
    rfl
  have hm : mrgT [] (hD (h.filter fun p => !decide (p.1 = i))) = hD (h.filter fun p => !decide (p.1 = i)) := by
    rw [mrg_nd _ [] (by
      rw [List.nil_append]
      unfold hD
      rw [List.map_map]
      have : (h.filter fun p => !decide (p.1 = i)).map ((fun kv : Key × T => kv.1) ∘ fun p => (Sum.inl p.1, T.str p.2)) = ((h.filter fun p => !decide (p.1 = i)).map (·.1)).map Sum.inl := by
        rw [List.map_map]; rfl
      rw [this]
      exact List.pairwise_map.mpr (List.Pairwise.imp (fun hab e => hab (Sum.inl.inj e)) (k.nd.sublist (List.Sublist.map _ List.filter_sublist))))]
    rfl
  unfold dcE
  simp [hs, dc_go, hm]
end
end Qq.Lw

set_option maxHeartbeats 1000000
/-! P9: the program's walk of a log; how many a group holds; the most seen. -/
namespace Qq.Lw
open PySem L2

def grp (g : List Str) : T := .tup (g.map T.str)
def inG (g : List Str) (w : Str) : Bool := g.any fun z => z == w
def cnt (h : Hd) (g : List Str) : Nat := (h.filter fun p => inG g p.2).length
def GOk (g : List Str) : Prop := g.length ≤ 1000 ∧ ∀ x ∈ g, PyData.strOk x = true
def FMany1 : FI := ⟨2, 3, false, (.seq (.ret (.bi false .len (.cons (.comp false [2] (.n 2) .seq (.cons (.var 0) .nil) (.cmp .In (.idx (.var 0) (.var 2)) (.var 1)) (.var 2)) .nil))) .nil)⟩
theorem in_grp {w : Str} {g : List Str} (hw : PyData.strOk w = true) (hg : GOk g) : cmpT .In (.str w) (grp g) = some (inG g w) := inT_strs hw hg.2
theorem tr_bl (b : Bool) : truT (.bl b) = some b := rfl
section
variable {fs : List FI} {wf : Nat} {pm : Nat → List D → List D → Option (List D)}
theorem many_go {cl : Nat → List D → Sto → R D} {h : Hd} {g : List Str} {S : Sto} (nd : (h.map (·.1)).Nodup) (ho : ∀ p ∈ h, PyData.strOk p.2 = true) (hg : GOk g) : ∀ l : Hd, (∀ p ∈ l, p ∈ h) →
    compGo (compEl cl pm [2] (.n 2) (.cmp .In (.idx (.var 0) (.var 2)) (.var 1)) (.var 2) [some (.t (.dK (hD h))), some (.t (grp g)), none]) (l.map fun p => .int p.1) S = .ok ((l.filter fun p => inG g p.2).map fun p => .int p.1) S
  | [], _ => rfl
  | p :: l, hl => by
    have ih := many_go (cl := cl) (S := S) nd ho hg l fun q hq => hl q (List.mem_cons_of_mem _ hq)
    have hp := hl p List.mem_cons_self
    have hx : idxT (.dK (hD h)) (.int p.1) = some (.str p.2) := by
      show (some (valT (hD h) (.inl p.1))).join = _
      rw [valT_hD nd hp]; rfl
    have hi := in_grp (ho p hp) hg
    rw [List.map_cons]
    unfold compGo
    cases hb : inG g p.2 with
    | true =>
      rw [hb] at hi
      simp [compEl, wip, hx, hi, R.nox, R.cut, take_len, ih, hb, D.tr]
    | false =>
      rw [hb] at hi
      simp [compEl, wip, hx, hi, R.nox, R.cut, take_len, ih, hb]
theorem many1_ok {n iM : Nat} (hF : fs[iM]? = some FMany1) {h : Hd} {j : Int} {g : List Str} (k : HOk h j) (hl : h.length ≤ line) (hg : GOk g) (S : Sto) : callF fs wf pm (n + 1) iM [.t (.dK (hD h)), .t (grp g)] S = .ok (.t (.int (cnt h g : Nat))) S := by
  refine callF_of hF rfl (Le.refl _) ?_
  have hs : srcT .seq (.l [.t (.dK (hD h))]) S = some (none, h.map fun p => .int p.1) := by
    refine src_of (lkOf_1 _) ?_ (by rw [List.length_map]; exact hl)
    show some ((hD h).map fun kv => kT kv.1) = _
    unfold hD
    rw [List.map_map]
    rfl
  have hgo := many_go (cl := callF fs wf pm n) (pm := pm) (S := S) k.nd k.ok hg h fun _ hp => hp
  unfold bodyF
  simp [FMany1, hs, hgo, b_len, fin, R.cut, take_len1, take_len, cnt]

/-! walked_log -/
def bW2 : P := (.seq (.drop (.mth "append" (.var 1) (.cons (.var 2) .nil))) (.seq (.ite (.cmp .Eq (.var 4) (.cst (.str "go"))) (.seq (.asg (.n 2) dcE) .nil) (.seq (.asg (.n 2) (.ife (.cmp .Eq (.var 4) (.cst (.str "in"))) (.dsp false (.var 2) (.var 3) (.var 5)) (.var 2))) (.seq (.aug 3 .Add (.cst (.int 1))) .nil))) .nil))
def FWalk2 : FI := ⟨1, 8, false, (.seq (.par [1, 2, 3] (.cons (.lst true .nil) (.cons (.dct false false) (.cons (.cst (.int 0)) .nil)))) (.seq (.for_ (.cons (.n 4) (.cons (.n 5) .nil)) .seq (.cons (.var 0) .nil) bW2) (.seq (.ret (.tup (.spl (.frz (.var 1)) (.cons (.var 2) .nil)))) .nil)))⟩
theorem asg_en (i j : Nat) (b : Bool) (e : En) (r : Env) : asgT (.cons (.n i) (.cons (.n j) .nil)) (enT b e) r = some ((r.set i (some (.t (.str e.wd)))).set j (some (.t e.vl))) := by
  cases b <;> rfl
def hT (h : Hd) : T := .dK (hD h)
theorem walk2_step {cl : Nat → List D → Sto → R D} {b : Bool} {e : En} (he : EnOk e) {h : Hd} {j : Int} (k : HOk h j) (hl : h.length < line) {acc : List T} (ha : acc.length < line) {x0 x4 x5 : Option D} {S : Sto} :
    forEl wf cl pm (.cons (.n 4) (.cons (.n 5) .nil)) bW2 (enT b e) [x0, some (.o S.length), some (.t (.dK (hD h))), some (.t (.int j)), x4, x5, none, none] (S ++ [.lst acc]) =
      .ok (.nx, [x0, some (.o S.length), some (.t (.dK (hD (nxt h j e)))), some (.t (.int (adv j e))), some (.t (.str e.wd)), some (.t e.vl), none, none]) (S ++ [.lst (acc ++ [hT h])]) := by
  have hl' : (hD h).length < line := by rw [hD_len]; exact hl
  cases e with
  | go i =>
    have hd := fun S => dc_ok (cl := cl) (pm := pm) (i := i) (x0 := x0) (x1 := some (.o S.length)) (x3 := some (.t (.int j))) (x4 := some (.t (.str "go"))) k (Nat.le_of_lt hl) S
    have hd2 := dc_ok (cl := cl) (pm := pm) (i := i) (x0 := x0) (x1 := some (.o S.length)) (x3 := some (.t (.int j))) (x4 := some (.t (.str "go"))) k (Nat.le_of_lt hl) (S ++ [.lst (acc ++ [hT h])])
    simp [forEl, asg_en, bW2, En.wd, En.vl, see_e, rd_e, mi_app, app_e, ha, cgg, hT] at hd2 ⊢
    simp [hd2, nxt, adv]
  | inn w =>
    simp [forEl, asg_en, bW2, En.wd, En.vl, see_e, rd_e, mi_app, app_e, ha, cig, cii, hT, D.tr, T.dk, hl', D.key, keyT, put_hD k.lt, nxt, adv]
  | out w =>
    simp [forEl, asg_en, bW2, En.wd, En.vl, see_e, rd_e, mi_app, app_e, ha, cog, coi, hT, nxt, adv]
theorem walk2_loop {cl : Nat → List D → Sto → R D} {b : Bool} {x0 : Option D} {S : Sto} : ∀ (l : List En) (h : Hd) (j : Int) (acc : List T) (x4 x5 : Option D), (∀ e ∈ l, EnOk e) → HOk h j → h.length + l.length < line → acc.length + l.length < line →
    ∃ x4' x5', forGo (forEl wf cl pm (.cons (.n 4) (.cons (.n 5) .nil)) bW2) (l.map (enT b)) [x0, some (.o S.length), some (.t (.dK (hD h))), some (.t (.int j)), x4, x5, none, none] (S ++ [.lst acc]) =
      .ok (.nx, [x0, some (.o S.length), some (.t (.dK (hD (lastH l h j)))), some (.t (.int (lastJ l j))), x4', x5', none, none]) (S ++ [.lst (acc ++ (pres l h j).map hT)])
  | [], h, j, acc, x4, x5, _, _, _, _ => ⟨x4, x5, by simp [forGo, pres, lastH, lastJ]⟩
  | e :: l, h, j, acc, x4, x5, he, k, h1, h2 => by
    rw [List.length_cons] at h1 h2
    have st := walk2_step (wf := wf) (cl := cl) (pm := pm) (b := b) (x0 := x0) (x4 := x4) (x5 := x5) (S := S) (he e List.mem_cons_self) k (by omega) (acc := acc) (by omega)
    have hn := nxt_len h j e
    obtain ⟨y4, y5, ih⟩ := walk2_loop l (nxt h j e) (adv j e) (acc ++ [hT h]) (some (.t (.str e.wd))) (some (.t e.vl)) (fun q hq => he q (List.mem_cons_of_mem _ hq)) (k.nxt (he e List.mem_cons_self)) (by omega) (by rw [List.length_append]; simp; omega)
    refine ⟨y4, y5, ?_⟩
    rw [List.map_cons]
    unfold forGo
    rw [st]
    simp only [R.bind_ok]
    rw [ih]
    simp [pres, lastH, lastJ]
theorem src_sq (b : Bool) {ts : List T} (S : Sto) (h : ts.length ≤ line) : srcT .seq (.l [.t (sq b ts)]) S = some (none, ts) := by
  cases b
  · exact src_lst S h
  · exact src_tup S h
theorem pres_len : ∀ (l : List En) (h : Hd) (j : Int), (pres l h j).length = l.length
  | [], _, _ => rfl
  | e :: l, h, j => by unfold pres; rw [List.length_cons, List.length_cons, pres_len l]
theorem walk2_ok {n iW : Nat} (hF : fs[iW]? = some FWalk2) {b : Bool} {l : List En} (he : ∀ e ∈ l, EnOk e) (hl : l.length < 1000000) (S : Sto) : callF fs wf pm (n + 1) iW [.t (logT b l)] S = .ok (.t (.tup ((rows l).map hT))) S := by
  have hll : l.length < line := by unfold line; omega
  obtain ⟨x4, x5, lo⟩ := walk2_loop (wf := wf) (cl := callF fs wf pm n) (pm := pm) (b := b) (x0 := some (.t (logT b l))) (S := S) l [] 0 [] none none he HOk.nil (by simpa using hll) (by simpa using hll)
  have hs := fun S => src_sq b (ts := l.map (enT b)) S (by rw [List.length_map]; exact Nat.le_of_lt hll)
  have hlen : ((pres l [] 0).map hT ++ [hT (lastH l [] 0)]).length ≤ line := by
    rw [List.length_append, List.length_map, pres_len]
    simp [line]; omega
  have hs2 : ∀ S, srcT .seq (.l [.t (logT b l)]) S = some (none, l.map (enT b)) := hs
  refine callF_of hF rfl (Le.refl _) ?_
  unfold bodyF
  generalize callF fs wf pm n = cl at *
  simp only [List.nil_append] at lo
  have e0 : T.dK [] = T.dK (hD []) := rfl
  have et : trL (((pres l [] 0).map hT).map D.t ++ [.t (.dK (hD (lastH l [] 0)))]) = some ((pres l [] 0).map hT ++ [hT (lastH l [] 0)]) := trL_app _ _
  simp [FWalk2, own_l, hs2, e0, lo, see_e, frz_e, T.its, hT] at et hlen ⊢
  simp [et, hlen, fin, R.cut, rows, hT, take_len, take_len1]
end
end Qq.Lw

set_option maxHeartbeats 1000000
/-! P10: the program's seen_most and reasons_of. -/
namespace Qq.Lw
open PySem L2

def lotsS (b : Bool) (L : List (List Str)) : T := sq b (L.map fun g => sq b (g.map T.str))
def LOk (L : List (List Str)) : Prop := L.length ≤ 1000 ∧ ∀ g ∈ L, GOk g
theorem pln_grp {b : Bool} {g : List Str} (h : GOk g) : pln 1 (sq b (g.map T.str)) = true := by
  have h1 : (g.map T.str).all (pln 0) = true := by
    rw [List.all_eq_true]
    intro t ht
    obtain ⟨x, hx, rfl⟩ := List.mem_map.mp ht
    exact h.2 x hx
  have h2 : decide ((g.map T.str).length ≤ 1000000) = true := decide_eq_true (by rw [List.length_map]; have := h.1; omega)
  cases b
  · show ((g.map T.str).all (pln 0) && decide ((g.map T.str).length ≤ 1000000)) = true
    rw [h1, h2]; rfl
  · show ((g.map T.str).all (pln 0) && decide ((g.map T.str).length ≤ 1000000)) = true
    rw [h1, h2]; rfl
theorem pln_lots {b : Bool} {L : List (List Str)} (h : LOk L) : pln 2 (lotsS b L) = true := by
  have h1 : (L.map fun g => sq b (g.map T.str)).all (pln 1) = true := by
    rw [List.all_eq_true]
    intro t ht
    obtain ⟨x, hx, rfl⟩ := List.mem_map.mp ht
    exact pln_grp (h.2 x hx)
  have h2 : decide ((L.map fun g => sq b (g.map T.str)).length ≤ 1000000) = true := decide_eq_true (by rw [List.length_map]; have := h.1; omega)
  cases b
  · show ((L.map fun g => sq false (g.map T.str)).all (pln 1) && decide ((L.map fun g => sq false (g.map T.str)).length ≤ 1000000)) = true
    rw [h1, h2]; rfl
  · show ((L.map fun g => sq true (g.map T.str)).all (pln 1) && decide ((L.map fun g => sq true (g.map T.str)).length ≤ 1000000)) = true
    rw [h1, h2]; rfl
theorem map_id0 (g : List Str) : (g.map T.str).map (tupD 0) = g.map T.str := by
  rw [List.map_map]; rfl
theorem tup_lots (b : Bool) (L : List (List Str)) : tupD 2 (lotsS b L) = .tup (L.map grp) := by
  have e : (L.map fun g => sq b (g.map T.str)).map (tupD 1) = L.map grp := by
    rw [List.map_map]
    congr 1
    funext g
    cases b
    · show T.tup ((g.map T.str).map (tupD 0)) = grp g
      rw [map_id0]; rfl
    · show T.tup ((g.map T.str).map (tupD 0)) = grp g
      rw [map_id0]; rfl
  cases b
  · show T.tup ((L.map fun g => sq false (g.map T.str)).map (tupD 1)) = _
    rw [e]
  · show T.tup ((L.map fun g => sq true (g.map T.str)).map (tupD 1)) = _
    rw [e]
def RowOk (h : Hd) : Prop := (∃ j, HOk h j) ∧ h.length ≤ line
theorem pres_ok : ∀ (l : List En) (h : Hd) (j : Int), (∀ e ∈ l, EnOk e) → HOk h j → h.length + l.length ≤ line → (∀ x ∈ pres l h j, RowOk x) ∧ RowOk (lastH l h j)
  | [], h, j, _, k, hl => ⟨(fun _ z => nomatch z), ⟨j, k⟩, by show h.length ≤ line; simpa using hl⟩
  | e :: l, h, j, he, k, hl => by
    rw [List.length_cons] at hl
    have hn := nxt_len h j e
    obtain ⟨i1, i2⟩ := pres_ok l (nxt h j e) (adv j e) (fun q hq => he q (List.mem_cons_of_mem _ hq)) (k.nxt (he e List.mem_cons_self)) (by omega)
    refine ⟨fun x hx => ?_, i2⟩
    unfold pres at hx
    rcases List.mem_cons.mp hx with rfl | hx
    · exact ⟨⟨j, k⟩, by omega⟩
    · exact i1 x hx
theorem rows_ok {l : List En} (he : ∀ e ∈ l, EnOk e) (hl : l.length < 1000000) : ∀ x ∈ rows l, RowOk x := fun x hx => by
  obtain ⟨i1, i2⟩ := pres_ok l [] 0 he HOk.nil (by unfold line; simp; omega)
  unfold rows at hx
  rcases List.mem_append.mp hx with hx | hx
  · exact i1 x hx
  · have : x = lastH l [] 0 := by simpa using hx
    subst this; exact i2
theorem rows_len (l : List En) : (rows l).length = l.length + 1 := by
  unfold rows
  rw [List.length_append, pres_len]; rfl
def mxL : List Int → Int
  | [] => 0
  | n :: ns => ns.foldl max n
def sm (rs : List Hd) (g : List Str) : Int := mxL (rs.map fun h => (cnt h g : Nat))
def seenE (rs : List Hd) (g : List Str) : T := .tup [grp g, .int (sm rs g)]
def seenT (rs : List Hd) (L : List (List Str)) : T := .tup (L.map (seenE rs))
theorem b_max {rs : List Hd} (h : rs ≠ []) (g : List Str) : biT .maxL [.lst (rs.map fun h => .int (cnt h g : Nat))] = some (.int (sm rs g)) := by
  have e : rs.map (fun h => T.int (cnt h g : Nat)) = (rs.map fun h => ((cnt h g : Nat) : Int)).map T.int := by rw [List.map_map]; rfl
  unfold biT
  simp only [e, intsT_map]
  cases rs with
  | nil => exact absurd rfl h
  | cons r rs => rfl
def FSeen (iT iM iW : Nat) : FI := ⟨2, 5, false, (.seq (.asg (.n 2) (.call iW (.cons (.var 1) .nil))) (.seq (.ret (.bi false .tuple (.cons (.comp false [3] (.n 3) .seq (.cons (.call iT (.cons (.var 0) .nil)) .nil) (.cst (.bl true)) (.tup (.cons (.var 3) (.cons (.frz (.bi false .maxL (.cons (.comp false [4] (.n 4) .seq (.cons (.var 2) .nil) (.cst (.bl true)) (.frz (.call iM (.cons (.var 4) (.cons (.var 3) .nil))))) .nil))) .nil)))) .nil))) .nil))⟩
section
variable {fs : List FI} {wf : Nat} {pm : Nat → List D → List D → Option (List D)}
/-- a column of counts, by whichever def, of whichever things -/
theorem col_go {cl : Nat → List D → Sto → R D} {iM : Nat} {hf : Hd → T} {g : List Str} {p q : Nat} {r : Env} {S : Sto} (hr : r[q]? = some (some (.t (grp g)))) (hp : p < r.length) (hpq : p ≠ q) : ∀ rs : List Hd, (∀ h ∈ rs, cl iM [.t (hf h), .t (grp g)] S = .ok (.t (.int (cnt h g : Nat))) S) →
    compGo (compEl cl pm [p] (.n p) (.cst (.bl true)) (.frz (.call iM (.cons (.var p) (.cons (.var q) .nil)))) r) (rs.map hf) S = .ok (rs.map fun h => .int (cnt h g : Nat)) S
  | [], _ => rfl
  | h :: rs, hc => by
    have ih := col_go hr hp hpq rs fun x hx => hc x (List.mem_cons_of_mem _ hx)
    have h1 := hc h List.mem_cons_self
    have e1 : (r.set p (some (.t (hf h))))[p]? = some (some (.t (hf h))) := by simp [hp]
    have e2 : (r.set p (some (.t (hf h))))[q]? = some (some (.t (grp g))) := by simp [hpq, hr]
    rw [List.map_cons]
    unfold compGo
    simp [compEl, wip, e1, e2, h1, R.nox, R.cut, take_len, ih]
theorem seen_go {cl : Nat → List D → Sto → R D} {iM : Nat} {x0 x1 : Option D} {rs : List Hd} (hrs : rs ≠ []) (hl : rs.length ≤ line) {S : Sto} (hc : ∀ g, GOk g → ∀ h ∈ rs, cl iM [.t (hT h), .t (grp g)] S = .ok (.t (.int (cnt h g : Nat))) S) : ∀ L : List (List Str), (∀ g ∈ L, GOk g) →
    compGo (compEl cl pm [3] (.n 3) (.cst (.bl true)) (.tup (.cons (.var 3) (.cons (.frz (.bi false .maxL (.cons (.comp false [4] (.n 4) .seq (.cons (.var 2) .nil) (.cst (.bl true)) (.frz (.call iM (.cons (.var 4) (.cons (.var 3) .nil))))) .nil))) .nil))) [x0, x1, some (.t (.tup (rs.map hT))), none, none]) (L.map grp) S = .ok (L.map (seenE rs)) S
  | [], _ => rfl
  | g :: L, hg => by
    have ih := seen_go (x0 := x0) (x1 := x1) hrs hl hc L fun x hx => hg x (List.mem_cons_of_mem _ hx)
    have hs := src_tup (ts := rs.map hT) S (by rw [List.length_map]; exact hl)
    have hcol := col_go (cl := cl) (pm := pm) (iM := iM) (hf := hT) (g := g) (p := 4) (q := 3) (r := [x0, x1, some (.t (.tup (rs.map hT))), some (.t (grp g)), none]) (S := S) rfl (by simp) (by decide) rs (hc g (hg g List.mem_cons_self))
    rw [List.map_cons]
    refine compGo_c (o := some (seenE rs g)) (compEl_tt (r' := [x0, x1, some (.t (.tup (rs.map hT))), some (.t (grp g)), none]) rfl rfl (S' := S) ?_ (take_len S)) ih
    simp [hs, hcol, b_max hrs, trL, seenE]
theorem seen_ok {n iS iT iM iW : Nat} (hS : fs[iS]? = some (FSeen iT iM iW)) (hT' : fs[iT]? = some (FTup iT)) (hM : fs[iM]? = some FMany1) (hW : fs[iW]? = some FWalk2) {a b : Bool} {L : List (List Str)} {l : List En} (hL : LOk L) (he : ∀ e ∈ l, EnOk e) (hl : l.length < 1000000) (S : Sto) :
    callF fs wf pm (n + 1 + 2 + 1) iS [.t (lotsS a L), .t (logT b l)] S = .ok (.t (seenT (rows l) L)) S := by
  have h1 := fun S => walk2_ok (wf := wf) (pm := pm) (n := n + 2) hW (b := b) he hl S
  have h2 := fun S => tupled_ok (wf := wf) (pm := pm) hT' 2 n (lotsS a L) S (pln_lots hL)
  have hr := rows_ok he hl
  have h3 := fun g (hg : GOk g) (S : Sto) h (hh : h ∈ rows l) => many1_ok (wf := wf) (pm := pm) (n := n + 2) hM (hr h hh).1.choose_spec (hr h hh).2 hg S
  have hne : rows l ≠ [] := fun e => by have := rows_len l; rw [e] at this; simp at this
  have hlen : (rows l).length ≤ line := by rw [rows_len]; unfold line; omega
  refine callF_of hS rfl (Le.refl _) ?_
  unfold bodyF
  have e1 : n + 1 + 2 = n + 2 + 1 := rfl
  rw [e1] at h2 ⊢
  generalize callF fs wf pm (n + 2 + 1) = cl at *
  have hg := seen_go (cl := cl) (pm := pm) (iM := iM) (x0 := some (.t (lotsS a L))) (x1 := some (.t (logT b l))) hne hlen (S := S) (fun g hg h hh => h3 g hg S h hh) L hL.2
  have hs := src_tup (ts := L.map grp) S (by rw [List.length_map]; have := hL.1; unfold line; omega)
  simp [FSeen, h1, h2, tup_lots, hs, hg, b_tupl, fin, R.cut, take_len, take_len1, seenT]
end
end Qq.Lw

set_option maxHeartbeats 1000000
/-! P11: reasons_of. -/
namespace Qq.Lw
open PySem L2

def pick1 (rs : List Hd) (h : Hd) (w : Str) (g : List Str) : Bool := inG g w && decide (((cnt h g : Nat) : Int) = sm rs g)
def reaT (rs : List Hd) (L : List (List Str)) (h : Hd) (w : Str) : T := .tup ((L.filter (pick1 rs h w)).map grp)
def rea1 (rs : List Hd) (L : List (List Str)) (h : Hd) : En → List T
  | .out w => [reaT rs L h w]
  | _ => []
def reas (rs : List Hd) (L : List (List Str)) : List En → Hd → Int → List T
  | [], _, _ => []
  | e :: l, h, j => rea1 rs L h e ++ reas rs L l (nxt h j e) (adv j e)
def cR4 (iM : Nat) : C := (.comp false [7, 8] (.cons (.n 7) (.cons (.n 8) .nil)) .seq (.cons (.var 2) .nil) (.andV (.cmp .In (.var 6) (.var 7)) (.cmp .Eq (.call iM (.cons (.var 4) (.cons (.var 7) .nil))) (.var 8))) (.var 7))
def bR4 (iM : Nat) : P := (.seq (.ite (.cmp .Eq (.var 5) (.cst (.str "out"))) (.seq (.drop (.mth "append" (.var 3) (.cons (.frz (.bi false .tuple (.cons (cR4 iM) .nil))) .nil))) .nil) .nil) .nil)
def FReas (iS iM iW : Nat) : FI := ⟨2, 9, true, (.seq (.par [2, 3] (.cons (.call iS (.cons (.var 0) (.cons (.var 1) .nil))) (.cons (.lst true .nil) .nil))) (.seq (.for_ (.cons (.n 4) (.cons (.cons (.n 5) (.cons (.n 6) .nil)) .nil)) .zip (.cons (.call iW (.cons (.var 1) .nil)) (.cons (.var 1) .nil)) (bR4 iM)) (.seq (.ret (.var 3)) .nil)))⟩
theorem asg_z (i j k : Nat) (b : Bool) (x : T) (e : En) (r : Env) : asgT (.cons (.n i) (.cons (.cons (.n j) (.cons (.n k) .nil)) .nil)) (.tup [x, enT b e]) r = some (((r.set i (some (.t x))).set j (some (.t (.str e.wd)))).set k (some (.t e.vl))) := by
  cases b <;> rfl
section
variable {fs : List FI} {wf : Nat} {pm : Nat → List D → List D → Option (List D)}
theorem rea_go {cl : Nat → List D → Sto → R D} {iM : Nat} {x0 x1 x3 x5 : Option D} {rs : List Hd} {h : Hd} {w : Str} (hw : PyData.strOk w = true) {S : Sto} (hc : ∀ g, GOk g → cl iM [.t (hT h), .t (grp g)] S = .ok (.t (.int (cnt h g : Nat))) S) {z : Option D} : ∀ L : List (List Str), (∀ g ∈ L, GOk g) →
    compGo (compEl cl pm [7, 8] (.cons (.n 7) (.cons (.n 8) .nil)) (.andV (.cmp .In (.var 6) (.var 7)) (.cmp .Eq (.call iM (.cons (.var 4) (.cons (.var 7) .nil))) (.var 8))) (.var 7) [x0, x1, z, x3, some (.t (hT h)), x5, some (.t (.str w)), none, none]) (L.map (seenE rs)) S = .ok ((L.filter (pick1 rs h w)).map grp) S
  | [], _ => rfl
  | g :: L, hg => by
    have ih := rea_go (x0 := x0) (x1 := x1) (x3 := x3) (x5 := x5) (z := z) (rs := rs) hw hc L fun x hx => hg x (List.mem_cons_of_mem _ hx)
    have h1 := hc g (hg g List.mem_cons_self)
    have h2 := in_grp hw (hg g List.mem_cons_self)
    rw [List.map_cons]
    cases hb : inG g w with
    | false =>
      rw [hb] at h2
      have e : (g :: L).filter (pick1 rs h w) = L.filter (pick1 rs h w) := by simp [pick1, hb]
      rw [e]
      exact compGo_c (o := none) (compEl_ff (r' := [x0, x1, z, x3, some (.t (hT h)), x5, some (.t (.str w)), some (.t (grp g)), some (.t (.int (sm rs g)))]) rfl (by simp [h2, tr_bl]) (take_len S)) ih
    | true =>
      rw [hb] at h2
      by_cases hq : ((cnt h g : Nat) : Int) = sm rs g
      · have e : (g :: L).filter (pick1 rs h w) = g :: L.filter (pick1 rs h w) := by simp [pick1, hb, hq]
        rw [e, List.map_cons]
        exact compGo_c (o := some (grp g)) (compEl_tt (r' := [x0, x1, z, x3, some (.t (hT h)), x5, some (.t (.str w)), some (.t (grp g)), some (.t (.int (sm rs g)))]) rfl (by simp [h2, tr_bl, h1, c_eq, hq]) (by simp) (take_len S)) ih
      · have e : (g :: L).filter (pick1 rs h w) = L.filter (pick1 rs h w) := by simp [pick1, hb, hq]
        rw [e]
        exact compGo_c (o := none) (compEl_ff (r' := [x0, x1, z, x3, some (.t (hT h)), x5, some (.t (.str w)), some (.t (grp g)), some (.t (.int (sm rs g)))]) rfl (by simp [h2, tr_bl, h1, c_eq, hq]) (take_len S)) ih
theorem rea_step {cl : Nat → List D → Sto → R D} {iM : Nat} {b : Bool} {e : En} (he : EnOk e) {h : Hd} {rs : List Hd} {L : List (List Str)} (hL : LOk L) {acc : List T} (ha : acc.length < line) {x0 x1 x4 x5 x6 : Option D} {S : Sto} (hc : ∀ g (S : Sto), GOk g → cl iM [.t (hT h), .t (grp g)] S = .ok (.t (.int (cnt h g : Nat))) S) :
    forEl wf cl pm (.cons (.n 4) (.cons (.cons (.n 5) (.cons (.n 6) .nil)) .nil)) (bR4 iM) (.tup [hT h, enT b e]) [x0, x1, some (.t (seenT rs L)), some (.o S.length), x4, x5, x6, none, none] (S ++ [.lst acc]) =
      .ok (.nx, [x0, x1, some (.t (seenT rs L)), some (.o S.length), some (.t (hT h)), some (.t (.str e.wd)), some (.t e.vl), none, none]) (S ++ [.lst (acc ++ rea1 rs L h e)]) := by
  have hs : ∀ S, srcT .seq (.l [.t (seenT rs L)]) S = some (none, L.map (seenE rs)) := fun S => src_tup S (by rw [List.length_map]; have := hL.1; unfold line; omega)
  cases e with
  | go i => simp [forEl, asg_z, bR4, En.wd, En.vl, cgo, rea1]
  | inn w => simp [forEl, asg_z, bR4, En.wd, En.vl, cio, rea1]
  | out w =>
    have hg := rea_go (cl := cl) (pm := pm) (iM := iM) (x0 := x0) (x1 := x1) (x3 := some (.o S.length)) (x5 := some (.t (.str "out"))) (z := some (.t (seenT rs L))) (rs := rs) (h := h) (w := w) he (S := S ++ [.lst acc]) (fun g hg => hc g _ hg) L hL.2
    simp [forEl, asg_z, bR4, cR4, En.wd, En.vl, coo, see_e, rd_e, mi_app, hs, hg, b_tupl, app_e, ha, reaT, rea1]
theorem zip_rows {b : Bool} : ∀ (l : List En) (h : Hd) (j : Int), zipT ((pres l h j ++ [lastH l h j]).map hT) (l.map (enT b)) = match l with
    | [] => []
    | e :: l' => .tup [hT h, enT b e] :: zipT ((pres l' (nxt h j e) (adv j e) ++ [lastH l' (nxt h j e) (adv j e)]).map hT) (l'.map (enT b))
  | [], h, j => rfl
  | e :: l, h, j => rfl
theorem rea_loop {cl : Nat → List D → Sto → R D} {iM : Nat} {b : Bool} {rs : List Hd} {L : List (List Str)} (hL : LOk L) {x0 x1 : Option D} {S : Sto} (hc : ∀ h, RowOk h → ∀ g (S : Sto), GOk g → cl iM [.t (hT h), .t (grp g)] S = .ok (.t (.int (cnt h g : Nat))) S) : ∀ (l : List En) (h : Hd) (j : Int) (acc : List T) (x4 x5 x6 : Option D), (∀ e ∈ l, EnOk e) → HOk h j → h.length + l.length ≤ line → acc.length + l.length < line →
    ∃ x4' x5' x6', forGo (forEl wf cl pm (.cons (.n 4) (.cons (.cons (.n 5) (.cons (.n 6) .nil)) .nil)) (bR4 iM)) (zipT ((pres l h j ++ [lastH l h j]).map hT) (l.map (enT b))) [x0, x1, some (.t (seenT rs L)), some (.o S.length), x4, x5, x6, none, none] (S ++ [.lst acc]) =
      .ok (.nx, [x0, x1, some (.t (seenT rs L)), some (.o S.length), x4', x5', x6', none, none]) (S ++ [.lst (acc ++ reas rs L l h j)])
  | [], h, j, acc, x4, x5, x6, _, _, _, _ => ⟨x4, x5, x6, by simp [forGo, reas, zipT]⟩
  | e :: l, h, j, acc, x4, x5, x6, he, k, h1, h2 => by
    rw [List.length_cons] at h1 h2
    have st := rea_step (wf := wf) (cl := cl) (pm := pm) (iM := iM) (b := b) (e := e) (he e List.mem_cons_self) (h := h) (rs := rs) hL (acc := acc) (by omega) (x0 := x0) (x1 := x1) (x4 := x4) (x5 := x5) (x6 := x6) (S := S) (hc h ⟨⟨j, k⟩, by omega⟩)
    have hn := nxt_len h j e
    have hl : (rea1 rs L h e).length ≤ 1 := by cases e <;> simp [rea1]
    obtain ⟨y4, y5, y6, ih⟩ := rea_loop (b := b) (rs := rs) (x0 := x0) (x1 := x1) (S := S) hL hc l (nxt h j e) (adv j e) (acc ++ rea1 rs L h e) (some (.t (hT h))) (some (.t (.str e.wd))) (some (.t e.vl)) (fun q hq => he q (List.mem_cons_of_mem _ hq)) (k.nxt (he e List.mem_cons_self)) (by omega) (by rw [List.length_append]; omega)
    refine ⟨y4, y5, y6, ?_⟩
    rw [zip_rows]
    unfold forGo
    rw [st]
    simp only [R.bind_ok]
    rw [ih]
    have er : reas rs L (e :: l) h j = rea1 rs L h e ++ reas rs L l (nxt h j e) (adv j e) := rfl
    rw [er, List.append_assoc]
theorem reas_ok {n iR iS iT iM iW : Nat} (hR : fs[iR]? = some (FReas iS iM iW)) (hS : fs[iS]? = some (FSeen iT iM iW)) (hT' : fs[iT]? = some (FTup iT)) (hM : fs[iM]? = some FMany1) (hW : fs[iW]? = some FWalk2) {a b : Bool} {L : List (List Str)} {l : List En} (hL : LOk L) (he : ∀ e ∈ l, EnOk e) (hl : l.length < 1000000) (S : Sto) :
    callF fs wf pm (n + 1 + 2 + 1 + 1) iR [.t (lotsS a L), .t (logT b l)] S = .ok (.o S.length) (S ++ [.lst (reas (rows l) L l [] 0)]) := by
  have h0 := fun S => seen_ok (wf := wf) (pm := pm) (n := n) hS hT' hM hW (a := a) (b := b) hL he hl S
  have h1 := fun S => walk2_ok (wf := wf) (pm := pm) (n := n + 3) hW (b := b) he hl S
  have h3 : ∀ h, RowOk h → ∀ g (S : Sto), GOk g → callF fs wf pm (n + 3 + 1) iM [.t (hT h), .t (grp g)] S = .ok (.t (.int (cnt h g : Nat))) S := fun h hh g S hg => many1_ok hM hh.1.choose_spec hh.2 hg S
  have hll : l.length < line := by unfold line; omega
  refine callF_of hR rfl (Le.refl _) ?_
  unfold bodyF
  have e1 : n + 1 + 2 + 1 = n + 3 + 1 := rfl
  rw [e1] at h0 ⊢
  generalize callF fs wf pm (n + 3 + 1) = cl at *
  obtain ⟨x4, x5, x6, lo⟩ := rea_loop (wf := wf) (cl := cl) (pm := pm) (iM := iM) (b := b) (rs := rows l) hL (x0 := some (.t (lotsS a L))) (x1 := some (.t (logT b l))) (S := S) h3 l [] 0 [] none none none he HOk.nil (by simpa using Nat.le_of_lt hll) (by simpa using hll)
  have hs : ∀ S, srcT .zip (.l [.t (.tup ((rows l).map hT)), .t (logT b l)]) S = some (none, zipT ((rows l).map hT) (l.map (enT b))) := fun S => by
    refine src_of (lkOf_2 _ _) (bind2 ?_) (by rw [len_zipT, List.length_map, List.length_map]; omega)
    cases b <;> rfl
  simp only [List.nil_append] at lo
  have er : (pres l [] 0 ++ [lastH l [] 0]) = rows l := rfl
  rw [er] at lo
  simp [FReas, h0, h1, own_l, hs, lo, see_e, fin_e, cut_e]
end
end Qq.Lw

set_option maxHeartbeats 1000000
/-! P12: the law's own walk of a log. -/
namespace Qq.Lw
open PySem L2

def hLT (h : Hd) : T := .lst (hL h)
def FIn16 : FI := ⟨2, 3, false, (.seq (.ret (.bi false .len (.cons (.comp false [2] (.n 2) .seq (.cons (.var 0) .nil) (.cmp .In (.idx (.var 2) (.cst (.int 1))) (.var 1)) (.var 2)) .nil))) .nil)⟩
theorem ix1 (a b : T) : idxT (.tup [a, b]) (.int 1) = some b := rfl
theorem ix0 (a b : T) : idxT (.tup [a, b]) (.int 0) = some a := rfl
section
variable {fs : List FI} {wf : Nat} {pm : Nat → List D → List D → Option (List D)}
theorem in16_go {cl : Nat → List D → Sto → R D} {x0 : Option D} {g : List Str} {S : Sto} (hg : GOk g) : ∀ l : Hd, (∀ p ∈ l, PyData.strOk p.2 = true) →
    compGo (compEl cl pm [2] (.n 2) (.cmp .In (.idx (.var 2) (.cst (.int 1))) (.var 1)) (.var 2) [x0, some (.t (grp g)), none]) (hL l) S = .ok (hL (l.filter fun p => inG g p.2)) S
  | [], _ => rfl
  | p :: l, hl => by
    have ih := in16_go (cl := cl) (S := S) (x0 := x0) hg l fun q hq => hl q (List.mem_cons_of_mem _ hq)
    have hi := in_grp (hl p List.mem_cons_self) hg
    have e0 : hL (p :: l) = .tup [.int p.1, .str p.2] :: hL l := rfl
    rw [e0]
    cases hb : inG g p.2 with
    | true =>
      rw [hb] at hi
      have e : hL ((p :: l).filter fun p => inG g p.2) = .tup [.int p.1, .str p.2] :: hL (l.filter fun p => inG g p.2) := by simp [hb, hL]
      rw [e]
      exact compGo_c (o := some _) (compEl_tt (r' := [x0, some (.t (grp g)), some (.t (.tup [.int p.1, .str p.2]))]) rfl (by simp [ix1, hi]) (by simp) (take_len S)) ih
    | false =>
      rw [hb] at hi
      have e : hL ((p :: l).filter fun p => inG g p.2) = hL (l.filter fun p => inG g p.2) := by simp [hb, hL]
      rw [e]
      exact compGo_c (o := none) (compEl_ff (r' := [x0, some (.t (grp g)), some (.t (.tup [.int p.1, .str p.2]))]) rfl (by simp [ix1, hi]) (take_len S)) ih
theorem hL_len (h : Hd) : (hL h).length = h.length := List.length_map _
theorem in16_ok {n iI : Nat} (hF : fs[iI]? = some FIn16) {h : Hd} {g : List Str} (ho : ∀ p ∈ h, PyData.strOk p.2 = true) (hl : h.length ≤ line) (hg : GOk g) (S : Sto) : callF fs wf pm (n + 1) iI [.t (hLT h), .t (grp g)] S = .ok (.t (.int (cnt h g : Nat))) S := by
  refine callF_of hF rfl (Le.refl _) ?_
  have hs : srcT .seq (.l [.t (hLT h)]) S = some (none, hL h) := src_lst S (by rw [hL_len]; exact hl)
  have hgo := in16_go (cl := callF fs wf pm n) (pm := pm) (x0 := some (.t (hLT h))) (S := S) hg h ho
  unfold bodyF
  simp [FIn16, hs, hgo, b_len, fin, R.cut, take_len1, take_len, cnt, hL_len]

/-! stands -/
def cS6 : C := (.comp false [6] (.n 6) .seq (.cons (.var 1) .nil) (.cmp .NotEq (.idx (.var 6) (.cst (.int 0))) (.var 5)) (.var 6))
def bS9 : P := (.seq (.drop (.mth "append" (.var 3) (.cons (.var 1) .nil))) (.seq (.ite (.cmp .Eq (.var 4) (.cst (.str "go"))) (.seq (.asg (.n 1) cS6) .nil) (.seq (.asg (.n 1) (.ife (.cmp .Eq (.var 4) (.cst (.str "in"))) (.bin false .Add (.var 1) (.lst false (.cons (.tup (.cons (.var 2) (.cons (.var 5) .nil))) .nil))) (.var 1))) (.seq (.asg (.n 2) (.bin false .Add (.var 2) (.cst (.int 1)))) .nil))) .nil))
def FStands : FI := ⟨1, 7, false, (.seq (.par [1, 2, 3] (.cons (.lst false .nil) (.cons (.cst (.int 0)) (.cons (.lst true .nil) .nil)))) (.seq (.for_ (.cons (.n 4) (.cons (.n 5) .nil)) .seq (.cons (.var 0) .nil) bS9) (.seq (.ret (.bin false .Add (.frz (.var 3)) (.lst false (.cons (.var 1) .nil)))) .nil)))⟩
theorem cS6_go {cl : Nat → List D → Sto → R D} {i : Int} {x0 x1 x2 x3 x4 : Option D} {S : Sto} : ∀ h : Hd, compGo (compEl cl pm [6] (.n 6) (.cmp .NotEq (.idx (.var 6) (.cst (.int 0))) (.var 5)) (.var 6) [x0, x1, x2, x3, x4, some (.t (.int i)), none]) (hL h) S = .ok (hL (h.filter fun p => !decide (p.1 = i))) S
  | [] => rfl
  | p :: h => by
    have ih := cS6_go (cl := cl) (i := i) (x0 := x0) (x1 := x1) (x2 := x2) (x3 := x3) (x4 := x4) (S := S) h
    have e0 : hL (p :: h) = .tup [.int p.1, .str p.2] :: hL h := rfl
    rw [e0]
    by_cases e : p.1 = i
    · have e1 : (p :: h).filter (fun p => !decide (p.1 = i)) = h.filter fun p => !decide (p.1 = i) := by simp [e]
      rw [e1]
      exact compGo_c (o := none) (compEl_ff (r' := [x0, x1, x2, x3, x4, some (.t (.int i)), some (.t (.tup [.int p.1, .str p.2]))]) rfl (by simp [ix0, c_ne, e]) (take_len S)) ih
    · have e1 : (p :: h).filter (fun p => !decide (p.1 = i)) = p :: h.filter fun p => !decide (p.1 = i) := by simp [e]
      rw [e1]
      exact compGo_c (o := some _) (compEl_tt (r' := [x0, x1, x2, x3, x4, some (.t (.int i)), some (.t (.tup [.int p.1, .str p.2]))]) rfl (by simp [ix0, c_ne, e]) (by simp) (take_len S)) ih
theorem cS6_ok {cl : Nat → List D → Sto → R D} {h : Hd} {i : Int} (hl : h.length ≤ line) {x0 x2 x3 x4 : Option D} (S : Sto) : ev cl pm cS6 [x0, some (.t (hLT h)), x2, x3, x4, some (.t (.int i)), none] S = .ok (.t (hLT (h.filter fun p => !decide (p.1 = i)))) S := by
  have hs : srcT .seq (.l [.t (hLT h)]) S = some (none, hL h) := src_lst S (by rw [hL_len]; exact hl)
  have hg := cS6_go (cl := cl) (pm := pm) (i := i) (x0 := x0) (x1 := some (.t (hLT h))) (x2 := x2) (x3 := x3) (x4 := x4) (S := S) h
  unfold cS6
  simp [hs, hg]
  rfl
theorem b_cat (xs ys : List T) (h : xs.length + ys.length ≤ line) : binT .Add (.lst xs) (.lst ys) = some (.lst (xs ++ ys)) := if_pos h
theorem st_step {cl : Nat → List D → Sto → R D} {b : Bool} {e : En} (he : EnOk e) {h : Hd} {j : Int} (hl : h.length < line) {acc : List T} (ha : acc.length < line) {x0 x4 x5 : Option D} {S : Sto} :
    forEl wf cl pm (.cons (.n 4) (.cons (.n 5) .nil)) bS9 (enT b e) [x0, some (.t (hLT h)), some (.t (.int j)), some (.o S.length), x4, x5, none] (S ++ [.lst acc]) =
      .ok (.nx, [x0, some (.t (hLT (nxt h j e))), some (.t (.int (adv j e))), some (.o S.length), some (.t (.str e.wd)), some (.t e.vl), none]) (S ++ [.lst (acc ++ [hLT h])]) := by
  cases e with
  | go i =>
    have hd2 := cS6_ok (cl := cl) (pm := pm) (i := i) (x0 := x0) (x2 := some (.t (.int j))) (x3 := some (.o S.length)) (x4 := some (.t (.str "go"))) (Nat.le_of_lt hl) (S ++ [.lst (acc ++ [hLT h])])
    simp [forEl, asg_en, bS9, En.wd, En.vl, see_e, rd_e, mi_app, app_e, ha, cgg]
    simp [hd2, nxt, adv]
  | inn w =>
    have hcat : binT .Add (hLT h) (.lst [.tup [.int j, .str w]]) = some (hLT (h ++ [(j, w)])) := by
      rw [show hLT h = .lst (hL h) from rfl, b_cat _ _ (by rw [hL_len]; simp; omega)]
      simp [hLT, hL]
    simp [forEl, asg_en, bS9, En.wd, En.vl, see_e, rd_e, mi_app, app_e, ha, cig, cii, trL, hcat, b_add, nxt, adv]
  | out w =>
    simp [forEl, asg_en, bS9, En.wd, En.vl, see_e, rd_e, mi_app, app_e, ha, cog, coi, b_add, nxt, adv]
theorem st_loop {cl : Nat → List D → Sto → R D} {b : Bool} {x0 : Option D} {S : Sto} : ∀ (l : List En) (h : Hd) (j : Int) (acc : List T) (x4 x5 : Option D), (∀ e ∈ l, EnOk e) → h.length + l.length < line → acc.length + l.length < line →
    ∃ x4' x5', forGo (forEl wf cl pm (.cons (.n 4) (.cons (.n 5) .nil)) bS9) (l.map (enT b)) [x0, some (.t (hLT h)), some (.t (.int j)), some (.o S.length), x4, x5, none] (S ++ [.lst acc]) =
      .ok (.nx, [x0, some (.t (hLT (lastH l h j))), some (.t (.int (lastJ l j))), some (.o S.length), x4', x5', none]) (S ++ [.lst (acc ++ (pres l h j).map hLT)])
  | [], h, j, acc, x4, x5, _, _, _ => ⟨x4, x5, by simp [forGo, pres, lastH, lastJ]⟩
  | e :: l, h, j, acc, x4, x5, he, h1, h2 => by
    rw [List.length_cons] at h1 h2
    have st := st_step (wf := wf) (cl := cl) (pm := pm) (b := b) (x0 := x0) (x4 := x4) (x5 := x5) (S := S) (j := j) (he e List.mem_cons_self) (h := h) (by omega) (acc := acc) (by omega)
    have hn := nxt_len h j e
    obtain ⟨y4, y5, ih⟩ := st_loop (b := b) (x0 := x0) (S := S) l (nxt h j e) (adv j e) (acc ++ [hLT h]) (some (.t (.str e.wd))) (some (.t e.vl)) (fun q hq => he q (List.mem_cons_of_mem _ hq)) (by omega) (by rw [List.length_append]; simp; omega)
    refine ⟨y4, y5, ?_⟩
    rw [List.map_cons]
    unfold forGo
    rw [st]
    simp only [R.bind_ok]
    rw [ih]
    simp [pres, lastH, lastJ]
theorem stands_ok {n iZ : Nat} (hF : fs[iZ]? = some FStands) {b : Bool} {l : List En} (he : ∀ e ∈ l, EnOk e) (hl : l.length < 1000000) (S : Sto) : callF fs wf pm (n + 1) iZ [.t (logT b l)] S = .ok (.t (.lst ((rows l).map hLT))) S := by
  have hll : l.length < line := by unfold line; omega
  obtain ⟨x4, x5, lo⟩ := st_loop (wf := wf) (cl := callF fs wf pm n) (pm := pm) (b := b) (x0 := some (.t (logT b l))) (S := S) l [] 0 [] none none he (by simpa using hll) (by simpa using hll)
  have hs2 : ∀ S, srcT .seq (.l [.t (logT b l)]) S = some (none, l.map (enT b)) := fun S => src_sq b S (by rw [List.length_map]; exact Nat.le_of_lt hll)
  have hcat : binT .Add (.lst ((pres l [] 0).map hLT)) (.lst [hLT (lastH l [] 0)]) = some (.lst ((rows l).map hLT)) := by
    rw [b_cat _ _ (by rw [List.length_map, pres_len]; simp [line]; omega)]
    simp [rows]
  refine callF_of hF rfl (Le.refl _) ?_
  unfold bodyF
  generalize callF fs wf pm n = cl at *
  simp only [List.nil_append] at lo
  have e0 : T.lst [] = hLT [] := rfl
  simp [FStands, own_l, hs2, e0, trL, lo, see_e, frz_e, hcat, fin, R.cut, take_len, take_len1]
end
end Qq.Lw

set_option maxHeartbeats 1000000
/-! P13: what the law asks of a log. -/
namespace Qq.Lw
open PySem L2

def cD8 (iI : Nat) : C := (.comp false [8] (.n 8) .seq (.cons (.var 0) .nil) (.cst (.bl true)) (.tup (.cons (.var 8) (.cons (.frz (.bi false .maxL (.cons (.comp false [9] (.n 9) .seq (.cons (.var 2) .nil) (.cst (.bl true)) (.frz (.call iI (.cons (.var 9) (.cons (.var 8) .nil))))) .nil))) .nil))))
def cD10 (iI : Nat) : C := (.comp false [8, 10] (.cons (.n 8) (.cons (.n 10) .nil)) .seq (.cons (.var 3) .nil) (.andV (.cmp .In (.var 7) (.var 8)) (.cmp .Eq (.call iI (.cons (.idx (.var 2) (.var 5)) (.cons (.var 8) .nil))) (.var 10))) (.var 8))
def bD20 (iI : Nat) : P := (.seq (.ite (.cmp .Eq (.var 6) (.cst (.str "out"))) (.seq (.drop (.mth "append" (.var 4) (.cons (.frz (.bi false .tuple (.cons (cD10 iI) .nil))) .nil))) .nil) .nil) .nil)
def FDue (iZ iI : Nat) : FI := ⟨2, 11, false, (.seq (.asg (.n 2) (.call iZ (.cons (.var 1) .nil))) (.seq (.asg (.n 3) (.bi false .tuple (.cons (cD8 iI) .nil))) (.seq (.asg (.n 4) (.lst true .nil)) (.seq (.for_ (.cons (.n 5) (.cons (.cons (.n 6) (.cons (.n 7) .nil)) .nil)) .enum (.cons (.var 1) .nil) (bD20 iI)) (.seq (.ret (.lst false (.cons (.var 3) (.cons (.frz (.var 4)) .nil)))) .nil)))))⟩
def dueT (l : List En) (L : List (List Str)) : T := .lst [seenT (rows l) L, .lst (reas (rows l) L l [] 0)]
section
variable {fs : List FI} {wf : Nat} {pm : Nat → List D → List D → Option (List D)}
theorem d8_go {cl : Nat → List D → Sto → R D} {iI : Nat} {x0 x1 : Option D} {rs : List Hd} (hrs : rs ≠ []) (hl : rs.length ≤ line) {S : Sto} (hc : ∀ g, GOk g → ∀ h ∈ rs, cl iI [.t (hLT h), .t (grp g)] S = .ok (.t (.int (cnt h g : Nat))) S) : ∀ L : List (List Str), (∀ g ∈ L, GOk g) →
    compGo (compEl cl pm [8] (.n 8) (.cst (.bl true)) (.tup (.cons (.var 8) (.cons (.frz (.bi false .maxL (.cons (.comp false [9] (.n 9) .seq (.cons (.var 2) .nil) (.cst (.bl true)) (.frz (.call iI (.cons (.var 9) (.cons (.var 8) .nil))))) .nil))) .nil))) [x0, x1, some (.t (.lst (rs.map hLT))), none, none, none, none, none, none, none, none]) (L.map grp) S = .ok (L.map (seenE rs)) S
  | [], _ => rfl
  | g :: L, hg => by
    have ih := d8_go (x0 := x0) (x1 := x1) hrs hl hc L fun x hx => hg x (List.mem_cons_of_mem _ hx)
    have hs := src_lst (ts := rs.map hLT) S (by rw [List.length_map]; exact hl)
    have hcol := col_go (cl := cl) (pm := pm) (iM := iI) (hf := hLT) (g := g) (p := 9) (q := 8) (r := [x0, x1, some (.t (.lst (rs.map hLT))), none, none, none, none, none, some (.t (grp g)), none, none]) (S := S) rfl (by simp) (by decide) rs (hc g (hg g List.mem_cons_self))
    rw [List.map_cons]
    refine compGo_c (o := some (seenE rs g)) (compEl_tt (r' := [x0, x1, some (.t (.lst (rs.map hLT))), none, none, none, none, none, some (.t (grp g)), none, none]) rfl rfl (S' := S) ?_ (take_len S)) ih
    simp [hs, hcol, b_max hrs, trL, seenE]
theorem d10_go {cl : Nat → List D → Sto → R D} {iI : Nat} {x0 x1 x3 x4 x6 x9 : Option D} {rs : List Hd} {k : Nat} {h : Hd} (hk : rs[k]? = some h) {w : Str} (hw : PyData.strOk w = true) {S : Sto} (hc : ∀ g, GOk g → cl iI [.t (hLT h), .t (grp g)] S = .ok (.t (.int (cnt h g : Nat))) S) : ∀ L : List (List Str), (∀ g ∈ L, GOk g) →
    compGo (compEl cl pm [8, 10] (.cons (.n 8) (.cons (.n 10) .nil)) (.andV (.cmp .In (.var 7) (.var 8)) (.cmp .Eq (.call iI (.cons (.idx (.var 2) (.var 5)) (.cons (.var 8) .nil))) (.var 10))) (.var 8) [x0, x1, some (.t (.lst (rs.map hLT))), x3, x4, some (.t (.int (k : Int))), x6, some (.t (.str w)), none, x9, none]) (L.map (seenE rs)) S = .ok ((L.filter (pick1 rs h w)).map grp) S
  | [], _ => rfl
  | g :: L, hg => by
    have ih := d10_go (x0 := x0) (x1 := x1) (x3 := x3) (x4 := x4) (x6 := x6) (x9 := x9) (rs := rs) hk hw hc L fun x hx => hg x (List.mem_cons_of_mem _ hx)
    have h1 := hc g (hg g List.mem_cons_self)
    have h2 := in_grp hw (hg g List.mem_cons_self)
    have h3 : idxT (.lst (rs.map hLT)) (.int (k : Int)) = some (hLT h) := idx_l (by simp [hk])
    rw [List.map_cons]
    cases hb : inG g w with
    | false =>
      rw [hb] at h2
      have e : (g :: L).filter (pick1 rs h w) = L.filter (pick1 rs h w) := by simp [pick1, hb]
      rw [e]
      exact compGo_c (o := none) (compEl_ff (r' := [x0, x1, some (.t (.lst (rs.map hLT))), x3, x4, some (.t (.int (k : Int))), x6, some (.t (.str w)), some (.t (grp g)), x9, some (.t (.int (sm rs g)))]) rfl (by simp [h2, tr_bl]) (take_len S)) ih
    | true =>
      rw [hb] at h2
      by_cases hq : ((cnt h g : Nat) : Int) = sm rs g
      · have e : (g :: L).filter (pick1 rs h w) = g :: L.filter (pick1 rs h w) := by simp [pick1, hb, hq]
        rw [e, List.map_cons]
        exact compGo_c (o := some (grp g)) (compEl_tt (r' := [x0, x1, some (.t (.lst (rs.map hLT))), x3, x4, some (.t (.int (k : Int))), x6, some (.t (.str w)), some (.t (grp g)), x9, some (.t (.int (sm rs g)))]) rfl (by simp [h2, tr_bl, h3, h1, c_eq, hq]) (by simp) (take_len S)) ih
      · have e : (g :: L).filter (pick1 rs h w) = L.filter (pick1 rs h w) := by simp [pick1, hb, hq]
        rw [e]
        exact compGo_c (o := none) (compEl_ff (r' := [x0, x1, some (.t (.lst (rs.map hLT))), x3, x4, some (.t (.int (k : Int))), x6, some (.t (.str w)), some (.t (grp g)), x9, some (.t (.int (sm rs g)))]) rfl (by simp [h2, tr_bl, h3, h1, c_eq, hq]) (take_len S)) ih
theorem due_step {cl : Nat → List D → Sto → R D} {iI : Nat} {b : Bool} {e : En} (he : EnOk e) {h : Hd} {rs : List Hd} {k : Nat} (hk : rs[k]? = some h) {L : List (List Str)} (hL : LOk L) {acc : List T} (ha : acc.length < line) {x0 x1 x5 x6 x7 : Option D} {S : Sto} (hc : ∀ g (S : Sto), GOk g → cl iI [.t (hLT h), .t (grp g)] S = .ok (.t (.int (cnt h g : Nat))) S) :
    forEl wf cl pm (.cons (.n 5) (.cons (.cons (.n 6) (.cons (.n 7) .nil)) .nil)) (bD20 iI) (.tup [.int (k : Int), enT b e]) [x0, x1, some (.t (.lst (rs.map hLT))), some (.t (seenT rs L)), some (.o S.length), x5, x6, x7, none, none, none] (S ++ [.lst acc]) =
      .ok (.nx, [x0, x1, some (.t (.lst (rs.map hLT))), some (.t (seenT rs L)), some (.o S.length), some (.t (.int (k : Int))), some (.t (.str e.wd)), some (.t e.vl), none, none, none]) (S ++ [.lst (acc ++ rea1 rs L h e)]) := by
  have hs : ∀ S, srcT .seq (.l [.t (seenT rs L)]) S = some (none, L.map (seenE rs)) := fun S => src_tup S (by rw [List.length_map]; have := hL.1; unfold line; omega)
  cases e with
  | go i => simp [forEl, asg_z, bD20, En.wd, En.vl, cgo, rea1]
  | inn w => simp [forEl, asg_z, bD20, En.wd, En.vl, cio, rea1]
  | out w =>
    have hg := d10_go (cl := cl) (pm := pm) (iI := iI) (x0 := x0) (x1 := x1) (x3 := some (.t (seenT rs L))) (x4 := some (.o S.length)) (x6 := some (.t (.str "out"))) (x9 := none) (rs := rs) (h := h) (w := w) hk he (S := S ++ [.lst acc]) (fun g hg => hc g _ hg) L hL.2
    simp [forEl, asg_z, bD20, cD10, En.wd, En.vl, coo, see_e, rd_e, mi_app, hs, hg, b_tupl, app_e, ha, reaT, rea1]
theorem due_loop {cl : Nat → List D → Sto → R D} {iI : Nat} {b : Bool} {rs : List Hd} {L : List (List Str)} (hL : LOk L) {x0 x1 : Option D} {S : Sto} (hc : ∀ h, RowOk h → ∀ g (S : Sto), GOk g → cl iI [.t (hLT h), .t (grp g)] S = .ok (.t (.int (cnt h g : Nat))) S) : ∀ (l : List En) (h : Hd) (j : Int) (k : Nat) (ps : List Hd) (acc : List T) (x5 x6 x7 : Option D), (∀ e ∈ l, EnOk e) → HOk h j → h.length + l.length ≤ line → acc.length + l.length < line → rs = ps ++ (pres l h j ++ [lastH l h j]) → k = ps.length →
    ∃ x5' x6' x7', forGo (forEl wf cl pm (.cons (.n 5) (.cons (.cons (.n 6) (.cons (.n 7) .nil)) .nil)) (bD20 iI)) (enumT k (l.map (enT b))) [x0, x1, some (.t (.lst (rs.map hLT))), some (.t (seenT rs L)), some (.o S.length), x5, x6, x7, none, none, none] (S ++ [.lst acc]) =
      .ok (.nx, [x0, x1, some (.t (.lst (rs.map hLT))), some (.t (seenT rs L)), some (.o S.length), x5', x6', x7', none, none, none]) (S ++ [.lst (acc ++ reas rs L l h j)])
  | [], h, j, k, ps, acc, x5, x6, x7, _, _, _, _, _, _ => ⟨x5, x6, x7, by simp [forGo, reas, enumT]⟩
  | e :: l, h, j, k, ps, acc, x5, x6, x7, he, kk, h1, h2, hps, hkp => by
    rw [List.length_cons] at h1 h2
    have hk : rs[k]? = some h := by rw [hps, hkp]; simp [pres]
    have st := due_step (wf := wf) (cl := cl) (pm := pm) (iI := iI) (b := b) (e := e) (he e List.mem_cons_self) (h := h) (rs := rs) hk hL (acc := acc) (by omega) (x0 := x0) (x1 := x1) (x5 := x5) (x6 := x6) (x7 := x7) (S := S) (hc h ⟨⟨j, kk⟩, by omega⟩)
    have hn := nxt_len h j e
    have hl : (rea1 rs L h e).length ≤ 1 := by cases e <;> simp [rea1]
    obtain ⟨y5, y6, y7, ih⟩ := due_loop (b := b) (rs := rs) (x0 := x0) (x1 := x1) (S := S) hL hc l (nxt h j e) (adv j e) (k + 1) (ps ++ [h]) (acc ++ rea1 rs L h e) (some (.t (.int (k : Int)))) (some (.t (.str e.wd))) (some (.t e.vl)) (fun q hq => he q (List.mem_cons_of_mem _ hq)) (kk.nxt (he e List.mem_cons_self)) (by omega) (by rw [List.length_append]; omega) (by rw [hps]; simp [pres, lastH]) (by rw [List.length_append, hkp]; rfl)
    refine ⟨y5, y6, y7, ?_⟩
    rw [List.map_cons]
    unfold enumT forGo
    rw [st]
    simp only [R.bind_ok]
    rw [ih]
    have er : reas rs L (e :: l) h j = rea1 rs L h e ++ reas rs L l (nxt h j e) (adv j e) := rfl
    rw [er, List.append_assoc]
theorem lots_t (L : List (List Str)) : lotsS true L = .tup (L.map grp) := rfl
theorem due_ok {n iD iZ iI : Nat} (hD : fs[iD]? = some (FDue iZ iI)) (hZ : fs[iZ]? = some FStands) (hI : fs[iI]? = some FIn16) {L : List (List Str)} {l : List En} (hL : LOk L) (he : ∀ e ∈ l, EnOk e) (hl : l.length < 1000000) (S : Sto) :
    callF fs wf pm (n + 1 + 1) iD [.t (lotsS true L), .t (logT true l)] S = .ok (.t (dueT l L)) S := by
  have h1 := fun S => stands_ok (wf := wf) (pm := pm) (n := n) hZ (b := true) he hl S
  have h3 : ∀ h, RowOk h → ∀ g (S : Sto), GOk g → callF fs wf pm (n + 1) iI [.t (hLT h), .t (grp g)] S = .ok (.t (.int (cnt h g : Nat))) S := fun h hh g S hg => in16_ok hI hh.1.choose_spec.ok hh.2 hg S
  have hll : l.length < line := by unfold line; omega
  have hr := rows_ok he hl
  have hne : rows l ≠ [] := fun e => by have := rows_len l; rw [e] at this; simp at this
  have hlen : (rows l).length ≤ line := by rw [rows_len]; unfold line; omega
  refine callF_of hD rfl (Le.refl _) ?_
  unfold bodyF
  generalize callF fs wf pm (n + 1) = cl at *
  have h8 := d8_go (cl := cl) (pm := pm) (iI := iI) (x0 := some (.t (lotsS true L))) (x1 := some (.t (logT true l))) hne hlen (S := S) (fun g hg h hh => h3 h (hr h hh) g S hg) L hL.2
  obtain ⟨x5, x6, x7, lo⟩ := due_loop (wf := wf) (cl := cl) (pm := pm) (iI := iI) (b := true) (rs := rows l) hL (x0 := some (.t (lotsS true L))) (x1 := some (.t (logT true l))) (S := S) h3 l [] 0 0 [] [] none none none he HOk.nil (by simpa using Nat.le_of_lt hll) (by simpa using hll) rfl rfl
  have hs1 : ∀ S, srcT .seq (.l [.t (lotsS true L)]) S = some (none, L.map grp) := fun S => src_tup S (by rw [List.length_map]; have := hL.1; unfold line; omega)
  have hs2 : ∀ S, srcT .enum (.l [.t (logT true l)]) S = some (none, enumT 0 (l.map (enT true))) := fun S => by
    refine src_of (lkOf_1 _) (bind1 rfl) (by rw [len_enumT, List.length_map]; omega)
  simp only [List.nil_append] at lo
  have est : T.tup (L.map (seenE (rows l))) = seenT (rows l) L := rfl
  simp [FDue, cD8, h1, hs1, h8, b_tupl, est, own_l, hs2, lo, see_e, frz_e, trL, fin, R.cut, take_len, take_len1, dueT]
end
end Qq.Lw

set_option maxHeartbeats 1000000
/-! P14: one case is right. -/
namespace Qq.Lw
open PySem L2

def aC (iSm iS iR iD : Nat) : C := (.call iSm (.cons (.lst false (.cons (.frz (.call iS (.cons (.var 0) (.cons (.sl false (.var 1) none (some ()) .nil (.var 2)) .nil)))) (.cons (.frz (.call iR (.cons (.var 0) (.cons (.sl false (.var 1) none (some ()) .nil (.var 2)) .nil)))) .nil))) (.cons (.call iD (.cons (.var 0) (.cons (.sl false (.var 1) none (some ()) .nil (.var 2)) .nil))) .nil)))
def bC (iSm iS iR iD : Nat) : P := (.seq (.ite (.notV (.tru (aC iSm iS iR iD))) (.seq (.ret (.cst (.bl false))) .nil) .nil) .nil)
def FCase (iSm iS iR iD iL : Nat) : FI := ⟨2, 6, false, (.seq (.par [4, 5] (.cons (.call iL (.cons (.var 1) .nil)) (.cons (.call iL (.cons (.var 0) .nil)) .nil))) (.seq (.for_ (.n 2) .r1 (.cons (.bin false .Add (.bi false .len (.cons (.var 1) .nil)) (.cst (.int 1))) .nil) (bC iSm iS iR iD)) (.seq (.asg (.n 3) (.lst false (.cons (.frz (.call iS (.cons (.var 5) (.cons (.var 4) .nil)))) (.cons (.frz (.call iR (.cons (.var 5) (.cons (.var 4) .nil)))) (.cons (.frz (.callk iS 0 .nil (.cons (.var 4) (.cons (.var 5) .nil)))) (.cons (.frz (.callk iR 1 .nil (.cons (.var 4) (.cons (.var 5) .nil)))) .nil)))))) (.seq (.ret (.andV (.call iSm (.cons (.var 3) (.cons (.bin false .Mult (.call iD (.cons (.var 0) (.cons (.var 1) .nil))) (.cst (.int 2))) .nil))) (.cmp .Eq (.lst false (.cons (.var 4) (.cons (.var 5) .nil))) (.lst false (.cons (.frz (.call iL (.cons (.var 1) .nil))) (.cons (.frz (.call iL (.cons (.var 0) .nil))) .nil)))))) .nil))))⟩
theorem pl_l {k : Nat} {ts : List T} (h : ∀ t ∈ ts, pln k t = true) (hl : ts.length ≤ 1000000) : pln (k + 1) (.lst ts) = true := by
  show (ts.all (pln k) && decide (ts.length ≤ 1000000)) = true
  rw [Bool.and_eq_true]
  exact ⟨List.all_eq_true.mpr h, decide_eq_true hl⟩
theorem pl_t {k : Nat} {ts : List T} (h : ∀ t ∈ ts, pln k t = true) (hl : ts.length ≤ 1000000) : pln (k + 1) (.tup ts) = true := by
  show (ts.all (pln k) && decide (ts.length ≤ 1000000)) = true
  rw [Bool.and_eq_true]
  exact ⟨List.all_eq_true.mpr h, decide_eq_true hl⟩
theorem pl_s (b : Bool) {k : Nat} {ts : List T} (h : ∀ t ∈ ts, pln k t = true) (hl : ts.length ≤ 1000000) : pln (k + 1) (sq b ts) = true := by
  cases b
  · exact pl_l h hl
  · exact pl_t h hl
theorem pl_seen {rs : List Hd} {L : List (List Str)} (hL : LOk L) : pln 3 (seenT rs L) = true := by
  refine pl_t (fun t ht => ?_) (by rw [List.length_map]; have := hL.1; omega)
  obtain ⟨g, hg, rfl⟩ := List.mem_map.mp ht
  refine pl_t (fun u hu => ?_) (by simp)
  simp only [List.mem_cons, List.not_mem_nil, or_false] at hu
  rcases hu with rfl | rfl
  · exact pln_grp (b := true) (hL.2 g hg)
  · rfl
theorem reas_len (rs : List Hd) (L : List (List Str)) : ∀ (l : List En) (h : Hd) (j : Int), (reas rs L l h j).length ≤ l.length
  | [], _, _ => Nat.le_refl _
  | e :: l, h, j => by
    have er : reas rs L (e :: l) h j = rea1 rs L h e ++ reas rs L l (nxt h j e) (adv j e) := rfl
    have ih := reas_len rs L l (nxt h j e) (adv j e)
    have hl : (rea1 rs L h e).length ≤ 1 := by cases e <;> simp [rea1]
    rw [er, List.length_append, List.length_cons]
    omega
theorem reas_mem (rs : List Hd) (L : List (List Str)) : ∀ (l : List En) (h : Hd) (j : Int), ∀ t ∈ reas rs L l h j, ∃ h' w, t = reaT rs L h' w
  | [], _, _, t, ht => by cases ht
  | e :: l, h, j, t, ht => by
    have er : reas rs L (e :: l) h j = rea1 rs L h e ++ reas rs L l (nxt h j e) (adv j e) := rfl
    rw [er] at ht
    rcases List.mem_append.mp ht with ht | ht
    · cases e with
      | out w => exact ⟨h, w, by simpa [rea1] using ht⟩
      | inn w => cases ht
      | go i => cases ht
    · exact reas_mem rs L l _ _ t ht
theorem pl_rea {rs : List Hd} {L : List (List Str)} (hL : LOk L) {l : List En} (hl : l.length < 1000000) {h : Hd} {j : Int} : pln 3 (.lst (reas rs L l h j)) = true := by
  refine pl_l (fun t ht => ?_) (by have := reas_len rs L l h j; omega)
  obtain ⟨h', w, rfl⟩ := reas_mem rs L l h j t ht
  refine pl_t (fun u hu => ?_) (by rw [List.length_map]; have := List.length_filter_le (pick1 rs h' w) L; have := hL.1; omega)
  obtain ⟨g, hg, rfl⟩ := List.mem_map.mp hu
  exact pln_grp (b := true) (hL.2 g (List.mem_filter.mp hg).1)
theorem pl_due {L : List (List Str)} (hL : LOk L) {l : List En} (hl : l.length < 1000000) : pln 4 (dueT l L) = true := by
  refine pl_l (fun u hu => ?_) (by simp)
  simp only [List.mem_cons, List.not_mem_nil, or_false] at hu
  rcases hu with rfl | rfl
  · exact pl_seen hL
  · exact pl_rea hL hl
theorem pl_due2 {L : List (List Str)} (hL : LOk L) {l : List En} (hl : l.length < 1000000) : pln 4 (.lst [seenT (rows l) L, .lst (reas (rows l) L l [] 0), seenT (rows l) L, .lst (reas (rows l) L l [] 0)]) = true := by
  refine pl_l (fun u hu => ?_) (by simp)
  simp only [List.mem_cons, List.not_mem_nil, or_false] at hu
  rcases hu with rfl | rfl | rfl | rfl
  · exact pl_seen hL
  · exact pl_rea hL hl
  · exact pl_seen hL
  · exact pl_rea hL hl
theorem wd_ok (e : En) : PyData.strOk e.wd = true := by
  cases e
  · show PyData.strOk "in" = true; decide +kernel
  · show PyData.strOk "out" = true; decide +kernel
  · show PyData.strOk "go" = true; decide +kernel
theorem pl_en {b : Bool} {e : En} (he : EnOk e) : pln 1 (enT b e) = true := by
  refine pl_s b (fun u hu => ?_) (by simp)
  simp only [List.mem_cons, List.not_mem_nil, or_false] at hu
  rcases hu with rfl | rfl
  · exact wd_ok e
  · cases e with
    | inn w => exact he
    | out w => exact he
    | go i => rfl
theorem pl_log {b : Bool} {l : List En} (he : ∀ e ∈ l, EnOk e) (hl : l.length < 1000000) : pln 2 (logT b l) = true := by
  refine pl_s b (fun u hu => ?_) (by rw [List.length_map]; omega)
  obtain ⟨e, h, rfl⟩ := List.mem_map.mp hu
  exact pl_en (he e h)
theorem lst_log (l : List En) : lstD 2 (logT true l) = logT false l := by
  have e : (l.map (enT true)).map (lstD 1) = l.map (enT false) := List.map_map.trans rfl
  exact congrArg T.lst e
theorem lst_lots (L : List (List Str)) : lstD 2 (lotsS true L) = lotsS false L := by
  have h : ∀ g : List Str, lstD 1 (sq true (g.map T.str)) = sq false (g.map T.str) := fun g => congrArg T.lst (List.map_map.trans rfl)
  have e : (L.map fun g => sq true (g.map T.str)).map (lstD 1) = L.map fun g => sq false (g.map T.str) := List.map_map.trans (List.map_congr_left fun g _ => h g)
  exact congrArg T.lst e
theorem sl_log (l : List En) (k : Nat) : slT (logT true l) none (some (k : Int)) = some (logT true (l.take k)) := by
  show some (T.tup (cutL (l.map (enT true)) none (some (k : Int)))) = _
  rw [cut_lo, ← List.map_take]; rfl
theorem len_log (l : List En) : biT .len [logT true l] = some (.int (l.length : Nat)) := by
  show some (T.int ((l.map (enT true)).length : Nat)) = _
  rw [List.length_map]
theorem b_two (x y : T) : binT .Mult (.lst [x, y]) (.int 2) = some (.lst [x, y, x, y]) := rfl
section
variable {fs : List FI} {wf : Nat} {pm : Nat → List D → List D → Option (List D)}
/-- what the calls of a case do -/
structure CaseCl (cl : Nat → List D → Sto → R D) (iSm iS iR iD iL : Nat) : Prop where
  sm : ∀ (t : T) (S : Sto), pln 4 t = true → cl iSm [.t t, .t t] S = .ok (.t (.bl true)) S
  se : ∀ (a b : Bool) (L : List (List Str)) (l : List En), LOk L → (∀ e ∈ l, EnOk e) → l.length < 1000000 → ∀ S : Sto, cl iS [.t (lotsS a L), .t (logT b l)] S = .ok (.t (seenT (rows l) L)) S
  re : ∀ (a b : Bool) (L : List (List Str)) (l : List En), LOk L → (∀ e ∈ l, EnOk e) → l.length < 1000000 → ∀ S : Sto, cl iR [.t (lotsS a L), .t (logT b l)] S = .ok (.o S.length) (S ++ [.lst (reas (rows l) L l [] 0)])
  du : ∀ (L : List (List Str)) (l : List En), LOk L → (∀ e ∈ l, EnOk e) → l.length < 1000000 → ∀ S : Sto, cl iD [.t (lotsS true L), .t (logT true l)] S = .ok (.t (dueT l L)) S
  li : ∀ (t : T) (S : Sto), pln 2 t = true → cl iL [.t t] S = .ok (.t (lstD 2 t)) S
theorem case_step {cl : Nat → List D → Sto → R D} {iSm iS iR iD iL : Nat} (hc : CaseCl cl iSm iS iR iD iL) {L : List (List Str)} {l : List En} (hL : LOk L) (he : ∀ e ∈ l, EnOk e) (hl : l.length < 1000000) (k : Nat) {x2 x3 x4 x5 : Option D} (S : Sto) :
    ∃ c, forEl wf cl pm (.n 2) (bC iSm iS iR iD) (.int (k : Int)) [some (.t (lotsS true L)), some (.t (logT true l)), x2, x3, x4, x5] S = .ok (.nx, [some (.t (lotsS true L)), some (.t (logT true l)), some (.t (.int (k : Int))), x3, x4, x5]) (S ++ [.gon c]) := by
  have he' : ∀ e ∈ l.take k, EnOk e := fun e h => he e (List.mem_of_mem_take h)
  have hl' : (l.take k).length < 1000000 := by rw [List.length_take]; omega
  have h1 := hc.se true true L (l.take k) hL he' hl'
  have h2 := hc.re true true L (l.take k) hL he' hl'
  have h3 := hc.du L (l.take k) hL he' hl'
  have h4 := fun S => hc.sm (dueT (l.take k) L) S (pl_due hL hl')
  have h5 : T.lst [seenT (rows (l.take k)) L, .lst (reas (rows (l.take k)) L (l.take k) [] 0)] = dueT (l.take k) L := rfl
  refine ⟨.lst (reas (rows (l.take k)) L (l.take k) [] 0), ?_⟩
  simp [forEl, bC, aC, pt1, pt2, sl_log, h1, h2, frz_e, trL, h5, h3, h4, tr_bl]
theorem case_loop {f : T → Env → Sto → R (Fl × Env)} {x0 x1 x3 x4 x5 : Option D} (hs : ∀ (k : Nat) (x2 : Option D) (S : Sto), ∃ c, f (.int (k : Int)) [x0, x1, x2, x3, x4, x5] S = .ok (.nx, [x0, x1, some (.t (.int (k : Int))), x3, x4, x5]) (S ++ [.gon c])) : ∀ (n k : Nat) (x2 : Option D) (S : Sto),
    ∃ x2' gs, forGo f (upT (k : Int) n) [x0, x1, x2, x3, x4, x5] S = .ok (.nx, [x0, x1, x2', x3, x4, x5]) (S ++ gs)
  | 0, k, x2, S => ⟨x2, [], by simp [upT, forGo]⟩
  | n + 1, k, x2, S => by
    obtain ⟨c, st⟩ := hs k x2 S
    obtain ⟨y, gs, ih⟩ := case_loop hs n (k + 1) (some (.t (.int (k : Int)))) (S ++ [.gon c])
    refine ⟨y, .gon c :: gs, ?_⟩
    unfold upT forGo
    rw [st]
    simp only [R.bind_ok]
    have ek : ((k : Int) + 1) = ((k + 1 : Nat) : Int) := (Int.natCast_succ k).symm
    rw [ek, ih, List.append_assoc]
    rfl
theorem r1_case {n : Nat} (hl : n < 1000000) (S : Sto) : srcT .r1 (.l [.t (.int ((n : Int) + 1))]) S = some (none, upT ((0 : Nat) : Int) (n + 1)) := by
  have h : n + 1 ≤ 16777216 := Nat.le_trans hl (by decide)
  have := src_r1 (n + 1) h S
  rw [Int.natCast_succ] at this
  exact this
theorem eq_case {L : List (List Str)} {l : List En} (hL : LOk L) (he : ∀ e ∈ l, EnOk e) (hl : l.length < 1000000) : cmpT .Eq (.lst [logT false l, lotsS false L]) (.lst [logT false l, lotsS false L]) = some true := by
  have h : pln 3 (.lst [logT false l, lotsS false L]) = true := pl_l (fun u hu => by
    simp only [List.mem_cons, List.not_mem_nil, or_false] at hu
    rcases hu with rfl | rfl
    · exact pl_log he hl
    · exact pln_lots hL) (by simp)
  exact eqT_self (k := 3) h (by decide)
end
end Qq.Lw

set_option maxHeartbeats 1000000
/-! P15: one case is right (2). -/
namespace Qq.Lw
open PySem L2
section
variable {fs : List FI} {wf : Nat} {pm : Nat → List D → List D → Option (List D)}
theorem case_core {cl : Nat → List D → Sto → R D} {iSm iS iR iD iL : Nat} {gl gL hl hL se du m m1 mm : T} {rs us : List T} {S S1 : Sto} {y : Option D}
    (a1 : ∀ S : Sto, cl iL [.t gl] S = .ok (.t hl) S) (a2 : ∀ S : Sto, cl iL [.t gL] S = .ok (.t hL) S)
    (hlen : biT .len [gl] = some m) (hm : binT .Add m (.int 1) = some m1) (hr1 : srcT .r1 (.l [.t m1]) S = some (none, us))
    (hp0 : ∀ a b, pm 0 [] [a, b] = some [b, a]) (hp1 : ∀ a b, pm 1 [] [a, b] = some [b, a])
    (h1 : ∀ S : Sto, cl iS [.t hL, .t hl] S = .ok (.t se) S)
    (h2 : ∀ S : Sto, cl iR [.t hL, .t hl] S = .ok (.o S.length) (S ++ [.lst rs]))
    (h3 : ∀ S : Sto, cl iD [.t gL, .t gl] S = .ok (.t du) S)
    (h8 : binT .Mult du (.int 2) = some mm) (h9 : T.lst [se, .lst rs, se, .lst rs] = mm)
    (h4 : ∀ S : Sto, cl iSm [.t mm, .t mm] S = .ok (.t (.bl true)) S)
    (h7 : cmpT .Eq (.lst [hl, hL]) (.lst [hl, hL]) = some true)
    (lo : forGo (forEl wf cl pm (.n 2) (bC iSm iS iR iD)) us [some (.t gL), some (.t gl), none, none, some (.t hl), some (.t hL)] S = .ok (.nx, [some (.t gL), some (.t gl), y, none, some (.t hl), some (.t hL)]) S1)
    (hT : ∀ a b : Cl, List.take (S.length + 1) (List.take S.length (S1 ++ [a] ++ [b])) = S) :
    bodyF wf cl pm (FCase iSm iS iR iD iL) [.t gL, .t gl] S = .ok (.t (.bl true)) S := by
  unfold bodyF
  subst h9
  simp [-List.append_assoc, -List.length_append, FCase, a1, a2, hlen, hm, hr1, lo, h1, h2, frz_e, hp0, hp1, trL, h3, h8, h4, tr_bl, h7, fin, R.cut, hT]
theorem case_ok {n iC iSm iS iR iD iL : Nat} (hF : fs[iC]? = some (FCase iSm iS iR iD iL)) (hc : CaseCl (callF fs wf pm n) iSm iS iR iD iL) (hp0 : ∀ a b, pm 0 [] [a, b] = some [b, a]) (hp1 : ∀ a b, pm 1 [] [a, b] = some [b, a]) {L : List (List Str)} {l : List En} (hL : LOk L) (he : ∀ e ∈ l, EnOk e) (hl : l.length < 1000000) (S : Sto) :
    callF fs wf pm (n + 1) iC [.t (lotsS true L), .t (logT true l)] S = .ok (.t (.bl true)) S := by
  have a1 := fun S => hc.li (logT true l) S (pl_log he hl)
  have a2 := fun S => hc.li (lotsS true L) S (pln_lots hL)
  rw [lst_log] at a1
  rw [lst_lots] at a2
  obtain ⟨y, gs, lo⟩ := case_loop (fun k x2 S => case_step (wf := wf) (pm := pm) hc hL he hl k (x2 := x2) (x3 := none) (x4 := some (.t (logT false l))) (x5 := some (.t (lotsS false L))) S) (l.length + 1) 0 none S
  exact callF_of hF rfl (Le.refl _) (case_core a1 a2 (len_log l) (b_add _ _) (r1_case hl S) hp0 hp1 (hc.se false false L l hL he hl) (hc.re false false L l hL he hl) (hc.du L l hL he hl) (b_two _ _) rfl (fun S => hc.sm _ S (pl_due2 hL hl)) (eq_case hL he hl) lo (fun a b => by simp; exact List.take_of_length_le (by omega)))
end
end Qq.Lw

set_option maxHeartbeats 1000000
/-! P16: what is drawn: sorted rows, some unlike things of a pool. -/
namespace Qq.Lw
open PySem L2
/-- a row of like things -/
theorem maps_of {α : Type} {f : α → T} {P : α → Prop} : ∀ {r : List T}, (∀ t ∈ r, ∃ x, P x ∧ f x = t) → ∃ g : List α, r = g.map f ∧ g.length = r.length ∧ ∀ x ∈ g, P x
  | [], _ => ⟨[], rfl, rfl, fun x hx => nomatch hx⟩
  | t :: r, h => by
    obtain ⟨x, hp, hx⟩ := h t List.mem_cons_self
    obtain ⟨g, hr, hl, hg⟩ := maps_of (r := r) fun u hu => h u (List.mem_cons_of_mem _ hu)
    refine ⟨x :: g, by rw [List.map_cons, hx, hr], by rw [List.length_cons, List.length_cons, hl], fun y hy => ?_⟩
    rcases List.mem_cons.mp hy with rfl | hy
    · exact hp
    · exact hg y hy
theorem pdL_strs : ∀ g : List Str, T.pdL (g.map T.str) = some (g.map PyData.str)
  | [] => rfl
  | x :: g => by
    rw [List.map_cons]
    unfold T.pdL
    rw [pdL_strs g]
    rfl
theorem pdL_of {ds : List T} (h : ∀ d ∈ ds, ∃ p, d.pd = some p) : T.pdL ds = some (ds.map T.pdg) := by
  induction ds with
  | nil => rfl
  | cons d r ih =>
    obtain ⟨p, hp⟩ := h d List.mem_cons_self
    unfold T.pdL
    rw [ih fun e he => h e (List.mem_cons_of_mem _ he), hp]
    simp [T.pdg, hp]
def tupS (g : List Str) : T := .tup (g.map T.str)
theorem tupS_pd (g : List Str) : (tupS g).pd = some (.tuple (g.map PyData.str)) := by
  unfold tupS T.pd
  rw [pdL_strs]
theorem tups_pd : ∀ L : List (List Str), T.pdL (L.map tupS) = some (L.map fun g => PyData.tuple (g.map PyData.str))
  | [] => rfl
  | g :: L => by
    rw [List.map_cons]
    unfold T.pdL
    rw [tups_pd L, tupS_pd]
    rfl
theorem alikeAll_strs : ∀ g g' : List Str, PySem.W.alikeAll (g.map PyData.str) (g'.map PyData.str) = true
  | [], _ => by unfold PySem.W.alikeAll; rfl
  | x :: g, [] => by unfold PySem.W.alikeAll; rfl
  | x :: g, y :: g' => by
    rw [List.map_cons, List.map_cons]
    unfold PySem.W.alikeAll
    rw [alikeAll_strs g g']
    unfold PySem.W.alike
    rfl
theorem depth_strs (g : List Str) : PyData.depthAll (g.map PyData.str) ≤ 1 := depthAll_le _ fun p hp => by
  obtain ⟨x, _, rfl⟩ := List.mem_map.mp hp
  unfold PyData.depth
  decide
theorem sort_strs {g : List Str} (hl : g.length ≤ line) : ∃ g' : List Str, sortT (g.map T.str) = some (g'.map T.str) ∧ g'.length = g.length ∧ ∀ x ∈ g', x ∈ g := by
  have hs : srtOk (g.map PyData.str) = true := by
    unfold srtOk
    rw [Bool.and_eq_true, Bool.and_eq_true, Bool.or_eq_true]
    refine ⟨⟨List.all_eq_true.mpr fun p hp => List.all_eq_true.mpr fun q hq => ?_, .inr (List.all_eq_true.mpr fun p hp => ?_)⟩, List.all_eq_true.mpr fun p hp => ?_⟩
    · obtain ⟨x, _, rfl⟩ := List.mem_map.mp hp
      obtain ⟨y, _, rfl⟩ := List.mem_map.mp hq
      unfold PySem.W.alike; rfl
    · obtain ⟨x, _, rfl⟩ := List.mem_map.mp hp
      rfl
    · obtain ⟨x, _, rfl⟩ := List.mem_map.mp hp
      unfold PyData.depth; rfl
  obtain ⟨g', h1, h2, h3⟩ := maps_of (f := T.str) (P := fun x => x ∈ g) (r := srtT leT (g.map T.str)) fun t ht => by
    obtain ⟨x, hx, e⟩ := List.mem_map.mp ((srtT_perm leT _).mem_iff.mp ht)
    exact ⟨x, hx, e⟩
  refine ⟨g', ?_, ?_, h3⟩
  · unfold sortT
    rw [pdL_strs]
    show (if _ then _ else _) = _
    rw [if_pos ⟨by rw [List.length_map]; exact hl, hs⟩, h1]
  · rw [h2, (srtT_perm leT _).length_eq, List.length_map]
theorem sort_tups {L : List (List Str)} (hl : L.length ≤ line) (hn : ∀ g ∈ L, g ≠ []) : ∃ L' : List (List Str), sortT (L.map tupS) = some (L'.map tupS) ∧ L'.length = L.length ∧ ∀ x ∈ L', x ∈ L := by
  have hs : srtOk (L.map fun g => PyData.tuple (g.map PyData.str)) = true := by
    unfold srtOk
    rw [Bool.and_eq_true, Bool.and_eq_true, Bool.or_eq_true]
    refine ⟨⟨List.all_eq_true.mpr fun p hp => List.all_eq_true.mpr fun q hq => ?_, .inl (List.all_eq_true.mpr fun p hp => ?_)⟩, List.all_eq_true.mpr fun p hp => ?_⟩
    · obtain ⟨x, _, rfl⟩ := List.mem_map.mp hp
      obtain ⟨y, _, rfl⟩ := List.mem_map.mp hq
      unfold PySem.W.alike
      exact alikeAll_strs x y
    · obtain ⟨x, hx, rfl⟩ := List.mem_map.mp hp
      cases x with
      | nil => exact absurd rfl (hn _ hx)
      | cons _ _ => rfl
    · obtain ⟨x, _, rfl⟩ := List.mem_map.mp hp
      refine decide_eq_true ?_
      unfold PyData.depth
      have := depth_strs x
      omega
  obtain ⟨L', h1, h2, h3⟩ := maps_of (f := tupS) (P := fun x => x ∈ L) (r := srtT leT (L.map tupS)) fun t ht => by
    obtain ⟨x, hx, e⟩ := List.mem_map.mp ((srtT_perm leT _).mem_iff.mp ht)
    exact ⟨x, hx, e⟩
  refine ⟨L', ?_, ?_, h3⟩
  · unfold sortT
    rw [tups_pd]
    show (if _ then _ else _) = _
    rw [if_pos ⟨by rw [List.length_map]; exact hl, hs⟩, h1]
  · rw [h2, (srtT_perm leT _).length_eq, List.length_map]

/-! ### some unlike things of a pool -/
section
variable {fs : List FI} {wf : Nat} {pm : Nat → List D → List D → Option (List D)}
def pkB (iT : Nat) : P := (.seq (.drop (.mth "append" (.var 5) (.cons (.frz (.mth "pop" (.var 4) (.cons (.frz (.call iT (.cons (.var 0) (.cons (.bi false .len (.cons (.var 4) .nil)) .nil)))) .nil))) .nil))) .nil)
def FPick (iT : Nat) : FI := ⟨3, 6, false, (.seq (.par [4, 5] (.cons (.bi true .list (.cons (.var 1) .nil)) (.cons (.lst true .nil) .nil))) (.seq (.for_ (.n 3) .r1 (.cons (.bi false .min2 (.cons (.var 2) (.cons (.bi false .len (.cons (.var 4) .nil)) .nil))) .nil) (pkB iT)) (.seq (.ret (.var 5)) .nil)))⟩
theorem mi_pop (xs : List T) : miOf (.lst xs) "pop" = some .lpop := by
  have h : ¬ (("pop" : Str) = MI.nm .append) := by decide +kernel
  show (if ("pop" : Str) = MI.nm .append then some MI.append else if ("pop" : Str) = MI.nm .lpop then some MI.lpop else none) = _
  exact (if_neg h).trans (if_pos rfl)
theorem sq_at {n v : Nat} (h : v < n) : seqIndex? (v : Int) n = some v := by
  unfold seqIndex?
  have h1 : ¬ ((v : Int) < 0) := by omega
  have h2 : (v : Int) < (n : Int) := by omega
  simp [h1, h2]
theorem pop_at {c0 : Cl} {S : Sto} {rs : List T} {v : Nat} {t : T} (h : rs[v]? = some t) (hl : rs.length ≤ line) : mthS .lpop (.o 1) [.t (.int (v : Int))] (c0 :: .lst rs :: S) = .ok (.t t) (c0 :: .lst (rs.eraseIdx v) :: S) := by
  have hv := (List.getElem?_eq_some_iff.mp h).1
  unfold line at hl
  have h1 : (v : Int) < 2 ^ 63 := by omega
  have h2 : -(2 ^ 63) ≤ (v : Int) := by omega
  unfold mthS
  simp only [List.getElem?_cons_succ, List.getElem?_cons_zero, h1, h2, and_self, if_true, sq_at hv, h, List.set_cons_succ, List.set_cons_zero]
theorem app_at2 {c0 c1 : Cl} {fs' : List T} {t : T} (h : fs'.length < line) : mthS .append (.o 2) [.t t] [c0, c1, .lst fs'] = .ok (.t .non) [c0, c1, .lst (fs' ++ [t])] := by
  unfold mthS
  simp [h]
theorem pick_step {cl : Nat → List D → Sto → R D} {iT : Nat} {j j' : Cl} {k : Nat} {rs us : List T} {x1 x2 x3 : Option D} {d t : T} {v : Nat} (hj : JarOk k j)
    (e : cl iT [.o 0, .t (.int (rs.length : Int))] [j, .lst rs, .lst us] = .ok (.t (.int (v : Int))) [j', .lst rs, .lst us]) (ht : rs[v]? = some t) (hl : rs.length ≤ line) (hu : us.length < line) :
    forEl wf cl pm (.n 3) (pkB iT) d [some (.o 0), x1, x2, x3, some (.o 1), some (.o 2)] [j, .lst rs, .lst us] = .ok (.nx, [some (.o 0), x1, x2, some (.t d), some (.o 1), some (.o 2)]) [j', .lst (rs.eraseIdx v), .lst (us ++ [t])] := by
  have s1 : ∀ c : Cl, see [c, .lst rs, .lst us] (.o 1) = .o 1 := fun _ => rfl
  have s2 : ∀ c : Cl, see [c, .lst rs, .lst us] (.o 2) = .o 2 := fun _ => rfl
  have r1 : ∀ c : Cl, rd [c, .lst rs, .lst us] (.o 1) = some (.lst rs) := fun _ => rfl
  have r2 : ∀ c : Cl, rd [c, .lst rs, .lst us] (.o 2) = some (.lst us) := fun _ => rfl
  have p1 := pop_at (c0 := j') (S := [.lst us]) ht hl
  have p2 := app_at2 (c0 := j') (c1 := .lst (rs.eraseIdx v)) (t := t) hu
  have f0 : ∀ (t : T) (S : Sto), frzS S (.t t) = .ok (.t t) S := fun _ _ => rfl
  simp -implicitDefEqProofs [forEl, pkB, s1, s2, r1, r2, mi_app, mi_pop, hj.see, b_len, e, p1, p2, f0]
theorem pick_loop {n iT : Nat} {cA : Int} (hF : fs[iT]? = some (FTake cA)) (hA : 0 ≤ cA ∧ cA < 2 ^ 40) {x1 x2 : Option D} {P : T → Prop} : ∀ (m z k : Nat) (j : Cl) (rs us : List T) (x3 : Option D), m ≤ rs.length → rs.length ≤ 1000 → us.length + m ≤ 1000 → JarOk (k + m) j → (∀ t ∈ rs, P t) → (∀ t ∈ us, P t) →
    ∃ j' x3' rs' us', us'.length = us.length + m ∧ (∀ t ∈ us', P t) ∧ JarOk k j' ∧ forGo (forEl wf (callF fs wf pm (n + 1)) pm (.n 3) (pkB iT)) (upT (z : Int) m) [some (.o 0), x1, x2, x3, some (.o 1), some (.o 2)] [j, .lst rs, .lst us] = .ok (.nx, [some (.o 0), x1, x2, x3', some (.o 1), some (.o 2)]) [j', .lst rs', .lst us']
  | 0, z, k, j, rs, us, x3, _, _, _, hj, _, hu => ⟨j, x3, rs, us, rfl, hu, hj, rfl⟩
  | m + 1, z, k, j, rs, us, x3, h1, h2, h3, hj, hr, hu => by
    obtain ⟨v, j1, hv, hj1, e⟩ := take_ok (wf := wf) (pm := pm) (n := n) (k := k + m) hF hA hj [.lst rs, .lst us] (top := (rs.length : Int)) (by omega) (by omega)
    have hv' : v < rs.length := by omega
    have ht : rs[v]? = some rs[v] := by simp [hv']
    have st := pick_step (wf := wf) (pm := pm) (cl := callF fs wf pm (n + 1)) (x1 := x1) (x2 := x2) (x3 := x3) (d := .int (z : Int)) hj e ht (by unfold line; omega) (by unfold line; omega)
    obtain ⟨j', x3', rs', us', g1, g2, g3, g4⟩ := pick_loop (n := n) hF hA (x1 := x1) (x2 := x2) (P := P) m (z + 1) k j1 (rs.eraseIdx v) (us ++ [rs[v]]) (some (.t (.int (z : Int)))) (by rw [List.length_eraseIdx_of_lt hv']; omega) (by rw [List.length_eraseIdx_of_lt hv']; omega) (by rw [List.length_append, List.length_singleton]; omega) hj1 (fun t ht => hr t (List.mem_of_mem_eraseIdx ht)) (fun t ht => by
      rcases List.mem_append.mp ht with ht | ht
      · exact hu t ht
      · rw [List.mem_singleton.mp ht]; exact hr _ (List.getElem_mem hv'))
    refine ⟨j', x3', rs', us', by rw [g1, List.length_append, List.length_singleton]; omega, g2, g3, ?_⟩
    unfold upT forGo
    rw [st]
    simp only [R.bind_ok]
    have ez : ((z : Int) + 1) = ((z + 1 : Nat) : Int) := (Int.natCast_succ z).symm
    rw [ez]
    exact g4
end
end Qq.Lw

set_option maxHeartbeats 1000000
/-! P17: pick, kin, bars, deeds. -/
namespace Qq.Lw
open PySem L2
section
variable {fs : List FI} {wf : Nat} {pm : Nat → List D → List D → Option (List D)}
theorem min_it (i j : Nat) : biT .min2 [.int (i : Int), .int (j : Int)] = some (.int ((min i j : Nat) : Int)) := by
  show some (T.int (if (j : Int) < (i : Int) then (j : Int) else (i : Int))) = _
  congr 2
  split <;> omega
/-- pick, from a row in whatever dress -/
theorem pick_ok {n iP iT k sz : Nat} {cA : Int} (hP : fs[iP]? = some (FPick iT)) (hF : fs[iT]? = some (FTake cA)) (hA : 0 ≤ cA ∧ cA < 2 ^ 40) {P : T → Prop} {p : T} {ts : List T} (hp : biT .list [p] = some (.lst ts)) (hl : ts.length ≤ 1000) {j : Cl} (hj : JarOk (k + 1000) j) (ht : ∀ t ∈ ts, P t) :
    ∃ us j', us.length = min sz ts.length ∧ (∀ t ∈ us, P t) ∧ JarOk k j' ∧ callF fs wf pm (n + 1 + 1) iP [.o 0, .t p, .t (.int (sz : Int))] [j] = .ok (.t (.lst us)) [j'] := by
  have hm : min sz ts.length ≤ ts.length := Nat.min_le_right ..
  have z0 : ((0 : Nat) : Int) = 0 := rfl
  obtain ⟨j', x3', rs', us', g1, g2, g3, g4⟩ := pick_loop (wf := wf) (pm := pm) (n := n) hF hA (x1 := some (.t p)) (x2 := some (.t (.int (sz : Int)))) (P := P) (min sz ts.length) 0 k j ts [] none hm hl (by simp; omega) (hj.mono (by omega)) ht (fun t h => nomatch h)
  have hr : ∀ S : Sto, srcT .r1 (.l [.t (.int ((min sz ts.length : Nat) : Int))]) S = some (none, upT ((0 : Nat) : Int) (min sz ts.length)) := fun S => src_r1 _ (by omega) S
  have s0 : see [j] (.o 0) = .o 0 := hj.see []
  have o1 : own true (.lst ts) [j] = .ok (.o 1) [j, .lst ts] := rfl
  have o2 : own true (.lst []) [j, .lst ts] = .ok (.o 2) [j, .lst ts, .lst []] := rfl
  have s1 : see [j, .lst ts, .lst []] (.o 1) = .o 1 := rfl
  have r1 : rd [j, .lst ts, .lst []] (.o 1) = some (.lst ts) := rfl
  have s2 : see [j', .lst rs', .lst us'] (.o 2) = .o 2 := rfl
  have hfin : fin false 1 (.ret (.o 2)) [j', .lst rs', .lst us'] = .ok (.t (.lst us')) [j'] := rfl
  refine ⟨us', j', by rw [g1]; simp, g2, g3, callF_of hP rfl (Le.refl _) ?_⟩
  rw [z0] at g4
  generalize callF fs wf pm (n + 1) = cl at *
  unfold bodyF
  simp -implicitDefEqProofs [FPick, hp, o1, o2, s1, r1, b_len, min_it, hr, g4, s2, hfin, R.cut]
/-! ### kin -/
def kinds8 : List Str := ["a", "b", "c", "ab", "ba", "abcdefgh", "x", "zz"]
def FKin (iP : Nat) : FI := ⟨2, 2, false, (.seq (.ret (.bi false .tuple (.cons (.bi false .sorted (.cons (.call iP (.cons (.var 0) (.cons (.lst false (.cons (.cst (.str "a")) (.cons (.cst (.str "b")) (.cons (.cst (.str "c")) (.cons (.cst (.str "ab")) (.cons (.cst (.str "ba")) (.cons (.cst (.str "abcdefgh")) (.cons (.cst (.str "x")) (.cons (.cst (.str "zz")) .nil))))))))) (.cons (.var 1) .nil)))) .nil)) .nil))) .nil)⟩
theorem kin_core {cl : Nat → List D → Sto → R D} {iP : Nat} {j j' : Cl} {sz : T} {us vs : List T} {k : Nat} (hj : JarOk k j)
    (e : cl iP [.o 0, .t (.lst (kinds8.map T.str)), .t sz] [j] = .ok (.t (.lst us)) [j']) (hs : sortT us = some vs) :
    bodyF wf cl pm (FKin iP) [.o 0, .t sz] [j] = .ok (.t (.tup vs)) [j'] := by
  have s0 : see [j] (.o 0) = .o 0 := hj.see []
  have h1 : biT .sorted [.lst us] = some (.lst vs) := by
    show (sortT us).map T.lst = _
    rw [hs]; rfl
  unfold kinds8 at e
  simp only [List.map_cons, List.map_nil] at e
  unfold bodyF
  simp -implicitDefEqProofs [FKin, s0, e, h1, b_tupl, fin, R.cut]
theorem kin_ok {n iK iP iT k sz : Nat} {cA : Int} (hK : fs[iK]? = some (FKin iP)) (hP : fs[iP]? = some (FPick iT)) (hF : fs[iT]? = some (FTake cA)) (hA : 0 ≤ cA ∧ cA < 2 ^ 40) {j : Cl} (hj : JarOk (k + 1000) j) :
    ∃ g j', g.length = min sz 8 ∧ (∀ x ∈ g, x ∈ kinds8) ∧ JarOk k j' ∧ callF fs wf pm (n + 1 + 1 + 1) iK [.o 0, .t (.int (sz : Int))] [j] = .ok (.t (tupS g)) [j'] := by
  obtain ⟨us, j', h1, h2, h3, e⟩ := pick_ok (wf := wf) (pm := pm) (n := n) (sz := sz) hP hF hA (P := fun t => ∃ x, x ∈ kinds8 ∧ T.str x = t) (b_lst (kinds8.map T.str)) (by decide) hj (fun t ht => by
    obtain ⟨x, hx, e⟩ := List.mem_map.mp ht
    exact ⟨x, hx, e⟩)
  obtain ⟨g, rfl, g2, g3⟩ := maps_of h2
  obtain ⟨g', e1, e2, e3⟩ := sort_strs (g := g) (by
    have : g.length ≤ 8 := by rw [g2, h1]; exact Nat.min_le_right ..
    unfold line; omega)
  exact ⟨g', j', by rw [e2, g2, h1]; rfl, fun x hx => g3 x (e3 x hx), h3, callF_of hK rfl (Le.refl _) (kin_core hj e e1)⟩
end
end Qq.Lw

set_option maxHeartbeats 1000000
/-! P18: bars, deeds. -/
namespace Qq.Lw
open PySem L2
section
variable {fs : List FI} {wf : Nat} {pm : Nat → List D → List D → Option (List D)}
theorem compEl_tt2 {cl : Nat → List D → Sto → R D} {vs : List Nat} {g : Tg} {t e : C} {r r' : Env} {d x : T} {S S' S2 : Sto} (h : asgT g d (wip r vs) = some r') (ht : ev cl pm t r' S = .ok (.t (.bl true)) S) (he : ev cl pm e r' S = .ok (.t x) S') (hS : S'.take S.length = S2) : compEl cl pm vs g t e r d S = .ok (some x) S2 := by
  unfold compEl
  rw [h]
  simp [ht, he, R.nox, R.cut, hS, D.tr]
abbrev Bar := List Str × Nat
def barT (b : Bar) : T := .tup [grp b.1, .int (b.2 : Nat)]
def barE (iT : Nat) : C := (.tup (.cons (.var 3) (.cons (.frz (.call iT (.cons (.var 0) (.cons (.bin false .Add (.var 2) (.cst (.int 1))) .nil)))) .nil)))
def FBars (iT : Nat) : FI := ⟨3, 4, false, (.seq (.ret (.bi false .tuple (.cons (.comp false [3] (.n 3) .seq (.cons (.var 1) .nil) (.cst (.bl true)) (barE iT)) .nil))) .nil)⟩
theorem bars_go {n iT : Nat} {cA : Int} (hF : fs[iT]? = some (FTake cA)) (hA : 0 ≤ cA ∧ cA < 2 ^ 40) {top : Nat} (ht : top < 1000) {x1 : Option D} : ∀ (L : List (List Str)) (k : Nat) (j : Cl), JarOk (k + L.length) j →
    ∃ (B : List Bar) (j' : Cl), B.map (·.1) = L ∧ JarOk k j' ∧ compGo (compEl (callF fs wf pm (n + 1)) pm [3] (.n 3) (.cst (.bl true)) (barE iT) [some (.o 0), x1, some (.t (.int (top : Int))), none]) (L.map grp) [j] = .ok (B.map barT) [j']
  | [], k, j, hj => ⟨[], j, rfl, hj, rfl⟩
  | g :: L, k, j, hj => by
    rw [List.length_cons] at hj
    obtain ⟨v, j1, hv, hj1, e⟩ := take_ok (wf := wf) (pm := pm) (n := n) (k := k + L.length) hF hA (hj.mono (by omega)) [] (top := (top : Int) + 1) (by omega) (by omega)
    obtain ⟨B, j', h1, h2, h3⟩ := bars_go (n := n) hF hA ht (x1 := x1) L k j1 hj1
    refine ⟨(g, v) :: B, j', by rw [List.map_cons, h1], h2, ?_⟩
    rw [List.map_cons, List.map_cons]
    have s0 : see [j] (.o 0) = .o 0 := hj.see []
    have f0 : ∀ (t : T) (S : Sto), frzS S (.t t) = .ok (.t t) S := fun _ _ => rfl
    have he : ev (callF fs wf pm (n + 1)) pm (barE iT) [some (.o 0), x1, some (.t (.int (top : Int))), some (.t (grp g))] [j] = .ok (.t (barT (g, v))) [j1] := by
      generalize callF fs wf pm (n + 1) = cl at *
      simp -implicitDefEqProofs [barE, s0, b_add, e, f0, trL]
      rfl
    exact compGo_c (o := some _) (compEl_tt2 (r' := [some (.o 0), x1, some (.t (.int (top : Int))), some (.t (grp g))]) rfl rfl he rfl) h3
theorem bars_ok {n iB iT k top : Nat} {cA : Int} (hB : fs[iB]? = some (FBars iT)) (hF : fs[iT]? = some (FTake cA)) (hA : 0 ≤ cA ∧ cA < 2 ^ 40) (ht : top < 1000) {L : List (List Str)} (hL : L.length ≤ 1000) {j : Cl} (hj : JarOk (k + 1000) j) :
    ∃ (B : List Bar) (j' : Cl), B.map (·.1) = L ∧ JarOk k j' ∧ callF fs wf pm (n + 1 + 1) iB [.o 0, .t (lotsS true L), .t (.int (top : Int))] [j] = .ok (.t (.tup (B.map barT))) [j'] := by
  obtain ⟨B, j', h1, h2, h3⟩ := bars_go (wf := wf) (pm := pm) (n := n) hF hA ht (x1 := some (.t (lotsS true L))) L k j (hj.mono (by omega))
  refine ⟨B, j', h1, h2, callF_of hB rfl (Le.refl _) ?_⟩
  have hs : ∀ S, srcT .seq (.l [.t (lotsS true L)]) S = some (none, L.map grp) := fun S => src_tup S (by rw [List.length_map]; unfold line; omega)
  generalize callF fs wf pm (n + 1) = cl at *
  unfold bodyF
  simp -implicitDefEqProofs [FBars, hs, h3, b_tupl, fin, R.cut]

/-! ### deeds -/
inductive Dd where
  | come (w : Str) | go (i : Nat)
def ddT : Dd → T
  | .come w => .tup [.str "come", .str w]
  | .go i => .tup [.str "go", .int (i : Nat)]
def DdOk (P : Str → Prop) : Dd → Prop
  | .come w => P w
  | .go _ => True
def ddB (iT iO : Nat) : P := (.seq (.ite (.orV (.cmp .Gt (.call iT (.cons (.var 0) (.cons (.cst (.int 3)) .nil))) (.cst (.int 0))) (.cmp .Eq (.var 5) (.cst (.int 0)))) (.seq (.drop (.mth "append" (.var 4) (.cons (.tup (.cons (.cst (.str "come")) (.cons (.frz (.call iO (.cons (.var 0) (.cons (.var 1) .nil)))) .nil))) .nil))) (.seq (.asg (.n 5) (.bin false .Add (.var 5) (.cst (.int 1)))) .nil)) (.seq (.drop (.mth "append" (.var 4) (.cons (.tup (.cons (.cst (.str "go")) (.cons (.frz (.call iT (.cons (.var 0) (.cons (.bin false .Add (.var 5) (.cst (.int 2))) .nil)))) .nil))) .nil))) .nil)) .nil)
def FDeeds (iT iO : Nat) : FI := ⟨3, 6, false, (.seq (.par [4, 5] (.cons (.lst true .nil) (.cons (.cst (.int 0)) .nil))) (.seq (.for_ (.n 3) .r1 (.cons (.var 2) .nil) (ddB iT iO)) (.seq (.ret (.bi false .tuple (.cons (.frz (.var 4)) .nil))) .nil)))⟩
theorem app_1 {c0 : Cl} {us : List T} {t : T} (h : us.length < line) : mthS .append (.o 1) [.t t] [c0, .lst us] = .ok (.t .non) [c0, .lst (us ++ [t])] := by
  unfold mthS
  simp [h]
theorem dd_core {cl : Nat → List D → Sto → R D} {iT iO : Nat} {j j1 j2 : Cl} {k k1 : Nat} {us : List T} {kn : T} {x2 x3 : Option D} {d : T} {v c : Nat} {dd : Dd} (hj : JarOk k j) (hj1 : JarOk k1 j1) (hu : us.length < line)
    (e1 : cl iT [.o 0, .t (.int 3)] [j, .lst us] = .ok (.t (.int (v : Int))) [j1, .lst us])
    (e2 : (0 < v ∨ c = 0) → ∃ w, dd = .come w ∧ cl iO [.o 0, .t kn] [j1, .lst us] = .ok (.t (.str w)) [j2, .lst us])
    (e3 : ¬ (0 < v ∨ c = 0) → ∃ i : Nat, dd = .go i ∧ cl iT [.o 0, .t (.int ((c : Int) + 2))] [j1, .lst us] = .ok (.t (.int (i : Int))) [j2, .lst us]) :
    ∃ c' : Nat, c' ≤ c + 1 ∧ forEl wf cl pm (.n 3) (ddB iT iO) d [some (.o 0), some (.t kn), x2, x3, some (.o 1), some (.t (.int (c : Int)))] [j, .lst us] = .ok (.nx, [some (.o 0), some (.t kn), x2, some (.t d), some (.o 1), some (.t (.int (c' : Int)))]) [j2, .lst (us ++ [ddT dd])] := by
  have s0 : see [j, .lst us] (.o 0) = .o 0 := hj.see _
  have s1 : see [j1, .lst us] (.o 0) = .o 0 := hj1.see _
  have s2 : ∀ c : Cl, see [c, .lst us] (.o 1) = .o 1 := fun _ => rfl
  have r1 : ∀ c : Cl, rd [c, .lst us] (.o 1) = some (.lst us) := fun _ => rfl
  have f0 : ∀ (t : T) (S : Sto), frzS S (.t t) = .ok (.t t) S := fun _ _ => rfl
  have p1 := app_1 (c0 := j2) (t := ddT dd) hu
  by_cases h : 0 < v ∨ c = 0
  · obtain ⟨w, rfl, e⟩ := e2 h
    refine ⟨c + 1, Nat.le_refl _, ?_⟩
    have p2 : mthS .append (.o 1) [.t (.tup [.str "come", .str w])] [j2, .lst us] = .ok (.t .non) [j2, .lst (us ++ [ddT (.come w)])] := p1
    by_cases hv : 0 < v
    · simp -implicitDefEqProofs [forEl, ddB, s0, s1, s2, r1, e1, c_gt, hv, mi_app, e, f0, trL, p2, b_add, tr_bl]
    · have hc : c = 0 := by omega
      subst hc
      simp -implicitDefEqProofs [forEl, ddB, s0, s1, s2, r1, e1, c_gt, c_eq, hv, mi_app, e, f0, trL, p2, b_add, tr_bl]
  · obtain ⟨i, rfl, e⟩ := e3 h
    have hv : ¬ 0 < v := fun z => h (.inl z)
    have hc : ¬ c = 0 := fun z => h (.inr z)
    have hc' : ¬ (c : Int) = 0 := by omega
    have p2 : mthS .append (.o 1) [.t (.tup [.str "go", .int (i : Nat)])] [j2, .lst us] = .ok (.t .non) [j2, .lst (us ++ [ddT (.go i)])] := p1
    refine ⟨c, by omega, ?_⟩
    simp -implicitDefEqProofs [forEl, ddB, s0, s1, s2, r1, e1, c_gt, c_eq, hv, hc, hc', mi_app, e, f0, trL, p2, b_add, tr_bl]
end
end Qq.Lw

set_option maxHeartbeats 1000000
/-! P19: deeds. -/
namespace Qq.Lw
open PySem L2
section
variable {fs : List FI} {wf : Nat} {pm : Nat → List D → List D → Option (List D)}
theorem dd_step {n iT iO k : Nat} {cA : Int} (hO : fs[iO]? = some (FOf iT)) (hF : fs[iT]? = some (FTake cA)) (hA : 0 ≤ cA ∧ cA < 2 ^ 40) {g : List Str} {P : Str → Prop} (hg : g ≠ []) (hl : g.length ≤ 1000) (hP : ∀ x ∈ g, P x)
    {j : Cl} (hj : JarOk (k + 2) j) {us : List T} (hu : us.length < line) {c : Nat} (hc : c < 100000) {x2 x3 : Option D} {d : T} :
    ∃ dd j' c', DdOk P dd ∧ c' ≤ c + 1 ∧ JarOk k j' ∧ forEl wf (callF fs wf pm (n + 1 + 1)) pm (.n 3) (ddB iT iO) d [some (.o 0), some (.t (grp g)), x2, x3, some (.o 1), some (.t (.int (c : Int)))] [j, .lst us] = .ok (.nx, [some (.o 0), some (.t (grp g)), x2, some (.t d), some (.o 1), some (.t (.int ((c' : Nat) : Int)))]) [j', .lst (us ++ [ddT dd])] := by
  obtain ⟨v, j1, hv, hj1, e1⟩ := take_ok (wf := wf) (pm := pm) (n := n + 1) (k := k + 1) hF hA hj [.lst us] (top := 3) (by omega) (by omega)
  by_cases h : 0 < v ∨ c = 0
  · obtain ⟨t, j2, ht, hj2, e2⟩ := of_okt (wf := wf) (pm := pm) (n := n) (k := k) hO hF hA hj1 [.lst us] (ts := g.map T.str) (by simpa using hg) (by rw [List.length_map]; unfold line; omega)
    obtain ⟨w, hw, rfl⟩ := List.mem_map.mp ht
    obtain ⟨c', h1, h2⟩ := dd_core (wf := wf) (pm := pm) (cl := callF fs wf pm (n + 1 + 1)) (x2 := x2) (x3 := x3) (d := d) (dd := .come w) hj hj1 hu e1 (fun _ => ⟨w, rfl, e2⟩) (fun z => absurd h z)
    exact ⟨.come w, j2, c', hP w hw, h1, hj2, h2⟩
  · obtain ⟨i, j2, hi, hj2, e2⟩ := take_ok (wf := wf) (pm := pm) (n := n + 1) (k := k) hF hA hj1 [.lst us] (top := (c : Int) + 2) (by omega) (by omega)
    obtain ⟨c', h1, h2⟩ := dd_core (wf := wf) (pm := pm) (cl := callF fs wf pm (n + 1 + 1)) (x2 := x2) (x3 := x3) (d := d) (dd := .go i) hj hj1 hu e1 (fun z => absurd z h) (fun _ => ⟨i, rfl, e2⟩)
    exact ⟨.go i, j2, c', trivial, h1, hj2, h2⟩
theorem dd_loop {n iT iO : Nat} {cA : Int} (hO : fs[iO]? = some (FOf iT)) (hF : fs[iT]? = some (FTake cA)) (hA : 0 ≤ cA ∧ cA < 2 ^ 40) {g : List Str} {P : Str → Prop} (hg : g ≠ []) (hl : g.length ≤ 1000) (hP : ∀ x ∈ g, P x) {x2 : Option D} : ∀ (m z k c : Nat) (j : Cl) (ds : List Dd) (x3 : Option D),
    JarOk (k + 2 * m) j → ds.length + m ≤ 10000 → c + m ≤ 10000 → (∀ d ∈ ds, DdOk P d) →
    ∃ (j' : Cl) (ds' : List Dd) (c' : Nat) (x3' : Option D), ds'.length = ds.length + m ∧ (∀ d ∈ ds', DdOk P d) ∧ JarOk k j' ∧ forGo (forEl wf (callF fs wf pm (n + 1 + 1)) pm (.n 3) (ddB iT iO)) (upT (z : Int) m) [some (.o 0), some (.t (grp g)), x2, x3, some (.o 1), some (.t (.int (c : Int)))] [j, .lst (ds.map ddT)] = .ok (.nx, [some (.o 0), some (.t (grp g)), x2, x3', some (.o 1), some (.t (.int ((c' : Nat) : Int)))]) [j', .lst (ds'.map ddT)]
  | 0, z, k, c, j, ds, x3, hj, _, _, hd => ⟨j, ds, c, x3, rfl, hd, hj, rfl⟩
  | m + 1, z, k, c, j, ds, x3, hj, h1, h2, hd => by
    obtain ⟨dd, j1, c1, hdd, hc1, hj1, st⟩ := dd_step (wf := wf) (pm := pm) (n := n) (k := k + 2 * m) hO hF hA hg hl hP (hj.mono (by omega)) (us := ds.map ddT) (by rw [List.length_map]; unfold line; omega) (c := c) (by omega) (x2 := x2) (x3 := x3) (d := .int (z : Int))
    obtain ⟨j', ds', c', x3', g1, g2, g3, g4⟩ := dd_loop (n := n) hO hF hA hg hl hP (x2 := x2) m (z + 1) k c1 j1 (ds ++ [dd]) (some (.t (.int (z : Int)))) hj1 (by rw [List.length_append, List.length_singleton]; omega) (by omega) (fun d h => by
      rcases List.mem_append.mp h with h | h
      · exact hd d h
      · rw [List.mem_singleton.mp h]; exact hdd)
    refine ⟨j', ds', c', x3', by rw [g1, List.length_append, List.length_singleton]; omega, g2, g3, ?_⟩
    unfold upT forGo
    rw [st]
    simp only [R.bind_ok]
    have ez : ((z : Int) + 1) = ((z + 1 : Nat) : Int) := (Int.natCast_succ z).symm
    have el : ds.map ddT ++ [ddT dd] = (ds ++ [dd]).map ddT := by rw [List.map_append]; rfl
    rw [ez, el]
    exact g4
theorem deeds_ok {n iD iT iO k m : Nat} {cA : Int} (hD : fs[iD]? = some (FDeeds iT iO)) (hO : fs[iO]? = some (FOf iT)) (hF : fs[iT]? = some (FTake cA)) (hA : 0 ≤ cA ∧ cA < 2 ^ 40) {g : List Str} {P : Str → Prop} (hg : g ≠ []) (hl : g.length ≤ 1000) (hP : ∀ x ∈ g, P x) (hm : m ≤ 1000) {j : Cl} (hj : JarOk (k + 2000) j) :
    ∃ (ds : List Dd) (j' : Cl), ds.length = m ∧ (∀ d ∈ ds, DdOk P d) ∧ JarOk k j' ∧ callF fs wf pm (n + 1 + 1 + 1) iD [.o 0, .t (grp g), .t (.int (m : Int))] [j] = .ok (.t (.tup (ds.map ddT))) [j'] := by
  obtain ⟨j', ds', c', x3', g1, g2, g3, g4⟩ := dd_loop (wf := wf) (pm := pm) (n := n) hO hF hA hg hl hP (x2 := some (.t (.int (m : Int)))) m 0 k 0 j [] none (hj.mono (by omega)) (by simp; omega) (by omega) (fun d h => nomatch h)
  have z0 : ((0 : Nat) : Int) = 0 := rfl
  rw [z0] at g4
  rw [List.map_nil] at g4
  have hr : ∀ S : Sto, srcT .r1 (.l [.t (.int (m : Int))]) S = some (none, upT 0 m) := fun S => src_r1 m (by omega) S
  have o1 : own true (.lst []) [j] = .ok (.o 1) [j, .lst []] := rfl
  have s2 : ∀ c us, see [c, .lst us] (.o 1) = .o 1 := fun _ _ => rfl
  have f1 : frzS [j', .lst (ds'.map ddT)] (.o 1) = .ok (.t (.lst (ds'.map ddT))) [j', .gon (.lst (ds'.map ddT))] := rfl
  refine ⟨ds', j', by rw [g1]; simp, g2, g3, callF_of hD rfl (Le.refl _) ?_⟩
  generalize callF fs wf pm (n + 1 + 1) = cl at *
  unfold bodyF
  simp -implicitDefEqProofs [FDeeds, o1, trL, hr, g4, s2, f1, b_tupl, fin, R.cut]
end
end Qq.Lw

set_option maxHeartbeats 1000000
/-! P20: the law's walk of a row under bars. -/
namespace Qq.Lw
open PySem L2
def stopB (h : Hd) (w : Str) (b : Bar) : Bool := inG b.1 w && decide (b.2 ≤ cnt h b.1)
def stops (B : List Bar) (h : Hd) (w : Str) : List (List Str) := (B.filter (stopB h w)).map (·.1)
def wNext (B : List Bar) (h : Hd) (j : Int) : Dd → Hd
  | .come w => if (stops B h w).isEmpty then h ++ [(j, w)] else h
  | .go i => h.filter fun p => !decide (p.1 = (i : Int))
def wWord (B : List Bar) (h : Hd) : Dd → Str
  | .come w => if (stops B h w).isEmpty then "in" else "out"
  | .go i => if (List.filter (fun p : Int × Str => !decide (p.1 = (i : Int))) h).length < h.length then "gone" else "none"
def wAdv (j : Int) : Dd → Int
  | .come _ => j + 1
  | .go _ => j
def wRow (B : List Bar) (h : Hd) (j : Int) (d : Dd) : T := .tup [.str (wWord B h d), hLT h, hLT (wNext B h j d)]
def walkT (B : List Bar) : List Dd → Hd → Int → List T
  | [], _, _ => []
  | d :: ds, h, j => wRow B h j d :: walkT B ds (wNext B h j d) (wAdv j d)
theorem pd_lst {k : Nat} {ts : List T} (h : pln (k + 1) (.lst ts) = true) : ∃ ps, T.pdL ts = some ps ∧ PyData.canLay0 (.list ps) = true ∧ (PyData.list ps).depth ≤ k + 1 + 1 := by
  obtain ⟨p, h1, h2, h3⟩ := pd_ok (k + 1) _ h
  unfold T.pd at h1
  split at h1
  · rename_i ps hp
    cases h1
    exact ⟨ps, hp, h2, h3⟩
  · cases h1
theorem eq_nil {k : Nat} {ts : List T} (h : pln (k + 1) (.lst ts) = true) (hk : k ≤ 59) : cmpT .Eq (.lst ts) (.lst []) = some ts.isEmpty := by
  obtain ⟨ps, h1, h2, h3⟩ := pd_lst h
  have e1 : (T.lst ts).pd = some (.list ps) := by unfold T.pd; rw [h1]
  have e2 : (T.lst []).pd = some (.list []) := rfl
  have s1 : SeqAt.shaped (.list ps) = true := by unfold SeqAt.shaped; rw [h2]; simp; omega
  have s2 : SeqAt.shaped (.list []) = true := by decide +kernel
  show eqT _ _ = _
  unfold eqT
  rw [e1, e2]
  simp only [shB_eq, s1, s2, Bool.and_self, if_true]
  cases ts with
  | nil => cases h1; rfl
  | cons t ts =>
    unfold T.pdL at h1
    split at h1
    · cases h1
      unfold PyData.eqv PyData.eqvAll; rfl
    · cases h1
theorem stops_eq {B : List Bar} (hB : ∀ b ∈ B, GOk b.1) (hl : B.length ≤ 1000) (h : Hd) (w : Str) : cmpT .Eq (.lst ((stops B h w).map grp)) (.lst []) = some (stops B h w).isEmpty := by
  have e := eq_nil (k := 1) (ts := (stops B h w).map grp) (pl_l (fun t ht => by
    obtain ⟨g, hg, rfl⟩ := List.mem_map.mp ht
    obtain ⟨b, hb, rfl⟩ := List.mem_map.mp hg
    exact pln_grp (b := true) (hB b (List.mem_filter.mp hb).1)) (by
    rw [List.length_map, stops, List.length_map]
    have := List.length_filter_le (stopB h w) B
    omega)) (by decide)
  rw [e]
  cases stops B h w <;> rfl
def cW9 : C := (.comp false [9] (.n 9) .seq (.cons (.var 2) .nil) (.cmp .NotEq (.idx (.var 9) (.cst (.int 0))) (.var 6)) (.var 9))
def tW10 (iI : Nat) : C := (.andV (.cmp .In (.var 6) (.var 10)) (.cmp .GtE (.call iI (.cons (.var 2) (.cons (.var 10) .nil))) (.var 11)))
def cW10 (iI : Nat) : C := (.comp false [10, 11] (.cons (.n 10) (.cons (.n 11) .nil)) .seq (.cons (.var 0) .nil) (tW10 iI) (.var 10))
def wB (iI : Nat) : P := (.seq (.ite (.cmp .Eq (.var 5) (.cst (.str "go"))) (.seq (.asg (.n 7) cW9) (.seq (.drop (.mth "append" (.var 4) (.cons (.tup (.cons (.ife (.cmp .Lt (.bi false .len (.cons (.var 7) .nil)) (.bi false .len (.cons (.var 2) .nil))) (.cst (.str "gone")) (.cst (.str "none"))) (.cons (.var 2) (.cons (.var 7) .nil)))) .nil))) .nil)) (.seq (.asg (.n 8) (cW10 iI)) (.seq (.asg (.n 7) (.ife (.cmp .Eq (.var 8) (.lst false .nil)) (.bin false .Add (.var 2) (.lst false (.cons (.tup (.cons (.var 3) (.cons (.var 6) .nil))) .nil))) (.var 2))) (.seq (.drop (.mth "append" (.var 4) (.cons (.tup (.cons (.ife (.cmp .Eq (.var 8) (.lst false .nil)) (.cst (.str "in")) (.cst (.str "out"))) (.cons (.var 2) (.cons (.var 7) .nil)))) .nil))) (.seq (.asg (.n 3) (.bin false .Add (.var 3) (.cst (.int 1)))) .nil))))) (.seq (.asg (.n 2) (.var 7)) .nil))
def FWalk (iI : Nat) : FI := ⟨2, 12, false, (.seq (.par [2, 3, 4] (.cons (.lst false .nil) (.cons (.cst (.int 0)) (.cons (.lst true .nil) .nil)))) (.seq (.for_ (.cons (.n 5) (.cons (.n 6) .nil)) .seq (.cons (.var 1) .nil) (wB iI)) (.seq (.ret (.var 4)) .nil)))⟩
section
variable {fs : List FI} {wf : Nat} {pm : Nat → List D → List D → Option (List D)}
theorem cW9_go {cl : Nat → List D → Sto → R D} {i : Int} {x0 x1 x2 x3 x4 x5 x7 x8 x10 x11 : Option D} {S : Sto} : ∀ h : Hd, compGo (compEl cl pm [9] (.n 9) (.cmp .NotEq (.idx (.var 9) (.cst (.int 0))) (.var 6)) (.var 9) [x0, x1, x2, x3, x4, x5, some (.t (.int i)), x7, x8, none, x10, x11]) (hL h) S = .ok (hL (h.filter fun p => !decide (p.1 = i))) S
  | [] => rfl
  | p :: h => by
    have ih := cW9_go (cl := cl) (i := i) (x0 := x0) (x1 := x1) (x2 := x2) (x3 := x3) (x4 := x4) (x5 := x5) (x7 := x7) (x8 := x8) (x10 := x10) (x11 := x11) (S := S) h
    have e0 : hL (p :: h) = .tup [.int p.1, .str p.2] :: hL h := rfl
    rw [e0]
    by_cases e : p.1 = i
    · have e1 : (p :: h).filter (fun p => !decide (p.1 = i)) = h.filter fun p => !decide (p.1 = i) := by simp [e]
      rw [e1]
      exact compGo_c (o := none) (compEl_ff (r' := [x0, x1, x2, x3, x4, x5, some (.t (.int i)), x7, x8, some (.t (.tup [.int p.1, .str p.2])), x10, x11]) rfl (by simp [ix0, c_ne, e]) (take_len S)) ih
    · have e1 : (p :: h).filter (fun p => !decide (p.1 = i)) = p :: h.filter fun p => !decide (p.1 = i) := by simp [e]
      rw [e1]
      exact compGo_c (o := some _) (compEl_tt (r' := [x0, x1, x2, x3, x4, x5, some (.t (.int i)), x7, x8, some (.t (.tup [.int p.1, .str p.2])), x10, x11]) rfl (by simp [ix0, c_ne, e]) (by simp) (take_len S)) ih
theorem cW10_go {cl : Nat → List D → Sto → R D} {iI : Nat} {h : Hd} {w : Str} (hw : PyData.strOk w = true) {x0 x1 x3 x4 x5 x7 x8 x9 : Option D} {S : Sto} (hc : ∀ g, GOk g → cl iI [.t (hLT h), .t (grp g)] S = .ok (.t (.int (cnt h g : Nat))) S) : ∀ B : List Bar, (∀ b ∈ B, GOk b.1) →
    compGo (compEl cl pm [10, 11] (.cons (.n 10) (.cons (.n 11) .nil)) (tW10 iI) (.var 10) [x0, x1, some (.t (hLT h)), x3, x4, x5, some (.t (.str w)), x7, x8, x9, none, none]) (B.map barT) S = .ok ((stops B h w).map grp) S
  | [], _ => rfl
  | b :: B, hg => by
    have ih := cW10_go (x0 := x0) (x1 := x1) (x3 := x3) (x4 := x4) (x5 := x5) (x7 := x7) (x8 := x8) (x9 := x9) hw hc B fun x hx => hg x (List.mem_cons_of_mem _ hx)
    have h1 := hc b.1 (hg b List.mem_cons_self)
    have h2 := in_grp hw (hg b List.mem_cons_self)
    rw [List.map_cons]
    cases hb : inG b.1 w with
    | false =>
      rw [hb] at h2
      have e : stops (b :: B) h w = stops B h w := by simp [stops, stopB, hb]
      rw [e]
      exact compGo_c (o := none) (compEl_ff (r' := [x0, x1, some (.t (hLT h)), x3, x4, x5, some (.t (.str w)), x7, x8, x9, some (.t (grp b.1)), some (.t (.int (b.2 : Nat)))]) rfl (by simp [tW10, h2, tr_bl]) (take_len S)) ih
    | true =>
      rw [hb] at h2
      by_cases hq : b.2 ≤ cnt h b.1
      · have e : stops (b :: B) h w = b.1 :: stops B h w := by simp [stops, stopB, hb, hq]
        rw [e, List.map_cons]
        exact compGo_c (o := some (grp b.1)) (compEl_tt (r' := [x0, x1, some (.t (hLT h)), x3, x4, x5, some (.t (.str w)), x7, x8, x9, some (.t (grp b.1)), some (.t (.int (b.2 : Nat)))]) rfl (by simp [tW10, h2, tr_bl, h1, c_ge, hq]) (by simp) (take_len S)) ih
      · have e : stops (b :: B) h w = stops B h w := by simp [stops, stopB, hb, hq]
        rw [e]
        exact compGo_c (o := none) (compEl_ff (r' := [x0, x1, some (.t (hLT h)), x3, x4, x5, some (.t (.str w)), x7, x8, x9, some (.t (grp b.1)), some (.t (.int (b.2 : Nat)))]) rfl (by simp [tW10, h2, tr_bl, h1, c_ge, hq]) (take_len S)) ih
end
end Qq.Lw

set_option maxHeartbeats 1000000
/-! P21: the law's walk (2). -/
namespace Qq.Lw
open PySem L2
def SOk (w : Str) : Prop := PyData.strOk w = true
def Dd.wd : Dd → Str
  | .come _ => "come"
  | .go _ => "go"
def Dd.vl : Dd → T
  | .come w => .str w
  | .go i => .int (i : Nat)
theorem ddT_eq (d : Dd) : ddT d = .tup [.str d.wd, d.vl] := by cases d <;> rfl
theorem ccg : cmpT .Eq (.str "come") (.str "go") = some false := by decide +kernel
theorem b_lenH (h : Hd) : biT .len [hLT h] = some (.int (h.length : Nat)) := by
  show some (T.int ((hL h).length : Nat)) = _
  rw [hL_len]
section
variable {fs : List FI} {wf : Nat} {pm : Nat → List D → List D → Option (List D)}
theorem cW9_ok {cl : Nat → List D → Sto → R D} {h : Hd} {i : Int} (hl : h.length ≤ line) {x0 x1 x3 x4 x5 x7 x8 : Option D} (S : Sto) : ev cl pm cW9 [x0, x1, some (.t (hLT h)), x3, x4, x5, some (.t (.int i)), x7, x8, none, none, none] S = .ok (.t (hLT (h.filter fun p => !decide (p.1 = i)))) S := by
  have hs : srcT .seq (.l [.t (hLT h)]) S = some (none, hL h) := src_lst S (by rw [hL_len]; exact hl)
  have hg := cW9_go (cl := cl) (pm := pm) (i := i) (x0 := x0) (x1 := x1) (x2 := some (.t (hLT h))) (x3 := x3) (x4 := x4) (x5 := x5) (x7 := x7) (x8 := x8) (x10 := none) (x11 := none) (S := S) h
  unfold cW9
  simp -implicitDefEqProofs [hs, hg]
  rfl
theorem cW10_ok {cl : Nat → List D → Sto → R D} {iI : Nat} {h : Hd} {w : Str} (hw : SOk w) {B : List Bar} (hB : ∀ b ∈ B, GOk b.1) (hl : B.length ≤ 1000) {x1 x3 x4 x5 x7 x8 : Option D} (S : Sto) (hc : ∀ g, GOk g → cl iI [.t (hLT h), .t (grp g)] S = .ok (.t (.int (cnt h g : Nat))) S) :
    ev cl pm (cW10 iI) [some (.t (.tup (B.map barT))), x1, some (.t (hLT h)), x3, x4, x5, some (.t (.str w)), x7, x8, none, none, none] S = .ok (.t (.lst ((stops B h w).map grp))) S := by
  have hs : srcT .seq (.l [.t (.tup (B.map barT))]) S = some (none, B.map barT) := src_tup S (by rw [List.length_map]; unfold line; omega)
  have hg := cW10_go (cl := cl) (pm := pm) (iI := iI) (h := h) hw (x0 := some (.t (.tup (B.map barT)))) (x1 := x1) (x3 := x3) (x4 := x4) (x5 := x5) (x7 := x7) (x8 := x8) (x9 := none) (S := S) hc B hB
  unfold cW10
  simp -implicitDefEqProofs [hs, hg]
theorem app_0 {us : List T} {t : T} (S : Sto) (h : us.length < line) : mthS .append (.o S.length) [.t t] (S ++ [.lst us]) = .ok (.t .non) (S ++ [.lst (us ++ [t])]) := app_e (S := S) (xs := us) t h
theorem wk_step {cl : Nat → List D → Sto → R D} {iI : Nat} {B : List Bar} (hB : ∀ b ∈ B, GOk b.1) (hbl : B.length ≤ 1000) {d : Dd} (hd : DdOk SOk d) {h : Hd} {j : Int} (hl : h.length < line) {acc : List T} (ha : acc.length < line) {x1 x5 x6 x7 x8 : Option D} {S : Sto}
    (hc : ∀ (g : List Str) (S : Sto), GOk g → cl iI [.t (hLT h), .t (grp g)] S = .ok (.t (.int (cnt h g : Nat))) S) :
    ∃ y7 y8 : Option D, forEl wf cl pm (.cons (.n 5) (.cons (.n 6) .nil)) (wB iI) (ddT d) [some (.t (.tup (B.map barT))), x1, some (.t (hLT h)), some (.t (.int j)), some (.o S.length), x5, x6, x7, x8, none, none, none] (S ++ [.lst acc]) =
      .ok (.nx, [some (.t (.tup (B.map barT))), x1, some (.t (hLT (wNext B h j d))), some (.t (.int (wAdv j d))), some (.o S.length), some (.t (.str d.wd)), some (.t d.vl), y7, y8, none, none, none]) (S ++ [.lst (acc ++ [wRow B h j d])]) := by
  cases d with
  | go i =>
    have h9 := cW9_ok (cl := cl) (pm := pm) (h := h) (i := (i : Int)) (Nat.le_of_lt hl) (x0 := some (.t (.tup (B.map barT)))) (x1 := x1) (x3 := some (.t (.int j))) (x4 := some (.o S.length)) (x5 := some (.t (.str "go"))) (x7 := x7) (x8 := x8) (S ++ [.lst acc])
    have ap := app_0 (t := wRow B h j (.go i)) S ha
    have ag : asgT (.cons (.n 5) (.cons (.n 6) .nil)) (ddT (.go i)) [some (.t (.tup (B.map barT))), x1, some (.t (hLT h)), some (.t (.int j)), some (.o S.length), x5, x6, x7, x8, none, none, none] = some [some (.t (.tup (B.map barT))), x1, some (.t (hLT h)), some (.t (.int j)), some (.o S.length), some (.t (.str "go")), some (.t (.int (i : Int))), x7, x8, none, none, none] := rfl
    refine ⟨some (.t (hLT (wNext B h j (.go i)))), x8, ?_⟩
    by_cases hq : (List.filter (fun p : Int × Str => !decide (p.1 = (i : Int))) h).length < h.length
    · have ew : wRow B h j (.go i) = .tup [.str "gone", hLT h, hLT (h.filter fun p => !decide (p.1 = (i : Int)))] := by simp [wRow, wWord, wNext, hq]
      rw [ew] at ap ⊢
      simp -implicitDefEqProofs [forEl, ag, wB, cgg, h9, b_lenH, c_lt, hq, see_e, rd_e, mi_app, trL, ap, wNext, wAdv, Dd.wd, Dd.vl, tr_bl]
    · have ew : wRow B h j (.go i) = .tup [.str "none", hLT h, hLT (h.filter fun p => !decide (p.1 = (i : Int)))] := by simp [wRow, wWord, wNext, hq]
      rw [ew] at ap ⊢
      simp -implicitDefEqProofs [forEl, ag, wB, cgg, h9, b_lenH, c_lt, hq, see_e, rd_e, mi_app, trL, ap, wNext, wAdv, Dd.wd, Dd.vl, tr_bl]
  | come w =>
    have h10 := cW10_ok (cl := cl) (pm := pm) (iI := iI) (h := h) (w := w) hd hB hbl (x1 := x1) (x3 := some (.t (.int j))) (x4 := some (.o S.length)) (x5 := some (.t (.str "come"))) (x7 := x7) (x8 := x8) (S ++ [.lst acc]) (fun g hg => hc g _ hg)
    have ap := app_0 (t := wRow B h j (.come w)) S ha
    have ag : asgT (.cons (.n 5) (.cons (.n 6) .nil)) (ddT (.come w)) [some (.t (.tup (B.map barT))), x1, some (.t (hLT h)), some (.t (.int j)), some (.o S.length), x5, x6, x7, x8, none, none, none] = some [some (.t (.tup (B.map barT))), x1, some (.t (hLT h)), some (.t (.int j)), some (.o S.length), some (.t (.str "come")), some (.t (.str w)), x7, x8, none, none, none] := rfl
    have he := stops_eq hB hbl h w
    have hcat : binT .Add (hLT h) (.lst [.tup [.int j, .str w]]) = some (hLT (h ++ [(j, w)])) := by
      rw [show hLT h = .lst (hL h) from rfl, b_cat _ _ (by rw [hL_len]; simp; omega)]
      simp [hLT, hL]
    refine ⟨some (.t (hLT (wNext B h j (.come w)))), some (.t (.lst ((stops B h w).map grp))), ?_⟩
    cases hq : (stops B h w).isEmpty with
    | true =>
      rw [hq] at he
      have ew : wRow B h j (.come w) = .tup [.str "in", hLT h, hLT (h ++ [(j, w)])] := by simp [wRow, wWord, wNext, hq]
      have en : wNext B h j (.come w) = h ++ [(j, w)] := by simp [wNext, hq]
      rw [ew] at ap
      rw [ew, en]
      simp -implicitDefEqProofs [forEl, ag, wB, ccg, h10, he, hcat, see_e, rd_e, mi_app, trL, ap, wAdv, Dd.wd, Dd.vl, tr_bl, b_add]
    | false =>
      rw [hq] at he
      have ew : wRow B h j (.come w) = .tup [.str "out", hLT h, hLT h] := by simp [wRow, wWord, wNext, hq]
      have en : wNext B h j (.come w) = h := by simp [wNext, hq]
      rw [ew] at ap
      rw [ew, en]
      simp -implicitDefEqProofs [forEl, ag, wB, ccg, h10, he, hcat, see_e, rd_e, mi_app, trL, ap, wAdv, Dd.wd, Dd.vl, tr_bl, b_add]
end
end Qq.Lw

set_option maxHeartbeats 1000000
/-! P22: the law's walk (3), what is told. -/
namespace Qq.Lw
open PySem L2
theorem wNext_len (B : List Bar) (h : Hd) (j : Int) (d : Dd) : (wNext B h j d).length ≤ h.length + 1 := by
  cases d with
  | go i =>
    have := List.length_filter_le (fun p : Int × Str => !decide (p.1 = (i : Int))) h
    show (h.filter fun p => !decide (p.1 = (i : Int))).length ≤ _
    omega
  | come w =>
    show (if _ then _ else _ : Hd).length ≤ _
    split
    · rw [List.length_append, List.length_singleton]; exact Nat.le_refl _
    · omega
theorem wNext_ok (B : List Bar) {h : Hd} (j : Int) {d : Dd} (hd : DdOk SOk d) (hh : ∀ p ∈ h, PyData.strOk p.2 = true) : ∀ p ∈ wNext B h j d, PyData.strOk p.2 = true := by
  intro p hp
  cases d with
  | go i => exact hh p (List.mem_filter.mp hp).1
  | come w =>
    have hp : p ∈ (if (stops B h w).isEmpty then h ++ [(j, w)] else h) := hp
    split at hp
    · rcases List.mem_append.mp hp with hp | hp
      · exact hh p hp
      · rw [List.mem_singleton.mp hp]; exact hd
    · exact hh p hp
theorem walkT_len (B : List Bar) : ∀ (ds : List Dd) (h : Hd) (j : Int), (walkT B ds h j).length = ds.length
  | [], _, _ => rfl
  | d :: ds, h, j => congrArg (· + 1) (walkT_len B ds _ _)
section
variable {fs : List FI} {wf : Nat} {pm : Nat → List D → List D → Option (List D)}
theorem wk_loop {cl : Nat → List D → Sto → R D} {iI : Nat} {B : List Bar} (hB : ∀ b ∈ B, GOk b.1) (hbl : B.length ≤ 1000) {x1 : Option D} {S : Sto}
    (hc : ∀ (h : Hd) (g : List Str) (S : Sto), (∀ p ∈ h, PyData.strOk p.2 = true) → h.length ≤ line → GOk g → cl iI [.t (hLT h), .t (grp g)] S = .ok (.t (.int (cnt h g : Nat))) S) :
    ∀ (ds : List Dd) (h : Hd) (j : Int) (acc : List T) (x5 x6 x7 x8 : Option D), (∀ d ∈ ds, DdOk SOk d) → (∀ p ∈ h, PyData.strOk p.2 = true) → h.length + ds.length < line → acc.length + ds.length < line →
    ∃ (y2 y3 y5 y6 y7 y8 : Option D), forGo (forEl wf cl pm (.cons (.n 5) (.cons (.n 6) .nil)) (wB iI)) (ds.map ddT) [some (.t (.tup (B.map barT))), x1, some (.t (hLT h)), some (.t (.int j)), some (.o S.length), x5, x6, x7, x8, none, none, none] (S ++ [.lst acc]) =
      .ok (.nx, [some (.t (.tup (B.map barT))), x1, y2, y3, some (.o S.length), y5, y6, y7, y8, none, none, none]) (S ++ [.lst (acc ++ walkT B ds h j)])
  | [], h, j, acc, x5, x6, x7, x8, _, _, _, _ => ⟨_, _, _, _, _, _, by rw [walkT, List.append_nil]; rfl⟩
  | d :: ds, h, j, acc, x5, x6, x7, x8, hd, hh, h1, h2 => by
    rw [List.length_cons] at h1 h2
    obtain ⟨y7, y8, st⟩ := wk_step (wf := wf) (pm := pm) (cl := cl) (iI := iI) hB hbl (hd d List.mem_cons_self) (h := h) (j := j) (by omega) (acc := acc) (by omega) (x1 := x1) (x5 := x5) (x6 := x6) (x7 := x7) (x8 := x8) (S := S) (fun g S hg => hc h g S hh (by omega) hg)
    have hn := wNext_len B h j d
    obtain ⟨z2, z3, z5, z6, z7, z8, ih⟩ := wk_loop hB hbl (x1 := x1) (S := S) hc ds (wNext B h j d) (wAdv j d) (acc ++ [wRow B h j d]) (some (.t (.str d.wd))) (some (.t d.vl)) y7 y8 (fun q hq => hd q (List.mem_cons_of_mem _ hq)) (wNext_ok B j (hd d List.mem_cons_self) hh) (by omega) (by rw [List.length_append, List.length_singleton]; omega)
    refine ⟨z2, z3, z5, z6, z7, z8, ?_⟩
    rw [List.map_cons]
    unfold forGo
    rw [st]
    simp only [R.bind_ok]
    rw [ih, List.append_assoc]
    rfl
theorem walk_ok {n iW iI : Nat} (hW : fs[iW]? = some (FWalk iI)) (hI : fs[iI]? = some FIn16) {B : List Bar} (hB : ∀ b ∈ B, GOk b.1) (hbl : B.length ≤ 1000) {ds : List Dd} (hd : ∀ d ∈ ds, DdOk SOk d) (hl : ds.length ≤ 1000) (S : Sto) :
    callF fs wf pm (n + 1 + 1) iW [.t (.tup (B.map barT)), .t (.tup (ds.map ddT))] S = .ok (.t (.lst (walkT B ds [] 0))) S := by
  obtain ⟨y2, y3, y5, y6, y7, y8, lo⟩ := wk_loop (wf := wf) (pm := pm) (cl := callF fs wf pm (n + 1)) (iI := iI) hB hbl (x1 := some (.t (.tup (ds.map ddT)))) (S := S) (fun h g S h1 h2 h3 => in16_ok hI h1 h2 h3 S) ds [] 0 [] none none none none hd (fun p h => nomatch h) (by rw [List.length_nil]; unfold line; omega) (by rw [List.length_nil]; unfold line; omega)
  have hs : ∀ S, srcT .seq (.l [.t (.tup (ds.map ddT))]) S = some (none, ds.map ddT) := fun S => src_tup S (by rw [List.length_map]; unfold line; omega)
  refine callF_of hW rfl (Le.refl _) ?_
  generalize callF fs wf pm (n + 1) = cl at *
  rw [List.nil_append] at lo
  have e0 : T.lst [] = hLT [] := rfl
  have o0 : own true (hLT []) S = .ok (.o S.length) (S ++ [.lst []]) := rfl
  have s4 := see_e S (walkT B ds [] 0)
  have f4 := fin_eF S (walkT B ds [] 0)
  unfold bodyF
  simp -implicitDefEqProofs [FWalk, e0, o0, trL, hs, lo, s4, f4, R.cut, take_len1, take_len]

/-! ### told -/
def wEn (B : List Bar) (h : Hd) : Dd → En
  | .come w => if (stops B h w).isEmpty then .inn w else .out w
  | .go i => .go (i : Int)
def wEns (B : List Bar) : List Dd → Hd → Int → List En
  | [], _, _ => []
  | d :: ds, h, j => wEn B h d :: wEns B ds (wNext B h j d) (wAdv j d)
theorem wEns_len (B : List Bar) : ∀ (ds : List Dd) (h : Hd) (j : Int), (wEns B ds h j).length = ds.length
  | [], _, _ => rfl
  | d :: ds, h, j => congrArg (· + 1) (wEns_len B ds _ _)
theorem wEns_ok (B : List Bar) : ∀ (ds : List Dd) (h : Hd) (j : Int), (∀ d ∈ ds, DdOk SOk d) → ∀ e ∈ wEns B ds h j, EnOk e
  | [], _, _, _, e, he => nomatch he
  | d :: ds, h, j, hd, e, he => by
    rcases List.mem_cons.mp he with rfl | he
    · have h0 := hd d List.mem_cons_self
      cases d with
      | go i => trivial
      | come w =>
        show EnOk (if (stops B h w).isEmpty then .inn w else .out w)
        split
        · exact h0
        · exact h0
    · exact wEns_ok B ds _ _ (fun q hq => hd q (List.mem_cons_of_mem _ hq)) e he
def tB : P := (.seq (.drop (.mth "append" (.var 2) (.cons (.ife (.cmp .Eq (.idx (.idx (.var 1) (.var 3)) (.cst (.int 0))) (.cst (.str "go"))) (.idx (.var 1) (.var 3)) (.tup (.cons (.idx (.var 4) (.cst (.int 0))) (.cons (.idx (.idx (.var 1) (.var 3)) (.cst (.int 1))) .nil)))) .nil))) .nil)
def FTold (iW : Nat) : FI := ⟨2, 5, false, (.seq (.asg (.n 2) (.lst true .nil)) (.seq (.for_ (.cons (.n 3) (.cons (.n 4) .nil)) .enum (.cons (.call iW (.cons (.var 0) (.cons (.var 1) .nil))) .nil) tB) (.seq (.ret (.bi false .tuple (.cons (.frz (.var 2)) .nil))) .nil)))⟩
theorem ix00 (a b : T) : idxT (.tup [a, b]) (.int 0) = some a := rfl
theorem ix3 (a b c : T) : idxT (.tup [a, b, c]) (.int 0) = some a := rfl
theorem td_step {cl : Nat → List D → Sto → R D} {B : List Bar} {d : Dd} {ds : List Dd} {k : Nat} (hk : ds[k]? = some d) {h : Hd} {j : Int} {acc : List T} (ha : acc.length < line) {x0 x3 x4 : Option D} {S : Sto} :
    forEl wf cl pm (.cons (.n 3) (.cons (.n 4) .nil)) tB (.tup [.int (k : Nat), wRow B h j d]) [x0, some (.t (.tup (ds.map ddT))), some (.o S.length), x3, x4] (S ++ [.lst acc]) =
      .ok (.nx, [x0, some (.t (.tup (ds.map ddT))), some (.o S.length), some (.t (.int (k : Nat))), some (.t (wRow B h j d))]) (S ++ [.lst (acc ++ [enT true (wEn B h d)])]) := by
  have hx : idxT (.tup (ds.map ddT)) (.int (k : Int)) = some (ddT d) := idx_t (by simp [hk])
  have ag : asgT (.cons (.n 3) (.cons (.n 4) .nil)) (.tup [.int (k : Nat), wRow B h j d]) [x0, some (.t (.tup (ds.map ddT))), some (.o S.length), x3, x4] = some [x0, some (.t (.tup (ds.map ddT))), some (.o S.length), some (.t (.int (k : Nat))), some (.t (wRow B h j d))] := rfl
  have ap := app_0 (t := enT true (wEn B h d)) S ha
  cases d with
  | go i =>
    have e : ddT (.go i) = .tup [.str "go", .int (i : Int)] := rfl
    have e2 : enT true (wEn B h (.go i)) = .tup [.str "go", .int (i : Int)] := rfl
    rw [e] at hx
    rw [e2] at ap ⊢
    simp -implicitDefEqProofs [forEl, ag, tB, see_e, rd_e, mi_app, hx, ix00, cgg, ap, tr_bl]
  | come w =>
    have e : ddT (.come w) = .tup [.str "come", .str w] := rfl
    rw [e] at hx
    have hr : wRow B h j (.come w) = .tup [.str (if (stops B h w).isEmpty then "in" else "out"), hLT h, hLT (wNext B h j (.come w))] := rfl
    cases hq : (stops B h w).isEmpty with
    | true =>
      rw [hq] at hr
      have e2 : enT true (wEn B h (.come w)) = .tup [.str "in", .str w] := by simp [wEn, hq, enT, sq, En.wd, En.vl]
      rw [e2] at ap ⊢
      rw [hr] at ag ⊢
      simp -implicitDefEqProofs [forEl, ag, tB, see_e, rd_e, mi_app, hx, ix00, ix1, ix3, ccg, ap, tr_bl, trL]
    | false =>
      rw [hq] at hr
      have e2 : enT true (wEn B h (.come w)) = .tup [.str "out", .str w] := by simp [wEn, hq, enT, sq, En.wd, En.vl]
      rw [e2] at ap ⊢
      rw [hr] at ag ⊢
      simp -implicitDefEqProofs [forEl, ag, tB, see_e, rd_e, mi_app, hx, ix00, ix1, ix3, ccg, ap, tr_bl, trL]
end
end Qq.Lw

set_option maxHeartbeats 1000000
/-! P23: what is told. -/
namespace Qq.Lw
open PySem L2
section
variable {fs : List FI} {wf : Nat} {pm : Nat → List D → List D → Option (List D)}
theorem td_loop {cl : Nat → List D → Sto → R D} {B : List Bar} {dd : List Dd} {x0 : Option D} {S : Sto} : ∀ (ds : List Dd) (k : Nat) (h : Hd) (j : Int) (acc : List T) (x3 x4 : Option D), dd.drop k = ds → acc.length + ds.length < line →
    ∃ (y3 y4 : Option D), forGo (forEl wf cl pm (.cons (.n 3) (.cons (.n 4) .nil)) tB) (enumT k (walkT B ds h j)) [x0, some (.t (.tup (dd.map ddT))), some (.o S.length), x3, x4] (S ++ [.lst acc]) =
      .ok (.nx, [x0, some (.t (.tup (dd.map ddT))), some (.o S.length), y3, y4]) (S ++ [.lst (acc ++ (wEns B ds h j).map (enT true))])
  | [], k, h, j, acc, x3, x4, _, _ => ⟨x3, x4, by rw [wEns, List.map_nil, List.append_nil]; rfl⟩
  | d :: ds, k, h, j, acc, x3, x4, hk, h2 => by
    rw [List.length_cons] at h2
    have hk0 : dd[k]? = some d := by
      have := congrArg (fun l => l[0]?) hk
      simpa using this
    have hk1 : dd.drop (k + 1) = ds := by
      rw [← List.drop_drop, hk]; rfl
    have st := td_step (wf := wf) (pm := pm) (cl := cl) (B := B) hk0 (h := h) (j := j) (acc := acc) (by omega) (x0 := x0) (x3 := x3) (x4 := x4) (S := S)
    obtain ⟨y3, y4, ih⟩ := td_loop (cl := cl) (B := B) (dd := dd) (x0 := x0) (S := S) ds (k + 1) (wNext B h j d) (wAdv j d) (acc ++ [enT true (wEn B h d)]) (some (.t (.int (k : Nat)))) (some (.t (wRow B h j d))) hk1 (by rw [List.length_append, List.length_singleton]; omega)
    refine ⟨y3, y4, ?_⟩
    rw [walkT]
    unfold enumT forGo
    rw [st]
    simp only [R.bind_ok]
    rw [ih, List.append_assoc]
    rfl
theorem told_ok {n iT iW iI : Nat} (hT : fs[iT]? = some (FTold iW)) (hW : fs[iW]? = some (FWalk iI)) (hI : fs[iI]? = some FIn16) {B : List Bar} (hB : ∀ b ∈ B, GOk b.1) (hbl : B.length ≤ 1000) {ds : List Dd} (hd : ∀ d ∈ ds, DdOk SOk d) (hl : ds.length ≤ 1000) (S : Sto) :
    callF fs wf pm (n + 1 + 1 + 1) iT [.t (.tup (B.map barT)), .t (.tup (ds.map ddT))] S = .ok (.t (logT true (wEns B ds [] 0))) S := by
  have hw := fun S => walk_ok (wf := wf) (pm := pm) (n := n) hW hI hB hbl hd hl S
  obtain ⟨y3, y4, lo⟩ := td_loop (wf := wf) (pm := pm) (cl := callF fs wf pm (n + 1 + 1)) (B := B) (dd := ds) (x0 := some (.t (.tup (B.map barT)))) (S := S) ds 0 [] 0 [] none none rfl (by rw [List.length_nil]; unfold line; omega)
  have hs : ∀ S, srcT .enum (.l [.t (.lst (walkT B ds [] 0))]) S = some (none, enumT 0 (walkT B ds [] 0)) := fun S => src_en _ S (by rw [walkT_len]; unfold line; omega)
  refine callF_of hT rfl (Le.refl _) ?_
  generalize callF fs wf pm (n + 1 + 1) = cl at *
  rw [List.nil_append] at lo
  have o0 : own true (.lst []) S = .ok (.o S.length) (S ++ [.lst []]) := rfl
  have s4 := see_e S ((wEns B ds [] 0).map (enT true))
  have f4 := frz_e S ((wEns B ds [] 0).map (enT true))
  have el : T.tup ((wEns B ds [] 0).map (enT true)) = logT true (wEns B ds [] 0) := rfl
  have ts : ∀ c : Cl, List.take S.length (S ++ [c]) = S := fun c => by simp
  unfold bodyF
  simp -implicitDefEqProofs [FTold, o0, hw, hs, lo, s4, f4, b_tupl, el, fin, R.cut, take_len1, take_len, ts]
end
end Qq.Lw

set_option maxHeartbeats 1000000
/-! P24: drawn groups, no two of which cross. -/
namespace Qq.Lw
open PySem L2
def lotL (g : List Str) : T := .lst (g.map T.str)
def nA (iT : Nat) : P := (.ite (.cmp .Gt (.call iT (.cons (.var 0) (.cons (.cst (.int 3)) .nil))) (.cst (.int 0))) (.seq (.drop (.mth "append" (.var 3) (.cons (.frz (.bi false .tuple (.cons (.bi false .sorted (.cons (.var 5) .nil)) .nil))) .nil))) .nil) .nil)
def nC (iT : Nat) : P := (.ite (.cmp .Gt (.bi false .len (.cons (.var 5) .nil)) (.cst (.int 1))) (.seq (.asg (.n 6) (.bin false .Add (.cst (.int 1)) (.call iT (.cons (.var 0) (.cons (.bin false .Sub (.bi false .len (.cons (.var 5) .nil)) (.cst (.int 1))) .nil))))) (.seq (.asg (.n 4) (.bin true .Add (.var 4) (.lst false (.cons (.sl false (.var 5) none (some ()) .nil (.var 6)) (.cons (.sl false (.var 5) (some ()) none (.var 6) .nil) .nil))))) .nil)) .nil)
def nB (iT : Nat) : P := (.seq (.asg (.n 5) (.mth "pop" (.var 4) .nil)) (.seq (nA iT) (.seq (nC iT) .nil)))
def nT : C := (.cmp .NotEq (.var 4) (.lst false .nil))
def FNest (iP iT : Nat) : FI := ⟨3, 7, false, (.seq (.par [3, 4] (.cons (.lst true .nil) (.cons (.lst true (.cons (.frz (.call iP (.cons (.var 0) (.cons (.var 1) (.cons (.bi false .len (.cons (.var 1) .nil)) .nil))))) .nil)) .nil))) (.seq (.whl nT (nB iT)) (.seq (.ret (.bi false .tuple (.cons (.bi false .sorted (.cons (.call iP (.cons (.var 0) (.cons (.frz (.var 3)) (.cons (.var 2) .nil)))) .nil)) .nil))) .nil)))⟩
/-- the store while groups are drawn -/
def nS (j : Cl) (F : List (List Str)) (O : Sto) (E : List (List Str)) : Sto := (j :: .lst (F.map grp) :: O) ++ [.lst (E.map lotL)]
section
variable {fs : List FI} {wf : Nat} {pm : Nat → List D → List D → Option (List D)}
theorem ns_len (j j' : Cl) (F F' : List (List Str)) (O : Sto) : (j :: Cl.lst (F.map grp) :: O).length = O.length + 2 := rfl
theorem ns_rd (j : Cl) (F : List (List Str)) (O : Sto) (E : List (List Str)) : rd (nS j F O E) (.o (O.length + 2)) = some (.lst (E.map lotL)) := rd_e (j :: .lst (F.map grp) :: O) (E.map lotL)
theorem ns_see (j : Cl) (F : List (List Str)) (O : Sto) (E : List (List Str)) : see (nS j F O E) (.o (O.length + 2)) = .o (O.length + 2) := see_e (j :: .lst (F.map grp) :: O) (E.map lotL)
theorem ns_rd1 (j : Cl) (F : List (List Str)) (O : Sto) (E : List (List Str)) : rd (nS j F O E) (.o 1) = some (.lst (F.map grp)) := rfl
theorem ns_see1 (j : Cl) (F : List (List Str)) (O : Sto) (E : List (List Str)) : see (nS j F O E) (.o 1) = .o 1 := rfl
theorem ns_app (j : Cl) (F : List (List Str)) (O : Sto) (E : List (List Str)) (g : List Str) (h : F.length < line) : mthS .append (.o 1) [.t (grp g)] (nS j F O E) = .ok (.t .non) (nS j (F ++ [g]) O E) := by
  unfold mthS nS
  simp [h]
theorem ns_pop (j : Cl) (F : List (List Str)) (O : Sto) (E : List (List Str)) (g : List Str) : mthS .lpop (.o (O.length + 2)) [] (nS j F O (E ++ [g])) = .ok (.t (lotL g)) (nS j F O E) := by
  unfold mthS nS
  simp
theorem ns_new (j : Cl) (F : List (List Str)) (O : Sto) (E E' : List (List Str)) : own true (.lst (E'.map lotL)) (nS j F O E) = .ok (.o ((O ++ [Cl.lst (E.map lotL)]).length + 2)) (nS j F (O ++ [.lst (E.map lotL)]) E') := by
  unfold nS
  show R.ok (D.o _) _ = _
  simp
theorem ns_take {n iT k : Nat} {cA : Int} (hF : fs[iT]? = some (FTake cA)) (hA : 0 ≤ cA ∧ cA < 2 ^ 40) {j : Cl} (hj : JarOk (k + 1) j) {F : List (List Str)} {O : Sto} {E : List (List Str)} {top : Int} (h0 : 0 < top) (h1 : top < 2 ^ 62) :
    ∃ (v : Nat) (j' : Cl), (v : Int) < top ∧ JarOk k j' ∧ callF fs wf pm (n + 1) iT [.o 0, .t (.int top)] (nS j F O E) = .ok (.t (.int (v : Int))) (nS j' F O E) :=
  take_ok hF hA hj _ h0 h1
theorem ns_see0 {k : Nat} {j : Cl} (hj : JarOk k j) (F : List (List Str)) (O : Sto) (E : List (List Str)) : see (nS j F O E) (.o 0) = .o 0 := hj.see _
theorem lotL_len (g : List Str) : biT .len [lotL g] = some (.int (g.length : Nat)) := by
  show some (T.int ((g.map T.str).length : Nat)) = _
  rw [List.length_map]
theorem lot_lo (g : List Str) (k : Nat) : slT (lotL g) none (some (k : Int)) = some (lotL (g.take k)) := by
  show some (T.lst (cutL (g.map T.str) none (some (k : Int)))) = _
  rw [cut_lo, ← List.map_take]; rfl
theorem lot_hi (g : List Str) (k : Nat) : slT (lotL g) (some (k : Int)) none = some (lotL (g.drop k)) := by
  show some (T.lst (cutL (g.map T.str) (some (k : Int)) none)) = _
  rw [cut_hi, ← List.map_drop]; rfl
theorem nA_ok {cl : Nat → List D → Sto → R D} {iT : Nat} {j j1 : Cl} {k : Nat} (hj : JarOk k j) {F : List (List Str)} (hFl : F.length < line) {O : Sto} {E : List (List Str)} {g g' : List Str} (hs : sortT (g.map T.str) = some (g'.map T.str)) {v : Nat} {x1 x2 x6 : Option D}
    (e : cl iT [.o 0, .t (.int 3)] (nS j F O E) = .ok (.t (.int (v : Int))) (nS j1 F O E)) :
    exec wf cl pm (nA iT) [some (.o 0), x1, x2, some (.o 1), some (.o (O.length + 2)), some (.t (lotL g)), x6] (nS j F O E) = .ok (.nx, [some (.o 0), x1, x2, some (.o 1), some (.o (O.length + 2)), some (.t (lotL g)), x6]) (nS j1 (if 0 < v then F ++ [g'] else F) O E) := by
  have s0 := ns_see0 hj F O E
  have h1 : biT .sorted [lotL g] = some (.lst (g'.map T.str)) := by
    show (sortT (g.map T.str)).map T.lst = _
    rw [hs]; rfl
  have f0 : ∀ (t : T) (S : Sto), frzS S (.t t) = .ok (.t t) S := fun _ _ => rfl
  have ap := ns_app j1 F O E g' hFl
  have eg : T.tup (g'.map T.str) = grp g' := rfl
  by_cases hv : 0 < v
  · simp -implicitDefEqProofs [nA, s0, e, c_gt, hv, ns_rd1, ns_see1, mi_app, h1, b_tupl, eg, f0, ap]
  · simp -implicitDefEqProofs [nA, s0, e, c_gt, hv]
theorem nC_no {cl : Nat → List D → Sto → R D} {iT : Nat} {S : Sto} {g : List Str} (hg : g.length = 1) {x0 x1 x2 x3 x4 x6 : Option D} :
    exec wf cl pm (nC iT) [x0, x1, x2, x3, x4, some (.t (lotL g)), x6] S = .ok (.nx, [x0, x1, x2, x3, x4, some (.t (lotL g)), x6]) S := by
  simp -implicitDefEqProofs [nC, lotL_len, hg, c_gt]
theorem nC_yes {cl : Nat → List D → Sto → R D} {iT : Nat} {j j1 : Cl} {k : Nat} (hj : JarOk k j) {F : List (List Str)} {O : Sto} {E : List (List Str)} (hE : E.length + 2 ≤ line) {g : List Str} (hg : 1 < g.length) {v m : Nat} (hm : m = 1 + v) {x1 x2 x3 x6 : Option D}
    (e : cl iT [.o 0, .t (.int ((g.length : Int) - 1))] (nS j F O E) = .ok (.t (.int (v : Int))) (nS j1 F O E)) :
    exec wf cl pm (nC iT) [some (.o 0), x1, x2, x3, some (.o (O.length + 2)), some (.t (lotL g)), x6] (nS j F O E) = .ok (.nx, [some (.o 0), x1, x2, x3, some (.o ((O ++ [Cl.lst (E.map lotL)]).length + 2)), some (.t (lotL g)), some (.t (.int ((m : Nat) : Int)))]) (nS j1 F (O ++ [.lst (E.map lotL)]) (E ++ [g.take m, g.drop m])) := by
  have s0 := ns_see0 hj F O E
  have hg' : (1 : Int) < (g.length : Int) := by omega
  have ev1 : (1 : Int) + (v : Int) = ((m : Nat) : Int) := by omega
  have hb : binT .Add (.lst (E.map lotL)) (.lst [lotL (g.take m), lotL (g.drop m)]) = some (.lst ((E ++ [g.take m, g.drop m]).map lotL)) := by
    rw [b_cat _ _ (by rw [List.length_map]; exact hE), List.map_append]; rfl
  have hn := ns_new j1 F O E (E ++ [g.take m, g.drop m])
  simp -implicitDefEqProofs [-List.map_append, -List.length_append, nC, lotL_len, hg', c_gt, s0, b_sub, e, b_add, ev1, ns_see, ns_rd, lot_lo, lot_hi, pt1, pt2, trL, hb, hn]
end
end Qq.Lw

set_option maxHeartbeats 1000000
/-! P25: drawn groups (2). -/
namespace Qq.Lw
open PySem L2
def LotOk (g : List Str) : Prop := g ≠ [] ∧ GOk g
def msr : List (List Str) → Nat
  | [] => 0
  | g :: E => (2 * g.length - 1) + msr E
theorem msr_app : ∀ (E E' : List (List Str)), msr (E ++ E') = msr E + msr E'
  | [], _ => (Nat.zero_add _).symm
  | g :: E, E' => by
    show (2 * g.length - 1) + msr (E ++ E') = (2 * g.length - 1) + msr E + msr E'
    rw [msr_app E E']; omega
theorem len_msr : ∀ (E : List (List Str)), (∀ g ∈ E, LotOk g) → E.length ≤ msr E
  | [], _ => Nat.le_refl _
  | g :: E, h => by
    have h1 := len_msr E fun x hx => h x (List.mem_cons_of_mem _ hx)
    have h2 := List.length_pos_iff.mpr (h g List.mem_cons_self).1
    show E.length + 1 ≤ (2 * g.length - 1) + msr E
    omega
theorem lots_ne {E : List (List Str)} (h : ∀ g ∈ E, LotOk g) (hl : E.length ≤ 1000) : cmpT .NotEq (.lst (E.map lotL)) (.lst []) = some (!E.isEmpty) := by
  have e := eq_nil (k := 1) (ts := E.map lotL) (pl_l (fun t ht => by
    obtain ⟨g, hg, rfl⟩ := List.mem_map.mp ht
    exact pln_grp (b := false) (h g hg).2) (by rw [List.length_map]; omega)) (by decide)
  have e : eqT (.lst (E.map lotL)) (.lst []) = some (E.map lotL).isEmpty := e
  show (eqT _ _).map _ = _
  rw [e]
  cases E <;> rfl
section
variable {fs : List FI} {wf : Nat} {pm : Nat → List D → List D → Option (List D)}
theorem nest_step {n iT k : Nat} {cA : Int} (hF : fs[iT]? = some (FTake cA)) (hA : 0 ≤ cA ∧ cA < 2 ^ 40) {j : Cl} (hj : JarOk (k + 2) j) {F : List (List Str)} (hFl : F.length ≤ 1000) (hFo : ∀ g ∈ F, LotOk g) {O : Sto} {E : List (List Str)} (hE : E.length ≤ 1000) (hEo : ∀ g ∈ E, LotOk g) {g : List Str} (hg : LotOk g) {x1 x2 x5 x6 : Option D} :
    ∃ (j' : Cl) (F' : List (List Str)) (O' : Sto) (E' : List (List Str)) (y5 y6 : Option D), JarOk k j' ∧ F'.length ≤ F.length + 1 ∧ (∀ g ∈ F', LotOk g) ∧ (∀ g ∈ E', LotOk g) ∧ msr E' + 1 = msr E + (2 * g.length - 1) ∧
      exec wf (callF fs wf pm (n + 1)) pm (nB iT) [some (.o 0), x1, x2, some (.o 1), some (.o (O.length + 2)), x5, x6] (nS j F O (E ++ [g])) = .ok (.nx, [some (.o 0), x1, x2, some (.o 1), some (.o (O'.length + 2)), y5, y6]) (nS j' F' O' E') := by
  obtain ⟨v, j1, hv, hj1, e1⟩ := ns_take (wf := wf) (pm := pm) (n := n) (k := k + 1) hF hA hj (F := F) (O := O) (E := E) (top := 3) (by omega) (by omega)
  have hgl := List.length_pos_iff.mpr hg.1
  obtain ⟨g', hs, hl', hm'⟩ := sort_strs (g := g) (by have := hg.2.1; unfold line; omega)
  have hg' : LotOk g' := ⟨fun z => by rw [z] at hl'; rw [List.length_nil] at hl'; omega, by rw [GOk, hl']; exact ⟨hg.2.1, fun x hx => hg.2.2 x (hm' x hx)⟩⟩
  have eA := nA_ok (wf := wf) (pm := pm) (cl := callF fs wf pm (n + 1)) hj (F := F) (by unfold line; omega) (O := O) (E := E) hs (x1 := x1) (x2 := x2) (x6 := x6) e1
  obtain ⟨F', hF'⟩ : ∃ F', F' = (if 0 < v then F ++ [g'] else F) := ⟨_, rfl⟩
  have q1 : F'.length ≤ F.length + 1 := by
    rw [hF']; split
    · rw [List.length_append, List.length_singleton]; exact Nat.le_refl _
    · omega
  have q2 : ∀ g ∈ F', LotOk g := by
    rw [hF']; split
    · intro x hx
      rcases List.mem_append.mp hx with hx | hx
      · exact hFo x hx
      · rw [List.mem_singleton.mp hx]; exact hg'
    · exact hFo
  rw [← hF'] at eA
  have ep := ns_pop j F O E g
  have s4 := ns_see j F O (E ++ [g])
  have r4 := ns_rd j F O (E ++ [g])
  by_cases h1 : g.length = 1
  · have eC := nC_no (wf := wf) (pm := pm) (cl := callF fs wf pm (n + 1)) (iT := iT) (S := nS j1 F' O E) h1 (x0 := some (.o 0)) (x1 := x1) (x2 := x2) (x3 := some (.o 1)) (x4 := some (.o (O.length + 2))) (x6 := x6)
    refine ⟨j1, F', O, E, some (.t (lotL g)), x6, hj1.mono (by omega), q1, q2, hEo, by omega, ?_⟩
    generalize callF fs wf pm (n + 1) = cl at *
    simp -implicitDefEqProofs [-List.map_append, nB, s4, r4, mi_pop, ep, eA, eC]
  · obtain ⟨u, j2, hu, hj2, e2⟩ := ns_take (wf := wf) (pm := pm) (n := n) (k := k) hF hA hj1 (F := F') (O := O) (E := E) (top := (g.length : Int) - 1) (by omega) (by have := hg.2.1; omega)
    obtain ⟨m, hm⟩ : ∃ m, m = 1 + u := ⟨_, rfl⟩
    have eC := nC_yes (wf := wf) (pm := pm) (cl := callF fs wf pm (n + 1)) (iT := iT) hj1 (F := F') (O := O) (E := E) (by unfold line; omega) (g := g) (by omega) hm (x1 := x1) (x2 := x2) (x3 := some (.o 1)) (x6 := x6) e2
    have hm1 : 0 < m := by omega
    have hm2 : m < g.length := by omega
    have l1 : (g.take m).length = m := by rw [List.length_take]; omega
    have l2 : (g.drop m).length = g.length - m := List.length_drop
    have o1 : LotOk (g.take m) := ⟨fun z => by rw [z, List.length_nil] at l1; omega, by rw [l1]; have := hg.2.1; omega, fun x hx => hg.2.2 x (List.mem_of_mem_take hx)⟩
    have o2 : LotOk (g.drop m) := ⟨fun z => by rw [z, List.length_nil] at l2; omega, by rw [l2]; have := hg.2.1; omega, fun x hx => hg.2.2 x (List.mem_of_mem_drop hx)⟩
    refine ⟨j2, F', O ++ [.lst (E.map lotL)], E ++ [g.take m, g.drop m], some (.t (lotL g)), some (.t (.int (m : Int))), hj2, q1, q2, fun x hx => ?_, ?_, ?_⟩
    · rcases List.mem_append.mp hx with hx | hx
      · exact hEo x hx
      · simp only [List.mem_cons, List.not_mem_nil, or_false] at hx
        rcases hx with rfl | rfl
        · exact o1
        · exact o2
    · rw [msr_app]
      show msr E + ((2 * (g.take m).length - 1) + ((2 * (g.drop m).length - 1) + 0)) + 1 = _
      rw [l1, l2]; omega
    · generalize callF fs wf pm (n + 1) = cl at *
      simp -implicitDefEqProofs [-List.map_append, -List.length_append, nB, s4, r4, mi_pop, ep, eA, eC]
theorem nest_loop {n iT : Nat} {cA : Int} (hF : fs[iT]? = some (FTake cA)) (hA : 0 ≤ cA ∧ cA < 2 ^ 40) {x1 x2 : Option D} : ∀ (m k : Nat) (j : Cl) (F : List (List Str)) (O : Sto) (E : List (List Str)) (x5 x6 : Option D),
    msr E < m → m ≤ 500 → JarOk (k + 2 * m) j → F.length + m ≤ 1000 → (∀ g ∈ F, LotOk g) → (∀ g ∈ E, LotOk g) →
    ∃ (j' : Cl) (F' : List (List Str)) (O' : Sto) (y4 y5 y6 : Option D), JarOk k j' ∧ F'.length ≤ F.length + m ∧ (∀ g ∈ F', LotOk g) ∧
      whlGo (tst (callF fs wf pm (n + 1)) pm nT) (exec wf (callF fs wf pm (n + 1)) pm (nB iT)) m [some (.o 0), x1, x2, some (.o 1), some (.o (O.length + 2)), x5, x6] (nS j F O E) = .ok (.nx, [some (.o 0), x1, x2, some (.o 1), y4, y5, y6]) (nS j' F' O' [])
  | 0, _, _, _, _, _, _, _, h, _, _, _, _, _ => absurd h (Nat.not_lt_zero _)
  | m + 1, k, j, F, O, E, x5, x6, h1, h2, hj, h3, hFo, hEo => by
    have hEl := len_msr E hEo
    have ht : tst (callF fs wf pm (n + 1)) pm nT [some (.o 0), x1, x2, some (.o 1), some (.o (O.length + 2)), x5, x6] (nS j F O E) = .ok (!E.isEmpty) (nS j F O E) := by
      have s4 := ns_see j F O E
      have r4 := ns_rd j F O E
      have hn := lots_ne hEo (by omega)
      generalize callF fs wf pm (n + 1) = cl at *
      simp -implicitDefEqProofs [tst, nT, s4, r4, hn, trL]
    rcases List.eq_nil_or_concat E with rfl | ⟨E0, g, rfl⟩
    · refine ⟨j, F, O, some (.o (O.length + 2)), x5, x6, hj.mono (by omega), by omega, hFo, ?_⟩
      unfold whlGo
      rw [ht]
      rfl
    · rw [List.concat_eq_append] at *
      have hg : LotOk g := hEo g (by simp)
      have hE0 : ∀ g ∈ E0, LotOk g := fun x hx => hEo x (List.mem_append_left _ hx)
      have hl0 : E0.length ≤ 1000 := by rw [List.length_append] at hEl; omega
      obtain ⟨j1, F1, O1, E1, y5, y6, a1, a2, a3, a4, a5, a6⟩ := nest_step (wf := wf) (pm := pm) (n := n) (k := k + 2 * m) hF hA (hj.mono (by omega)) (F := F) (by omega) hFo (O := O) hl0 hE0 hg (x1 := x1) (x2 := x2) (x5 := x5) (x6 := x6)
      have hms : msr (E0 ++ [g]) = msr E0 + (2 * g.length - 1) := by rw [msr_app]; rfl
      obtain ⟨j', F', O', z4, z5, z6, b1, b2, b3, b4⟩ := nest_loop (n := n) hF hA (x1 := x1) (x2 := x2) m k j1 F1 O1 E1 y5 y6 (by omega) (by omega) a1 (by omega) a3 a4
      refine ⟨j', F', O', z4, z5, z6, b1, by omega, b3, ?_⟩
      unfold whlGo
      rw [ht]
      have hne : (!(E0 ++ [g]).isEmpty) = true := by cases E0 <;> rfl
      rw [hne]
      simp only [R.bind_ok]
      rw [a6]
      exact b4
end
end Qq.Lw

set_option maxHeartbeats 1000000
/-! P26: pick ahead of any other things. -/
namespace Qq.Lw
open PySem L2
def pS (j : Cl) (S : Sto) (rs us : List T) : Sto := (j :: S) ++ [.lst rs, .lst us]
section
variable {fs : List FI} {wf : Nat} {pm : Nat → List D → List D → Option (List D)}
theorem ps_see1 (j : Cl) (S : Sto) (rs us : List T) : see (pS j S rs us) (.o (S.length + 1)) = .o (S.length + 1) := see_at (xs := rs) (by simp [pS])
theorem ps_see2 (j : Cl) (S : Sto) (rs us : List T) : see (pS j S rs us) (.o (S.length + 2)) = .o (S.length + 2) := see_at (xs := us) (by simp [pS])
theorem ps_rd1 (j : Cl) (S : Sto) (rs us : List T) : rd (pS j S rs us) (.o (S.length + 1)) = some (.lst rs) := by
  show ((pS j S rs us)[S.length + 1]?).map Cl.tr = _
  simp [pS, Cl.tr]
theorem ps_rd2 (j : Cl) (S : Sto) (rs us : List T) : rd (pS j S rs us) (.o (S.length + 2)) = some (.lst us) := by
  show ((pS j S rs us)[S.length + 2]?).map Cl.tr = _
  simp [pS, Cl.tr]
theorem ps_app (j : Cl) (S : Sto) (rs us : List T) (t : T) (h : us.length < line) : mthS .append (.o (S.length + 2)) [.t t] (pS j S rs us) = .ok (.t .non) (pS j S rs (us ++ [t])) := by
  unfold mthS pS
  simp [h]
theorem ps_pop (j : Cl) (S : Sto) (rs us : List T) {v : Nat} {t : T} (h : rs[v]? = some t) (hl : rs.length ≤ line) : mthS .lpop (.o (S.length + 1)) [.t (.int (v : Int))] (pS j S rs us) = .ok (.t t) (pS j S (rs.eraseIdx v) us) := by
  have hv := (List.getElem?_eq_some_iff.mp h).1
  unfold line at hl
  have h1 : (v : Int) < 2 ^ 63 := by omega
  have h2 : -(2 ^ 63) ≤ (v : Int) := by omega
  have hg : (pS j S rs us)[S.length + 1]? = some (.lst rs) := by simp [pS]
  have hs : (pS j S rs us).set (S.length + 1) (.lst (rs.eraseIdx v)) = pS j S (rs.eraseIdx v) us := by simp [pS]
  unfold mthS
  simp only [hg, h1, h2, and_self, if_true, sq_at hv, h, hs]
theorem pickS_step {cl : Nat → List D → Sto → R D} {iT : Nat} {j j' : Cl} {k : Nat} {S : Sto} {rs us : List T} {x1 x2 x3 : Option D} {d t : T} {v : Nat} (hj : JarOk k j)
    (e : cl iT [.o 0, .t (.int (rs.length : Int))] (pS j S rs us) = .ok (.t (.int (v : Int))) (pS j' S rs us)) (ht : rs[v]? = some t) (hl : rs.length ≤ line) (hu : us.length < line) :
    forEl wf cl pm (.n 3) (pkB iT) d [some (.o 0), x1, x2, x3, some (.o (S.length + 1)), some (.o (S.length + 2))] (pS j S rs us) = .ok (.nx, [some (.o 0), x1, x2, some (.t d), some (.o (S.length + 1)), some (.o (S.length + 2))]) (pS j' S (rs.eraseIdx v) (us ++ [t])) := by
  have s0 : see (pS j S rs us) (.o 0) = .o 0 := hj.see _
  have p1 := ps_pop j' S rs us ht hl
  have p2 := ps_app j' S (rs.eraseIdx v) us t hu
  have f0 : ∀ (t : T) (S : Sto), frzS S (.t t) = .ok (.t t) S := fun _ _ => rfl
  simp -implicitDefEqProofs [forEl, pkB, ps_see1, ps_see2, ps_rd1, ps_rd2, mi_app, mi_pop, s0, b_len, e, p1, p2, f0]
theorem pickS_loop {n iT : Nat} {cA : Int} (hF : fs[iT]? = some (FTake cA)) (hA : 0 ≤ cA ∧ cA < 2 ^ 40) {x1 x2 : Option D} {P : T → Prop} {S : Sto} : ∀ (m z k : Nat) (j : Cl) (rs us : List T) (x3 : Option D), m ≤ rs.length → rs.length ≤ 1000 → us.length + m ≤ 1000 → JarOk (k + m) j → (∀ t ∈ rs, P t) → (∀ t ∈ us, P t) →
    ∃ (j' : Cl) (x3' : Option D) (rs' us' : List T), us'.length = us.length + m ∧ (∀ t ∈ us', P t) ∧ JarOk k j' ∧ forGo (forEl wf (callF fs wf pm (n + 1)) pm (.n 3) (pkB iT)) (upT (z : Int) m) [some (.o 0), x1, x2, x3, some (.o (S.length + 1)), some (.o (S.length + 2))] (pS j S rs us) = .ok (.nx, [some (.o 0), x1, x2, x3', some (.o (S.length + 1)), some (.o (S.length + 2))]) (pS j' S rs' us')
  | 0, z, k, j, rs, us, x3, _, _, _, hj, _, hu => ⟨j, x3, rs, us, rfl, hu, hj, rfl⟩
  | m + 1, z, k, j, rs, us, x3, h1, h2, h3, hj, hr, hu => by
    obtain ⟨v, j1, hv, hj1, e⟩ := take_ok (wf := wf) (pm := pm) (n := n) (k := k + m) hF hA hj (S ++ [.lst rs, .lst us]) (top := (rs.length : Int)) (by omega) (by omega)
    have hv' : v < rs.length := by omega
    have ht : rs[v]? = some rs[v] := by simp [hv']
    have st := pickS_step (wf := wf) (pm := pm) (cl := callF fs wf pm (n + 1)) (S := S) (x1 := x1) (x2 := x2) (x3 := x3) (d := .int (z : Int)) hj e ht (by unfold line; omega) (by unfold line; omega)
    obtain ⟨j', x3', rs', us', g1, g2, g3, g4⟩ := pickS_loop (n := n) hF hA (x1 := x1) (x2 := x2) (P := P) (S := S) m (z + 1) k j1 (rs.eraseIdx v) (us ++ [rs[v]]) (some (.t (.int (z : Int)))) (by rw [List.length_eraseIdx_of_lt hv']; omega) (by rw [List.length_eraseIdx_of_lt hv']; omega) (by rw [List.length_append, List.length_singleton]; omega) hj1 (fun t ht => hr t (List.mem_of_mem_eraseIdx ht)) (fun t ht => by
      rcases List.mem_append.mp ht with ht | ht
      · exact hu t ht
      · rw [List.mem_singleton.mp ht]; exact hr _ (List.getElem_mem hv'))
    refine ⟨j', x3', rs', us', by rw [g1, List.length_append, List.length_singleton]; omega, g2, g3, ?_⟩
    unfold upT forGo
    rw [st]
    simp only [R.bind_ok]
    have ez : ((z : Int) + 1) = ((z + 1 : Nat) : Int) := (Int.natCast_succ z).symm
    rw [ez]
    exact g4
/-- pick, from a row in whatever dress, ahead of other things -/
theorem pickS_ok {n iP iT k sz : Nat} {cA : Int} (hP : fs[iP]? = some (FPick iT)) (hF : fs[iT]? = some (FTake cA)) (hA : 0 ≤ cA ∧ cA < 2 ^ 40) {P : T → Prop} {p : T} {ts : List T} (hp : biT .list [p] = some (.lst ts)) (hl : ts.length ≤ 1000) {j : Cl} (hj : JarOk (k + 1000) j) (ht : ∀ t ∈ ts, P t) (S : Sto) :
    ∃ (us : List T) (j' : Cl), us.length = min sz ts.length ∧ (∀ t ∈ us, P t) ∧ JarOk k j' ∧ callF fs wf pm (n + 1 + 1) iP [.o 0, .t p, .t (.int (sz : Int))] (j :: S) = .ok (.t (.lst us)) (j' :: S) := by
  have hm : min sz ts.length ≤ ts.length := Nat.min_le_right ..
  have z0 : ((0 : Nat) : Int) = 0 := rfl
  obtain ⟨j', x3', rs', us', g1, g2, g3, g4⟩ := pickS_loop (wf := wf) (pm := pm) (n := n) hF hA (x1 := some (.t p)) (x2 := some (.t (.int (sz : Int)))) (P := P) (S := S) (min sz ts.length) 0 k j ts [] none hm hl (by simp; omega) (hj.mono (by omega)) ht (fun t h => nomatch h)
  have hr : ∀ S : Sto, srcT .r1 (.l [.t (.int ((min sz ts.length : Nat) : Int))]) S = some (none, upT ((0 : Nat) : Int) (min sz ts.length)) := fun S => src_r1 _ (by omega) S
  have s0 : see (j :: S) (.o 0) = .o 0 := hj.see S
  have o1 : own true (.lst ts) (j :: S) = .ok (.o (S.length + 1)) (j :: S ++ [.lst ts]) := rfl
  have o2 : own true (.lst []) (j :: S ++ [.lst ts]) = .ok (.o (S.length + 2)) (pS j S ts []) := by
    show R.ok (D.o (j :: S ++ [Cl.lst ts]).length) (j :: S ++ [Cl.lst ts] ++ [.lst []]) = _
    simp [pS]
  have f2 : fin false (j :: S).length (.ret (.o (S.length + 2))) (pS j' S rs' us') = .ok (.t (.lst us')) (j' :: S) := by
    rw [fin_o, if_neg (by rw [List.length_cons]; omega)]
    simp [pS]
  rw [z0] at g4 hr
  have hT : List.take ((j :: S).length + 1) (j' :: S) = j' :: S := List.take_of_length_le (by simp)
  have s1 := ps_see1 j S ts []
  have r1 := ps_rd1 j S ts []
  have s2 := ps_see2 j' S rs' us'
  refine ⟨us', j', by rw [g1]; simp, g2, g3, callF_of hP rfl (Le.refl _) ?_⟩
  generalize callF fs wf pm (n + 1) = cl at *
  generalize j :: S = S0 at *
  generalize j' :: S = S1 at *
  unfold bodyF
  simp -implicitDefEqProofs [FPick, hp, o1, o2, s1, r1, b_len, min_it, hr, g4, s2, f2, R.cut, hT]
end
end Qq.Lw

set_option maxHeartbeats 1000000
/-! P27: nest. -/
namespace Qq.Lw
open PySem L2
section
variable {fs : List FI} {pm : Nat → List D → List D → Option (List D)}
theorem nest_core {cl : Nat → List D → Sto → R D} {iP iT : Nat} {j j1 j2 j3 : Cl} {k k1 k2 : Nat} (hj : JarOk k j) (hj1 : JarOk k1 j1) (hj2 : JarOk k2 j2) {kin : T} {g : List Str} {F : List (List Str)} {us vs : List T} {O : Sto} {most len : T} {y4 y5 y6 : Option D}
    (hl : biT .len [kin] = some len)
    (e1 : cl iP [.o 0, .t kin, .t len] [j, .lst []] = .ok (.t (lotL g)) [j1, .lst []])
    (lo : whlGo (tst cl pm nT) (exec 300 cl pm (nB iT)) 300 [some (.o 0), some (.t kin), some (.t most), some (.o 1), some (.o 2), none, none] (nS j1 [] [] [g]) = .ok (.nx, [some (.o 0), some (.t kin), some (.t most), some (.o 1), y4, y5, y6]) (nS j2 F O []))
    (e2 : cl iP [.o 0, .t (.lst (F.map grp)), .t most] (j2 :: (.gon (.lst (F.map grp)) :: O ++ [.lst []])) = .ok (.t (.lst us)) (j3 :: (.gon (.lst (F.map grp)) :: O ++ [.lst []])))
    (hs : sortT us = some vs) :
    bodyF 300 cl pm (FNest iP iT) [.o 0, .t kin, .t most] [j] = .ok (.t (.tup vs)) [j3] := by
  have s0 : see [j, .lst []] (.o 0) = .o 0 := hj.see _
  have o1 : own true (.lst []) [j] = .ok (.o 1) [j, .lst []] := rfl
  have o2 : own true (.lst [lotL g]) [j1, .lst []] = .ok (.o 2) (nS j1 [] [] [g]) := rfl
  have f0 : ∀ (t : T) (S : Sto), frzS S (.t t) = .ok (.t t) S := fun _ _ => rfl
  have s2 : see (nS j2 F O []) (.o 0) = .o 0 := hj2.see _
  have s3 := ns_see1 j2 F O []
  have f3 : frzS (nS j2 F O []) (.o 1) = .ok (.t (.lst (F.map grp))) (j2 :: .gon (.lst (F.map grp)) :: O ++ [.lst []]) := rfl
  have h1 : biT .sorted [.lst us] = some (.lst vs) := by
    show (sortT us).map T.lst = _
    rw [hs]; rfl
  have e4 : cl iP [.o 0, .t (.lst (F.map grp)), .t most] (j2 :: .gon (.lst (F.map grp)) :: O ++ [.lst []]) = .ok (.t (.lst us)) (j3 :: (.gon (.lst (F.map grp)) :: O ++ [.lst []])) := e2
  have hf : fin false 1 (.ret (.t (.tup vs))) (j3 :: (.gon (.lst (F.map grp)) :: O ++ [.lst []])) = .ok (.t (.tup vs)) [j3] := rfl
  generalize (j2 :: Cl.gon (.lst (F.map grp)) :: O ++ [.lst []]) = SA at *
  generalize (j3 :: (Cl.gon (.lst (F.map grp)) :: O ++ [.lst []])) = SB at *
  unfold bodyF
  simp -implicitDefEqProofs [FNest, s0, o1, hl, e1, f0, trL, o2, lo, s2, s3, f3, e4, h1, b_tupl, hf, R.cut]
theorem nest_ok {n iN iP iT k sz : Nat} {cA : Int} (hN : fs[iN]? = some (FNest iP iT)) (hP : fs[iP]? = some (FPick iT)) (hF : fs[iT]? = some (FTake cA)) (hA : 0 ≤ cA ∧ cA < 2 ^ 40) {kin : List Str} (hk : LotOk kin) (hl : kin.length ≤ 100) {j : Cl} (hj : JarOk (k + 3000) j) :
    ∃ (L : List (List Str)) (j' : Cl), LOk L ∧ JarOk k j' ∧ callF fs 300 pm (n + 1 + 1 + 1) iN [.o 0, .t (grp kin), .t (.int (sz : Int))] [j] = .ok (.t (lotsS true L)) [j'] := by
  obtain ⟨us, j1, a1, a2, a3, a4⟩ := pickS_ok (wf := 300) (pm := pm) (n := n) (k := k + 2000) (sz := kin.length) hP hF hA (P := fun t => ∃ x, x ∈ kin ∧ T.str x = t) (p := grp kin) (ts := kin.map T.str) rfl (by rw [List.length_map]; omega) (hj.mono (by omega)) (fun t ht => by
    obtain ⟨x, hx, e⟩ := List.mem_map.mp ht
    exact ⟨x, hx, e⟩) [.lst []]
  obtain ⟨g, rfl, g2, g3⟩ := maps_of a2
  have gl : g.length = kin.length := by rw [g2, a1, List.length_map, Nat.min_self]
  have hkl := List.length_pos_iff.mpr hk.1
  have hg : LotOk g := ⟨fun z => by rw [z, List.length_nil] at gl; omega, by omega, fun x hx => hk.2.2 x (g3 x hx)⟩
  have hm : msr [g] < 300 := by
    show (2 * g.length - 1) + 0 < 300
    omega
  obtain ⟨j2, F, O, y4, y5, y6, b1, b2, b3, b4⟩ := nest_loop (wf := 300) (pm := pm) (n := n + 1) (x1 := some (.t (grp kin))) (x2 := some (.t (.int (sz : Int)))) hF hA 300 (k + 1000) j1 [] [] [g] none none hm (by omega) (a3.mono (by omega)) (by rw [List.length_nil]; omega) (fun x hx => nomatch hx) (fun x hx => by rw [List.mem_singleton.mp hx]; exact hg)
  rw [List.length_nil] at b2
  obtain ⟨ws, j3, c1, c2, c3, c4⟩ := pickS_ok (wf := 300) (pm := pm) (n := n) (k := k) (sz := sz) hP hF hA (P := fun t => ∃ x, x ∈ F ∧ grp x = t) (p := .lst (F.map grp)) (ts := F.map grp) rfl (by rw [List.length_map]; omega) b1 (fun t ht => by
    obtain ⟨x, hx, e⟩ := List.mem_map.mp ht
    exact ⟨x, hx, e⟩) (.gon (.lst (F.map grp)) :: O ++ [.lst []])
  obtain ⟨L, rfl, L2, L3⟩ := maps_of c2
  obtain ⟨L', e1, e2, e3⟩ := sort_tups (L := L) (by
    have : L.length ≤ F.length := by rw [L2, c1, List.length_map]; exact Nat.min_le_right ..
    unfold line; omega) (fun x hx => (b3 x (L3 x hx)).1)
  refine ⟨L', j3, ⟨by
    have : L.length ≤ F.length := by rw [L2, c1, List.length_map]; exact Nat.min_le_right ..
    omega, fun x hx => (b3 x (L3 x (e3 x hx))).2⟩, c3, ?_⟩
  have hlen : biT .len [grp kin] = some (.int (kin.length : Nat)) := by
    show some (T.int ((kin.map T.str).length : Nat)) = _
    rw [List.length_map]
  exact callF_of hN rfl (Le.refl _) (nest_core hj a3 b1 hlen a4 b4 c4 e1)
end
end Qq.Lw

set_option maxHeartbeats 1000000
/-! P28: words drawn anew. -/
namespace Qq.Lw
open PySem L2
section
variable {fs : List FI} {wf : Nat} {pm : Nat → List D → List D → Option (List D)}
def rwE (iO : Nat) : C := (.ife (.cmp .Eq (.idx (.var 6) (.cst (.int 0))) (.cst (.str "go"))) (.var 6) (.tup (.cons (.frz (.call iO (.cons (.var 0) (.cons (.lst false (.cons (.cst (.str "in")) (.cons (.cst (.str "in")) (.cons (.cst (.str "out")) .nil)))) .nil)))) (.cons (.idx (.var 6) (.cst (.int 1))) .nil))))
def wds3 : List T := [.str "in", .str "in", .str "out"]
theorem rw_el {n iO iT k : Nat} {cA : Int} (hO : fs[iO]? = some (FOf iT)) (hF : fs[iT]? = some (FTake cA)) (hA : 0 ≤ cA ∧ cA < 2 ^ 40) {e : En} (he : EnOk e) {j : Cl} (hj : JarOk (k + 1) j) {x1 x2 x3 x4 x5 : Option D} :
    ∃ (e' : En) (j' : Cl), EnOk e' ∧ JarOk k j' ∧ ev (callF fs wf pm (n + 1 + 1)) pm (rwE iO) [some (.o 0), x1, x2, x3, x4, x5, some (.t (enT true e))] [j] = .ok (.t (enT true e')) [j'] := by
  have s0 : see [j] (.o 0) = .o 0 := hj.see []
  have f0 : ∀ (t : T) (S : Sto), frzS S (.t t) = .ok (.t t) S := fun _ _ => rfl
  obtain ⟨t, j', ht, hj', e1⟩ := of_ok (wf := wf) (pm := pm) (n := n) hO hF hA hj [] (ts := wds3) (by decide) (by unfold line; decide)
  generalize callF fs wf pm (n + 1 + 1) = cl at *
  unfold wds3 at e1 ht
  have aux : ∀ (x w : Str) (hx : cmpT .Eq (.str x) (.str "go") = some false), ev cl pm (rwE iO) [some (.o 0), x1, x2, x3, x4, x5, some (.t (.tup [.str x, .str w]))] [j] = .ok (.t (.tup [t, .str w])) [j'] := by
    intro x w hx
    simp -implicitDefEqProofs [rwE, ix00, ix1, hx, s0, e1, f0, trL, tr_bl]
  have fin : ∀ w, SOk w → ∃ e' : En, EnOk e' ∧ T.tup [t, .str w] = enT true e' := by
    intro w hw
    simp only [List.mem_cons, List.not_mem_nil, or_false] at ht
    rcases ht with rfl | rfl | rfl
    · exact ⟨.inn w, hw, rfl⟩
    · exact ⟨.inn w, hw, rfl⟩
    · exact ⟨.out w, hw, rfl⟩
  cases e with
  | go i =>
    refine ⟨.go i, j, trivial, hj.mono (by omega), ?_⟩
    have ee : enT true (.go i) = .tup [.str "go", .int i] := rfl
    rw [ee]
    simp -implicitDefEqProofs [rwE, ix00, cgg, tr_bl]
  | inn w =>
    obtain ⟨e', h1, h2⟩ := fin w he
    exact ⟨e', j', h1, hj', (aux "in" w cig).trans (by rw [h2])⟩
  | out w =>
    obtain ⟨e', h1, h2⟩ := fin w he
    exact ⟨e', j', h1, hj', (aux "out" w cog).trans (by rw [h2])⟩
theorem rw_go {n iO iT : Nat} {cA : Int} (hO : fs[iO]? = some (FOf iT)) (hF : fs[iT]? = some (FTake cA)) (hA : 0 ≤ cA ∧ cA < 2 ^ 40) {x1 x2 x3 x4 x5 : Option D} : ∀ (l : List En) (k : Nat) (j : Cl), (∀ e ∈ l, EnOk e) → JarOk (k + l.length) j →
    ∃ (l' : List En) (j' : Cl), l'.length = l.length ∧ (∀ e ∈ l', EnOk e) ∧ JarOk k j' ∧ compGo (compEl (callF fs wf pm (n + 1 + 1)) pm [6] (.n 6) (.cst (.bl true)) (rwE iO) [some (.o 0), x1, x2, x3, x4, x5, none]) (l.map (enT true)) [j] = .ok (l'.map (enT true)) [j']
  | [], k, j, _, hj => ⟨[], j, rfl, (fun e h => nomatch h), hj, rfl⟩
  | e :: l, k, j, he, hj => by
    rw [List.length_cons] at hj
    obtain ⟨e', j1, h1, h2, h3⟩ := rw_el (wf := wf) (pm := pm) (n := n) (k := k + l.length) hO hF hA (he e List.mem_cons_self) (hj.mono (by omega)) (x1 := x1) (x2 := x2) (x3 := x3) (x4 := x4) (x5 := x5)
    obtain ⟨l', j', g1, g2, g3, g4⟩ := rw_go (n := n) hO hF hA (x1 := x1) (x2 := x2) (x3 := x3) (x4 := x4) (x5 := x5) l k j1 (fun q hq => he q (List.mem_cons_of_mem _ hq)) h2
    refine ⟨e' :: l', j', by rw [List.length_cons, List.length_cons, g1], fun q hq => ?_, g3, ?_⟩
    · rcases List.mem_cons.mp hq with rfl | hq
      · exact h1
      · exact g2 q hq
    · rw [List.map_cons, List.map_cons]
      exact compGo_c (o := some _) (compEl_tt2 (r' := [some (.o 0), x1, x2, x3, x4, x5, some (.t (enT true e))]) rfl rfl h3 rfl) g4
end
end Qq.Lw

set_option maxHeartbeats 1000000
/-! P29: a turn of the drawn part. -/
namespace Qq.Lw
open PySem L2
section
variable {fs : List FI} {wf : Nat} {pm : Nat → List D → List D → Option (List D)}
def rtI (iO : Nat) : P := (.seq (.asg (.n 3) (.bi false .tuple (.cons (.comp false [6] (.n 6) .seq (.cons (.var 3) .nil) (.cst (.bl true)) (rwE iO)) .nil))) .nil)
def rtG (p : P) (iK iT iN iD iTo iB iC : Nat) : P := (.seq (.asg (.n 2) (.call iK (.cons (.var 0) (.cons (.bin false .Add (.cst (.int 1)) (.call iT (.cons (.var 0) (.cons (.cst (.int 4)) .nil)))) .nil)))) (.seq (.par [4, 5] (.cons (.call iN (.cons (.var 0) (.cons (.var 2) (.cons (.cst (.int 5)) .nil)))) (.cons (.call iD (.cons (.var 0) (.cons (.var 2) (.cons (.call iT (.cons (.var 0) (.cons (.cst (.int 15)) .nil))) .nil)))) .nil))) (.seq (.asg (.n 3) (.call iTo (.cons (.call iB (.cons (.var 0) (.cons (.var 4) (.cons (.cst (.int 3)) .nil)))) (.cons (.var 5) .nil)))) (.seq (.ite (.cmp .Eq (.call iT (.cons (.var 0) (.cons (.cst (.int 3)) .nil))) (.cst (.int 0))) p .nil) (.seq (.ite (.notV (.tru (.call iC (.cons (.var 4) (.cons (.var 3) .nil))))) (.seq (.ret (.cst (.bl false))) .nil) .nil) .nil)))))
theorem turn_core (p : P) {cl : Nat → List D → Sto → R D} {iK iT iN iD iTo iB iC : Nat} {j j1 j2 j3 j4 j5 j6 j7 j8 : Cl} {k k1 k2 k3 k4 k5 k6 : Nat}
    (h : JarOk k j) (h1 : JarOk k1 j1) (h2 : JarOk k2 j2) (h3 : JarOk k3 j3) (h4 : JarOk k4 j4) (h5 : JarOk k5 j5) (h6 : JarOk k6 j6) {v w : Nat} {m g lots row bars log log' : T} {m15 : T} {d : T} {x1 x2 x3 x4 x5 x6 : Option D}
    (e1 : cl iT [.o 0, .t (.int 4)] [j] = .ok (.t (.int (v : Int))) [j1])
    (hm : binT .Add (.int 1) (.int (v : Int)) = some m)
    (e2 : cl iK [.o 0, .t m] [j1] = .ok (.t g) [j2])
    (e3 : cl iN [.o 0, .t g, .t (.int 5)] [j2] = .ok (.t lots) [j3])
    (e4 : cl iT [.o 0, .t (.int 15)] [j3] = .ok (.t m15) [j4])
    (e5 : cl iD [.o 0, .t g, .t m15] [j4] = .ok (.t row) [j5])
    (e6 : cl iB [.o 0, .t lots, .t (.int 3)] [j5] = .ok (.t bars) [j6])
    (e7 : cl iTo [.t bars, .t row] [j6] = .ok (.t log) [j6])
    (e8 : cl iT [.o 0, .t (.int 3)] [j6] = .ok (.t (.int (w : Int))) [j7])
    (e9 : (w = 0 ∧ exec wf cl pm p [some (.o 0), some (.t d), some (.t g), some (.t log), some (.t lots), some (.t row), x6] [j7] = .ok (.nx, [some (.o 0), some (.t d), some (.t g), some (.t log'), some (.t lots), some (.t row), x6]) [j8]) ∨ (¬ w = 0 ∧ log' = log ∧ j8 = j7))
    (e10 : cl iC [.t lots, .t log'] [j8] = .ok (.t (.bl true)) [j8]) :
    forEl wf cl pm (.n 1) (rtG p iK iT iN iD iTo iB iC) d [some (.o 0), x1, x2, x3, x4, x5, x6] [j] = .ok (.nx, [some (.o 0), some (.t d), some (.t g), some (.t log'), some (.t lots), some (.t row), x6]) [j8] := by
  have s0 : see [j] (.o 0) = .o 0 := h.see []
  have s1 : see [j1] (.o 0) = .o 0 := h1.see []
  have s2 : see [j2] (.o 0) = .o 0 := h2.see []
  have s3 : see [j3] (.o 0) = .o 0 := h3.see []
  have s5 : see [j5] (.o 0) = .o 0 := h5.see []
  have s6 : see [j6] (.o 0) = .o 0 := h6.see []
  rcases e9 with ⟨hw, e9⟩ | ⟨hw, rfl, rfl⟩
  · simp -implicitDefEqProofs [forEl, rtG, s0, s1, s2, s3, s5, s6, e1, hm, e2, e3, e4, e5, e6, e7, e8, c_eq, hw, e9, e10, asgP, tr_bl]
  · have hw' : ¬ (w : Int) = 0 := by omega
    simp -implicitDefEqProofs [forEl, rtG, s0, s1, s2, s3, s5, s6, e1, hm, e2, e3, e4, e5, e6, e7, e8, c_eq, hw, hw', e10, asgP, tr_bl]
theorem rtI_core {cl : Nat → List D → Sto → R D} {iO : Nat} {j j' : Cl} {l l' : List En} {x0 x1 x2 x4 x5 : Option D} (hl : l.length ≤ line)
    (h : compGo (compEl cl pm [6] (.n 6) (.cst (.bl true)) (rwE iO) [x0, x1, x2, some (.t (logT true l)), x4, x5, none]) (l.map (enT true)) [j] = .ok (l'.map (enT true)) [j']) :
    exec wf cl pm (rtI iO) [x0, x1, x2, some (.t (logT true l)), x4, x5, none] [j] = .ok (.nx, [x0, x1, x2, some (.t (logT true l')), x4, x5, none]) [j'] := by
  have hs : ∀ S, srcT .seq (.l [.t (logT true l)]) S = some (none, l.map (enT true)) := fun S => src_sq true S (by rw [List.length_map]; exact hl)
  have e : T.tup (l'.map (enT true)) = logT true l' := rfl
  simp -implicitDefEqProofs [rtI, hs, h, b_tupl, e]
theorem kinds8_ok : ∀ x ∈ kinds8, PyData.strOk x = true := by
  intro x hx
  unfold kinds8 at hx
  simp only [List.mem_cons, List.not_mem_nil, or_false] at hx
  rcases hx with rfl | rfl | rfl | rfl | rfl | rfl | rfl | rfl <;> decide +kernel
theorem turn_ok {n k iK iP iT iN iD iO iTo iW iI iB iC iSm iS iR iDu iL : Nat} {cA : Int} (hK : fs[iK]? = some (FKin iP)) (hP : fs[iP]? = some (FPick iT)) (hT : fs[iT]? = some (FTake cA)) (hA : 0 ≤ cA ∧ cA < 2 ^ 40)
    (hN : fs[iN]? = some (FNest iP iT)) (hD : fs[iD]? = some (FDeeds iT iO)) (hO : fs[iO]? = some (FOf iT)) (hTo : fs[iTo]? = some (FTold iW)) (hW : fs[iW]? = some (FWalk iI)) (hI : fs[iI]? = some FIn16) (hB : fs[iB]? = some (FBars iT))
    (hC : fs[iC]? = some (FCase iSm iS iR iDu iL)) (hc : CaseCl (callF fs 300 pm (n + 1 + 1)) iSm iS iR iDu iL) (hp0 : ∀ a b, pm 0 [] [a, b] = some [b, a]) (hp1 : ∀ a b, pm 1 [] [a, b] = some [b, a])
    {j : Cl} (hj : JarOk (k + 9000) j) (d : T) (x1 x2 x3 x4 x5 : Option D) :
    ∃ j' y2 y3 y4 y5, JarOk k j' ∧ forEl 300 (callF fs 300 pm (n + 1 + 1 + 1)) pm (.n 1) (rtG (rtI iO) iK iT iN iD iTo iB iC) d [some (.o 0), x1, x2, x3, x4, x5, none] [j] = .ok (.nx, [some (.o 0), some (.t d), y2, y3, y4, y5, none]) [j'] := by
  obtain ⟨v, j1, hv, hj1, e1⟩ := take_ok (wf := 300) (pm := pm) (n := n + 1 + 1) (k := k + 8500) hT hA (hj.mono (by omega)) [] (top := 4) (by decide) (by decide)
  obtain ⟨g, j2, gl, gm, hj2, e2⟩ := kin_ok (wf := 300) (pm := pm) (n := n) (k := k + 7500) (sz := 1 + v) hK hP hT hA (hj1.mono (by omega))
  have g0 : g ≠ [] := fun z => by rw [z, List.length_nil] at gl; omega
  have g8 : g.length ≤ 8 := by rw [gl]; exact Nat.min_le_right ..
  have gk : ∀ x ∈ g, PyData.strOk x = true := fun x hx => kinds8_ok x (gm x hx)
  obtain ⟨L, j3, hL, hj3, e3⟩ := nest_ok (pm := pm) (n := n) (k := k + 4500) (sz := 5) hN hP hT hA (kin := g) ⟨g0, by omega, gk⟩ (by omega) (hj2.mono (by omega))
  obtain ⟨m, j4, hm, hj4, e4⟩ := take_ok (wf := 300) (pm := pm) (n := n + 1 + 1) (k := k + 4400) hT hA (hj3.mono (by omega)) [] (top := 15) (by decide) (by decide)
  obtain ⟨ds, j5, dl, dd, hj5, e5⟩ := deeds_ok (wf := 300) (pm := pm) (n := n) (k := k + 2400) (m := m) hD hO hT hA (g := g) (P := SOk) g0 (by omega) gk (by omega) (hj4.mono (by omega))
  obtain ⟨B, j6, hB1, hj6, e6⟩ := bars_ok (wf := 300) (pm := pm) (n := n + 1) (k := k + 1400) (top := 3) hB hT hA (by decide) hL.1 (hj5.mono (by omega))
  have hBg : ∀ b ∈ B, GOk b.1 := fun b hb => hL.2 _ (by rw [← hB1]; exact List.mem_map.mpr ⟨b, hb, rfl⟩)
  have hBl : B.length ≤ 1000 := by rw [← List.length_map (f := (·.1)), hB1]; exact hL.1
  have e7 := told_ok (wf := 300) (pm := pm) (n := n) hTo hW hI hBg hBl dd (by omega) [j6]
  have hwl := wEns_len B ds [] 0
  have hwo := wEns_ok B ds [] 0 dd
  obtain ⟨w, j7, hw, hj7, e8⟩ := take_ok (wf := 300) (pm := pm) (n := n + 1 + 1) (k := k + 1000) hT hA (hj6.mono (by omega)) [] (top := 3) (by decide) (by decide)
  have hm1 : binT .Add (.int 1) (.int (v : Int)) = some (.int ((1 + v : Nat) : Int)) := by
    rw [b_add]; congr 2
  by_cases h0 : w = 0
  · obtain ⟨l', j8, g1, g2, g3, g4⟩ := rw_go (wf := 300) (pm := pm) (n := n + 1) (iO := iO) (x1 := some (.t d)) (x2 := some (.t (grp g))) (x3 := some (.t (logT true (wEns B ds [] 0)))) (x4 := some (.t (lotsS true L))) (x5 := some (.t (.tup (ds.map ddT)))) hO hT hA (wEns B ds [] 0) k j7 hwo (hj7.mono (by omega))
    have e9 := case_ok (wf := 300) (pm := pm) hC hc hp0 hp1 hL g2 (by omega) [j8]
    exact ⟨j8, _, _, _, _, g3, turn_core (rtI iO) hj hj1 hj2 hj3 hj4 hj5 hj6 e1 hm1 e2 e3 e4 e5 e6 e7 e8 (.inl ⟨h0, rtI_core (by unfold line; omega) g4⟩) e9⟩
  · have e9 := case_ok (wf := 300) (pm := pm) hC hc hp0 hp1 hL hwo (by omega) [j7]
    exact ⟨j7, _, _, _, _, hj7.mono (by omega), turn_core (rtI iO) hj hj1 hj2 hj3 hj4 hj5 hj6 e1 hm1 e2 e3 e4 e5 e6 e7 e8 (.inr ⟨h0, rfl, rfl⟩) e9⟩
end
end Qq.Lw

set_option maxHeartbeats 400000
/-! P6: trees compared. -/
namespace Qq.Lw
open PySem L2
def atq : T → T → Bool
  | .non, .non => true
  | .bl a, .bl b => a == b
  | .int a, .int b => decide (a = b)
  | .str a, .str b => decide (a = b)
  | _, _ => false
def allq (f : T → T → Bool) : List T → List T → Bool
  | [], [] => true
  | a :: as, b :: bs => f a b && allq f as bs
  | _, _ => false
def teq : Nat → T → T → Bool
  | 0, a, b => atq a b
  | k + 1, a, b => match a, b with
    | .lst as, .lst bs => allq (teq k) as bs
    | .tup as, .tup bs => allq (teq k) as bs
    | a, b => atq a b
theorem atq_eq {a b : T} (h : atq a b = true) : a = b := by
  unfold atq at h
  split at h
  · rfl
  · rw [eq_of_beq h]
  · rw [of_decide_eq_true h]
  · rw [of_decide_eq_true h]
  · cases h
theorem allq_eq {f : T → T → Bool} (hf : ∀ a b, f a b = true → a = b) : ∀ {as bs : List T}, allq f as bs = true → as = bs
  | [], [], _ => rfl
  | [], _ :: _, h => by cases h
  | _ :: _, [], h => by cases h
  | a :: as, b :: bs, h => by
    unfold allq at h
    rw [Bool.and_eq_true] at h
    rw [hf a b h.1, allq_eq hf h.2]
theorem teq_eq : ∀ (k : Nat) {a b : T}, teq k a b = true → a = b
  | 0, a, b, h => atq_eq h
  | k + 1, a, b, h => by
    unfold teq at h
    split at h
    · rw [allq_eq (fun a b => teq_eq k) h]
    · rw [allq_eq (fun a b => teq_eq k) h]
    · exact atq_eq h
def smq (k : Nat) (g d : T) : Bool := teq k g d && pln k g
theorem smq_ok {fs : List FI} {wf : Nat} {pm : Nat → List D → List D → Option (List D)} {i : Nat} (hF : fs[i]? = some (FSame i)) {k n : Nat} {g d : T} (S : Sto) (h : smq k g d = true) : callF fs wf pm (n + 1 + k) i [.t g, .t d] S = .ok (.t (.bl true)) S := by
  unfold smq at h
  rw [Bool.and_eq_true] at h
  rw [← teq_eq k h.1]
  exact same_ok hF k n g S h.2
def isTru (r : R D) : Bool := match r with
  | .ok (.t (.bl true)) [] => true
  | _ => false
theorem isTru_ok {r : R D} (h : isTru r = true) : r = .ok (.t (.bl true)) [] := by
  unfold isTru at h
  split at h
  · rfl
  · cases h
end Qq.Lw

set_option maxHeartbeats 1000000
/-! P30: the drawn part. -/
namespace Qq.Lw
open PySem L2
section
variable {fs : List FI} {pm : Nat → List D → List D → Option (List D)}
theorem for_ok0 {wf : Nat} {cl : Nat → List D → Sto → R D} {pm : Nat → List D → List D → Option (List D)} {g : Tg} {k : IK} {l : C} {b : P} {r : Env} {S S1 S2 : Sto} {ds : List D} {is : List T} {fr : Fl × Env} (h1 : ev cl pm l r S = .ok (.l ds) S1) (h2 : srcT k (.l ds) S1 = some (none, is)) (h3 : forGo (forEl wf cl pm g b) is r S1 = .ok fr S2) :
    exec wf cl pm (.for_ g k l b) r S = .ok fr S2 := by
  rw [exec_for, h1, bind_ok', h2, opt_some', bind_ok']
  show R.bind (forGo (forEl wf cl pm g b) is r S1) _ = _
  rw [h3]
  rfl
def FRightG (p : P) : FI := ⟨1, 7, false, (.seq p (.seq (.ret (.cst (.bl true))) .nil))⟩
theorem turns {cl : Nat → List D → Sto → R D} {p : P}
    (h : ∀ (k : Nat) (j : Cl) (d : T) (x1 x2 x3 x4 x5 : Option D), JarOk (k + 9000) j → ∃ j' y2 y3 y4 y5, JarOk k j' ∧ forEl 300 cl pm (.n 1) p d [some (.o 0), x1, x2, x3, x4, x5, none] [j] = .ok (.nx, [some (.o 0), some (.t d), y2, y3, y4, y5, none]) [j']) :
    ∀ (ds : List T) (k : Nat) (j : Cl) (x1 x2 x3 x4 x5 : Option D), JarOk (k + 9000 * ds.length) j → ∃ j' r', forGo (forEl 300 cl pm (.n 1) p) ds [some (.o 0), x1, x2, x3, x4, x5, none] [j] = .ok (.nx, r') [j']
  | [], k, j, x1, x2, x3, x4, x5, _ => ⟨j, _, rfl⟩
  | d :: ds, k, j, x1, x2, x3, x4, x5, hj => by
    rw [List.length_cons] at hj
    obtain ⟨j1, y2, y3, y4, y5, hj1, e⟩ := h (k + 9000 * ds.length) j d x1 x2 x3 x4 x5 (hj.mono (by omega))
    obtain ⟨j', r', e2⟩ := turns h ds k j1 (some (.t d)) y2 y3 y4 y5 hj1
    refine ⟨j', r', ?_⟩
    unfold forGo
    rw [e]
    exact e2
theorem right_body (p : P) {cl : Nat → List D → Sto → R D} {c0 c1 : Cl} {r' : Env} (h : exec 300 cl pm p [some (.o 0), none, none, none, none, none, none] [c0] = .ok (.nx, r') [c1]) : bodyF 300 cl pm (FRightG p) [.o 0] [c0] = .ok (.t (.bl true)) [c1] := by
  unfold bodyF
  simp [FRightG, h, fin, R.cut]
theorem right_of {n iRi : Nat} {p : P} {m : Nat} (hm : m ≤ 1000) (hR : fs[iRi]? = some (FRightG (.for_ (.n 1) .r1 (.cons (.cst (.int (m : Int))) .nil) p)))
    (h : ∀ (k : Nat) (j : Cl) (d : T) (x1 x2 x3 x4 x5 : Option D), JarOk (k + 9000) j → ∃ j' y2 y3 y4 y5, JarOk k j' ∧ forEl 300 (callF fs 300 pm n) pm (.n 1) p d [some (.o 0), x1, x2, x3, x4, x5, none] [j] = .ok (.nx, [some (.o 0), some (.t d), y2, y3, y4, y5, none]) [j']) :
    RightOk (callF fs 300 pm (n + 1)) iRi := by
  intro j hj
  obtain ⟨j', r', e⟩ := turns (pm := pm) h (upT 0 m) 0 j none none none none none (hj.mono (by
    have : (upT 0 m).length = m := len_upT _ _
    rw [this]
    have : 9000 * m ≤ 9000 * 1000 := Nat.mul_le_mul_left _ hm
    have : 9000 * 1000 ≤ 2 ^ 80 := by decide
    omega))
  exact ⟨j', callF_of hR rfl (Le.refl _) (right_body _ (for_ok0 (ds := [.t (.int (m : Int))]) rfl (src_r1 m (by omega) _) e))⟩
theorem case_cl {n iSm iS iR iD iL iT iM iW iZ iI : Nat} (hSm : fs[iSm]? = some (FSame iSm)) (hS : fs[iS]? = some (FSeen iT iM iW)) (hR : fs[iR]? = some (FReas iS iM iW)) (hT : fs[iT]? = some (FTup iT)) (hM : fs[iM]? = some FMany1) (hW : fs[iW]? = some FWalk2)
    (hD : fs[iD]? = some (FDue iZ iI)) (hZ : fs[iZ]? = some FStands) (hI : fs[iI]? = some FIn16) (hL : fs[iL]? = some (FLists iL)) : CaseCl (callF fs 300 pm (n + 5)) iSm iS iR iD iL where
  sm := fun t S h => same_ok hSm 4 n t S h
  se := fun a b L l h1 h2 h3 S => seen_ok (n := n + 1) hS hT hM hW h1 h2 h3 S
  re := fun a b L l h1 h2 h3 S => reas_ok (n := n) hR hS hT hM hW h1 h2 h3 S
  du := fun L l h1 h2 h3 S => due_ok (n := n + 3) hD hZ hI h1 h2 h3 S
  li := fun t S h => lists_ok hL 2 (n + 2) t S h
end
end Qq.Lw

set_option maxHeartbeats 1000000
/-! P31: what is drawn, no two the same. -/
namespace Qq.Lw
open PySem L2
theorem srt_map {α β : Type} (le : β → β → Bool) (f : α → β) : ∀ l : List α, srtT le (l.map f) = (srtT (fun a b => le (f a) (f b)) l).map f
  | [] => rfl
  | x :: l => by
    have hi : ∀ (x : α) (l : List α), insT le (f x) (l.map f) = (insT (fun a b => le (f a) (f b)) x l).map f := by
      intro x l
      induction l with
      | nil => rfl
      | cons y r ih =>
        rw [List.map_cons]
        unfold insT
        by_cases h : le (f x) (f y) = true
        · rw [if_pos h, if_pos h]; rfl
        · rw [if_neg h, if_neg h, ih]; rfl
    rw [List.map_cons]
    unfold srtT
    rw [srt_map le f l, hi]
theorem sort_strs2 {g : List Str} (hl : g.length ≤ line) : ∃ g' : List Str, sortT (g.map T.str) = some (g'.map T.str) ∧ g'.Perm g := by
  obtain ⟨g', e, _, _⟩ := sort_strs hl
  refine ⟨srtT (fun a b => leT (.str a) (.str b)) g, ?_, srtT_perm _ _⟩
  rw [← srt_map]
  unfold sortT at e ⊢
  rw [pdL_strs] at e ⊢
  show (if _ then _ else _) = _
  have e : (if (g.map T.str).length ≤ line ∧ srtOk (g.map PyData.str) = true then some (srtT leT (g.map T.str)) else none) = some (g'.map T.str) := e
  split at e
  · rename_i h; exact if_pos h
  · cases e
theorem sort_tups2 {L : List (List Str)} (hl : L.length ≤ line) (hn : ∀ g ∈ L, g ≠ []) : ∃ L' : List (List Str), sortT (L.map tupS) = some (L'.map tupS) ∧ L'.Perm L := by
  obtain ⟨g', e, _, _⟩ := sort_tups hl hn
  refine ⟨srtT (fun a b => leT (tupS a) (tupS b)) L, ?_, srtT_perm _ _⟩
  rw [← srt_map]
  unfold sortT at e ⊢
  rw [tups_pd] at e ⊢
  show (if _ then _ else _) = _
  have e : (if (L.map tupS).length ≤ line ∧ srtOk (L.map fun g => PyData.tuple (g.map PyData.str)) = true then some (srtT leT (L.map tupS)) else none) = some (g'.map tupS) := e
  split at e
  · rename_i h; exact if_pos h
  · cases e
theorem perm_maps {α : Type} {f : α → T} {us rs : List T} {l : List α} (h : (us ++ rs).Perm (l.map f)) (hl : l.Nodup) (hf : ∀ a b, f a = f b → a = b) : ∃ g : List α, us = g.map f ∧ g.Nodup ∧ ∀ x ∈ g, x ∈ l := by
  obtain ⟨g, rfl, _, h3⟩ := maps_of (f := f) (P := fun x => x ∈ l) (r := us) fun t ht => by
    obtain ⟨x, hx, e⟩ := List.mem_map.mp (h.mem_iff.mp (List.mem_append_left _ ht))
    exact ⟨x, hx, e⟩
  refine ⟨g, rfl, ?_, h3⟩
  have n1 : (l.map f).Nodup := List.pairwise_map.mpr (hl.imp fun hne e => hne (hf _ _ e))
  have n2 := (h.nodup_iff.mpr n1)
  have n3 := (List.nodup_append.mp n2).1
  exact (List.pairwise_map.mp n3).imp fun hne e => hne (by rw [e])
theorem erase_perm {α : Type} : ∀ (l : List α) (v : Nat) (h : v < l.length), (l[v] :: l.eraseIdx v).Perm l
  | [], _, h => absurd h (Nat.not_lt_zero _)
  | x :: l, 0, _ => List.Perm.refl _
  | x :: l, v + 1, h => by
    have ih := erase_perm l v (by simpa using h)
    exact (List.Perm.swap _ _ _).trans (ih.cons x)
theorem str_inj {a b : Str} (h : T.str a = T.str b) : a = b := by cases h; rfl
theorem strs_inj : ∀ {a b : List Str}, a.map T.str = b.map T.str → a = b
  | [], [], _ => rfl
  | [], _ :: _, h => by cases h
  | _ :: _, [], h => by cases h
  | x :: a, y :: b, h => by
    rw [List.map_cons, List.map_cons] at h
    injection h with h1 h2
    rw [str_inj h1, strs_inj h2]
theorem grp_inj {a b : List Str} (h : grp a = grp b) : a = b := strs_inj (T.tup.inj h)
section
variable {fs : List FI} {wf : Nat} {pm : Nat → List D → List D → Option (List D)}
theorem pickN_loop {n iT : Nat} {cA : Int} (hF : fs[iT]? = some (FTake cA)) (hA : 0 ≤ cA ∧ cA < 2 ^ 40) {x1 x2 : Option D} {S : Sto} : ∀ (m z k : Nat) (j : Cl) (rs us : List T) (x3 : Option D), m ≤ rs.length → rs.length ≤ 1000 → us.length + m ≤ 1000 → JarOk (k + m) j →
    ∃ (j' : Cl) (x3' : Option D) (rs' us' : List T), us'.length = us.length + m ∧ (us' ++ rs').Perm (us ++ rs) ∧ JarOk k j' ∧ forGo (forEl wf (callF fs wf pm (n + 1)) pm (.n 3) (pkB iT)) (upT (z : Int) m) [some (.o 0), x1, x2, x3, some (.o (S.length + 1)), some (.o (S.length + 2))] (pS j S rs us) = .ok (.nx, [some (.o 0), x1, x2, x3', some (.o (S.length + 1)), some (.o (S.length + 2))]) (pS j' S rs' us')
  | 0, z, k, j, rs, us, x3, _, _, _, hj => ⟨j, x3, rs, us, rfl, List.Perm.refl _, hj, rfl⟩
  | m + 1, z, k, j, rs, us, x3, h1, h2, h3, hj => by
    obtain ⟨v, j1, hv, hj1, e⟩ := take_ok (wf := wf) (pm := pm) (n := n) (k := k + m) hF hA hj (S ++ [.lst rs, .lst us]) (top := (rs.length : Int)) (by omega) (by omega)
    have hv' : v < rs.length := by omega
    have ht : rs[v]? = some rs[v] := by simp [hv']
    have st := pickS_step (wf := wf) (pm := pm) (cl := callF fs wf pm (n + 1)) (S := S) (x1 := x1) (x2 := x2) (x3 := x3) (d := .int (z : Int)) hj e ht (by unfold line; omega) (by unfold line; omega)
    obtain ⟨j', x3', rs', us', g1, g2, g3, g4⟩ := pickN_loop (n := n) hF hA (x1 := x1) (x2 := x2) (S := S) m (z + 1) k j1 (rs.eraseIdx v) (us ++ [rs[v]]) (some (.t (.int (z : Int)))) (by rw [List.length_eraseIdx_of_lt hv']; omega) (by rw [List.length_eraseIdx_of_lt hv']; omega) (by rw [List.length_append, List.length_singleton]; omega) hj1
    refine ⟨j', x3', rs', us', by rw [g1, List.length_append, List.length_singleton]; omega, g2.trans ?_, g3, ?_⟩
    · rw [List.append_assoc]
      exact List.Perm.append_left us (erase_perm rs v hv')
    unfold upT forGo
    rw [st]
    simp only [R.bind_ok]
    have ez : ((z : Int) + 1) = ((z + 1 : Nat) : Int) := (Int.natCast_succ z).symm
    rw [ez]
    exact g4
/-- pick, no two the same -/
theorem pickN_ok {n iP iT k sz : Nat} {cA : Int} (hP : fs[iP]? = some (FPick iT)) (hF : fs[iT]? = some (FTake cA)) (hA : 0 ≤ cA ∧ cA < 2 ^ 40) {p : T} {ts : List T} (hp : biT .list [p] = some (.lst ts)) (hl : ts.length ≤ 1000) {j : Cl} (hj : JarOk (k + 1000) j) (S : Sto) :
    ∃ (us rs : List T) (j' : Cl), us.length = min sz ts.length ∧ (us ++ rs).Perm ts ∧ JarOk k j' ∧ callF fs wf pm (n + 1 + 1) iP [.o 0, .t p, .t (.int (sz : Int))] (j :: S) = .ok (.t (.lst us)) (j' :: S) := by
  have hm : min sz ts.length ≤ ts.length := Nat.min_le_right ..
  have z0 : ((0 : Nat) : Int) = 0 := rfl
  obtain ⟨j', x3', rs', us', g1, g2, g3, g4⟩ := pickN_loop (wf := wf) (pm := pm) (n := n) hF hA (x1 := some (.t p)) (x2 := some (.t (.int (sz : Int)))) (S := S) (min sz ts.length) 0 k j ts [] none hm hl (by simp; omega) (hj.mono (by omega))
  have hr : ∀ S : Sto, srcT .r1 (.l [.t (.int ((min sz ts.length : Nat) : Int))]) S = some (none, upT ((0 : Nat) : Int) (min sz ts.length)) := fun S => src_r1 _ (by omega) S
  have s0 : see (j :: S) (.o 0) = .o 0 := hj.see S
  have o1 : own true (.lst ts) (j :: S) = .ok (.o (S.length + 1)) (j :: S ++ [.lst ts]) := rfl
  have o2 : own true (.lst []) (j :: S ++ [.lst ts]) = .ok (.o (S.length + 2)) (pS j S ts []) := by
    show R.ok (D.o (j :: S ++ [Cl.lst ts]).length) (j :: S ++ [Cl.lst ts] ++ [.lst []]) = _
    simp [pS]
  have f2 : fin false (j :: S).length (.ret (.o (S.length + 2))) (pS j' S rs' us') = .ok (.t (.lst us')) (j' :: S) := by
    rw [fin_o, if_neg (by rw [List.length_cons]; omega)]
    simp [pS]
  rw [z0] at g4 hr
  have hT : List.take ((j :: S).length + 1) (j' :: S) = j' :: S := List.take_of_length_le (by simp)
  have s1 := ps_see1 j S ts []
  have r1 := ps_rd1 j S ts []
  have s2 := ps_see2 j' S rs' us'
  refine ⟨us', rs', j', by rw [g1]; simp, by simpa using g2, g3, callF_of hP rfl (Le.refl _) ?_⟩
  generalize callF fs wf pm (n + 1) = cl at *
  generalize j :: S = S0 at *
  generalize j' :: S = S1 at *
  unfold bodyF
  simp -implicitDefEqProofs [FPick, hp, o1, o2, s1, r1, b_len, min_it, hr, g4, s2, f2, R.cut, hT]
theorem kinN_ok {n iK iP iT k sz : Nat} {cA : Int} (hK : fs[iK]? = some (FKin iP)) (hP : fs[iP]? = some (FPick iT)) (hF : fs[iT]? = some (FTake cA)) (hA : 0 ≤ cA ∧ cA < 2 ^ 40) {j : Cl} (hj : JarOk (k + 1000) j) :
    ∃ g j', g.length = min sz 8 ∧ (∀ x ∈ g, x ∈ kinds8) ∧ g.Nodup ∧ JarOk k j' ∧ callF fs wf pm (n + 1 + 1 + 1) iK [.o 0, .t (.int (sz : Int))] [j] = .ok (.t (tupS g)) [j'] := by
  obtain ⟨us, rs, j', h1, h2, h3, e⟩ := pickN_ok (wf := wf) (pm := pm) (n := n) (sz := sz) hP hF hA (b_lst (kinds8.map T.str)) (by decide) hj []
  obtain ⟨g, rfl, g2, g3⟩ := perm_maps h2 (by decide +kernel) (fun a b => str_inj)
  rw [List.length_map, List.length_map] at h1
  obtain ⟨g', e1, e2⟩ := sort_strs2 (g := g) (by
    have : g.length ≤ 8 := by rw [h1]; exact Nat.min_le_right ..
    unfold line; omega)
  exact ⟨g', j', by rw [e2.length_eq, h1]; rfl, fun x hx => g3 x (e2.mem_iff.mp hx), e2.nodup_iff.mpr g2, h3, callF_of hK rfl (Le.refl _) (kin_core hj e e1)⟩
end
end Qq.Lw

set_option maxHeartbeats 1000000
/-! P32: nest, no two groups the same. -/
namespace Qq.Lw
open PySem L2
/-- F: groups that are drawn, E: lots that are still to be parted -/
structure NI (F E : List (List Str)) : Prop where
  nd : F.Nodup
  out : ∀ f ∈ F, ∀ g ∈ E, ∃ x ∈ f, x ∉ g
  one : ∀ g ∈ E, g.Nodup ∧ g ≠ []
  dis : E.Pairwise fun a b => ∀ x ∈ a, x ∉ b
theorem NI.pop {F E : List (List Str)} {g : List Str} (h : NI F (E ++ [g])) : NI F E ∧ (∀ e ∈ E, ∀ x ∈ e, x ∉ g) :=
  ⟨⟨h.nd, fun f hf e he => h.out f hf e (List.mem_append_left _ he), fun e he => h.one e (List.mem_append_left _ he), (List.pairwise_append.mp h.dis).1⟩,
    fun e he => (List.pairwise_append.mp h.dis).2.2 e he g (List.mem_singleton.mpr rfl)⟩
/-- it is put to the groups, or not -/
theorem NI.put {F E : List (List Str)} {g g' : List Str} (h : NI F (E ++ [g])) (hp : g'.Perm g) : NI (F ++ [g']) E := by
  have hg : g ≠ [] := (h.one g (by simp)).2
  obtain ⟨h1, h2⟩ := h.pop
  refine ⟨?_, fun f hf e he => ?_, h1.one, h1.dis⟩
  · refine List.nodup_append.mpr ⟨h.nd, by simp, fun a ha b hb e => ?_⟩
    rw [List.mem_singleton.mp hb] at e
    obtain ⟨x, hx, hx2⟩ := h.out a ha g (by simp)
    rw [e] at hx
    exact hx2 (hp.mem_iff.mp hx)
  · rcases List.mem_append.mp hf with hf | hf
    · exact h1.out f hf e he
    · rw [List.mem_singleton.mp hf]
      cases g with
      | nil => exact absurd rfl hg
      | cons y r =>
        exact ⟨y, hp.mem_iff.mpr List.mem_cons_self, fun hy => h2 e he y hy List.mem_cons_self⟩
/-- what is parted -/
theorem NI.split {F F' E : List (List Str)} {g : List Str} {m : Nat} (h : NI F (E ++ [g])) (h' : NI F' E) (hF : F' = F ∨ ∃ g' : List Str, g'.Perm g ∧ F' = F ++ [g']) (h1 : 0 < m) (h2 : m < g.length) : NI F' (E ++ [g.take m, g.drop m]) := by
  obtain ⟨q1, q2⟩ := h.pop
  have gn := (h.one g (by simp)).1
  have hd : ∀ x ∈ g.take m, x ∉ g.drop m := by
    have := gn
    rw [← List.take_append_drop m g] at this
    exact fun x hx hy => (List.nodup_append.mp this).2.2 x hx x hy rfl
  have l1 : (g.take m).length = m := by rw [List.length_take]; omega
  have l2 : (g.drop m).length = g.length - m := List.length_drop
  have n1 : g.take m ≠ [] := fun z => by rw [z, List.length_nil] at l1; omega
  have n2 : g.drop m ≠ [] := fun z => by rw [z, List.length_nil] at l2; omega
  have big : ∀ f : List Str, f ∈ F' → ∀ e : List Str, (∀ x ∈ e, x ∈ g) → (∃ y ∈ g, y ∉ e) → ∃ x ∈ f, x ∉ e := by
    intro f hf e he hy
    have old : f ∈ F → ∃ x ∈ f, x ∉ e := fun hf => by
      obtain ⟨x, hx, hx2⟩ := h.out f hf g (by simp)
      exact ⟨x, hx, fun z => hx2 (he x z)⟩
    rcases hF with rfl | ⟨g', hp, rfl⟩
    · exact old hf
    · rcases List.mem_append.mp hf with hf | hf
      · exact old hf
      · rw [List.mem_singleton.mp hf]
        obtain ⟨y, hy1, hy2⟩ := hy
        exact ⟨y, hp.mem_iff.mpr hy1, hy2⟩
  refine ⟨h'.nd, fun f hf e he => ?_, fun e he => ?_, ?_⟩
  · rcases List.mem_append.mp he with he | he
    · exact h'.out f hf e he
    · simp only [List.mem_cons, List.not_mem_nil, or_false] at he
      rcases he with rfl | rfl
      · refine big f hf _ (fun x hx => List.mem_of_mem_take hx) ?_
        obtain ⟨y, r, hr⟩ := List.exists_cons_of_ne_nil n2
        have hy : y ∈ g.drop m := by rw [hr]; exact List.mem_cons_self
        exact ⟨y, List.mem_of_mem_drop hy, fun z => hd y z hy⟩
      · refine big f hf _ (fun x hx => List.mem_of_mem_drop hx) ?_
        obtain ⟨y, r, hr⟩ := List.exists_cons_of_ne_nil n1
        have hy : y ∈ g.take m := by rw [hr]; exact List.mem_cons_self
        exact ⟨y, List.mem_of_mem_take hy, fun z => hd y hy z⟩
  · rcases List.mem_append.mp he with he | he
    · exact h'.one e he
    · simp only [List.mem_cons, List.not_mem_nil, or_false] at he
      rcases he with rfl | rfl
      · exact ⟨gn.sublist (List.take_sublist m g), n1⟩
      · exact ⟨gn.sublist (List.drop_sublist m g), n2⟩
  · refine List.pairwise_append.mpr ⟨h'.dis, ?_, fun a ha b hb x hx => ?_⟩
    · refine List.pairwise_cons.mpr ⟨fun b hb x hx => ?_, List.pairwise_singleton _ _⟩
      rw [List.mem_singleton.mp hb]; exact hd x hx
    · simp only [List.mem_cons, List.not_mem_nil, or_false] at hb
      have := q2 a ha x hx
      rcases hb with rfl | rfl
      · exact fun z => this (List.mem_of_mem_take z)
      · exact fun z => this (List.mem_of_mem_drop z)
section
variable {fs : List FI} {wf : Nat} {pm : Nat → List D → List D → Option (List D)}
theorem nestN_step {n iT k : Nat} {cA : Int} (hF : fs[iT]? = some (FTake cA)) (hA : 0 ≤ cA ∧ cA < 2 ^ 40) {j : Cl} (hj : JarOk (k + 2) j) {F : List (List Str)} (hFl : F.length ≤ 1000) (hFo : ∀ g ∈ F, LotOk g) {O : Sto} {E : List (List Str)} (hE : E.length ≤ 1000) (hEo : ∀ g ∈ E, LotOk g) {g : List Str} (hg : LotOk g) (ni : NI F (E ++ [g])) {x1 x2 x5 x6 : Option D} :
    ∃ (j' : Cl) (F' : List (List Str)) (O' : Sto) (E' : List (List Str)) (y5 y6 : Option D), JarOk k j' ∧ F'.length ≤ F.length + 1 ∧ (∀ g ∈ F', LotOk g) ∧ (∀ g ∈ E', LotOk g) ∧ msr E' + 1 = msr E + (2 * g.length - 1) ∧ NI F' E' ∧
      exec wf (callF fs wf pm (n + 1)) pm (nB iT) [some (.o 0), x1, x2, some (.o 1), some (.o (O.length + 2)), x5, x6] (nS j F O (E ++ [g])) = .ok (.nx, [some (.o 0), x1, x2, some (.o 1), some (.o (O'.length + 2)), y5, y6]) (nS j' F' O' E') := by
  obtain ⟨v, j1, hv, hj1, e1⟩ := ns_take (wf := wf) (pm := pm) (n := n) (k := k + 1) hF hA hj (F := F) (O := O) (E := E) (top := 3) (by omega) (by omega)
  have hgl := List.length_pos_iff.mpr hg.1
  obtain ⟨g', hs, hp'⟩ := sort_strs2 (g := g) (by have := hg.2.1; unfold line; omega)
  have hl' := hp'.length_eq
  have hm' : ∀ x ∈ g', x ∈ g := fun x hx => hp'.mem_iff.mp hx
  have hg' : LotOk g' := ⟨fun z => by rw [z] at hl'; rw [List.length_nil] at hl'; omega, by rw [GOk, hl']; exact ⟨hg.2.1, fun x hx => hg.2.2 x (hm' x hx)⟩⟩
  have eA := nA_ok (wf := wf) (pm := pm) (cl := callF fs wf pm (n + 1)) hj (F := F) (by unfold line; omega) (O := O) (E := E) hs (x1 := x1) (x2 := x2) (x6 := x6) e1
  obtain ⟨F', hF'⟩ : ∃ F', F' = (if 0 < v then F ++ [g'] else F) := ⟨_, rfl⟩
  have qF : F' = F ∨ ∃ g' : List Str, g'.Perm g ∧ F' = F ++ [g'] := by
    rw [hF']; split
    · exact .inr ⟨g', hp', rfl⟩
    · exact .inl rfl
  have qN : NI F' E := by
    rcases qF with e | ⟨g2, hp2, e⟩
    · rw [e]; exact ni.pop.1
    · rw [e]; exact ni.put hp2
  have q1 : F'.length ≤ F.length + 1 := by
    rw [hF']; split
    · rw [List.length_append, List.length_singleton]; exact Nat.le_refl _
    · omega
  have q2 : ∀ g ∈ F', LotOk g := by
    rw [hF']; split
    · intro x hx
      rcases List.mem_append.mp hx with hx | hx
      · exact hFo x hx
      · rw [List.mem_singleton.mp hx]; exact hg'
    · exact hFo
  rw [← hF'] at eA
  have ep := ns_pop j F O E g
  have s4 := ns_see j F O (E ++ [g])
  have r4 := ns_rd j F O (E ++ [g])
  by_cases h1 : g.length = 1
  · have eC := nC_no (wf := wf) (pm := pm) (cl := callF fs wf pm (n + 1)) (iT := iT) (S := nS j1 F' O E) h1 (x0 := some (.o 0)) (x1 := x1) (x2 := x2) (x3 := some (.o 1)) (x4 := some (.o (O.length + 2))) (x6 := x6)
    refine ⟨j1, F', O, E, some (.t (lotL g)), x6, hj1.mono (by omega), q1, q2, hEo, by omega, qN, ?_⟩
    generalize callF fs wf pm (n + 1) = cl at *
    simp -implicitDefEqProofs [-List.map_append, nB, s4, r4, mi_pop, ep, eA, eC]
  · obtain ⟨u, j2, hu, hj2, e2⟩ := ns_take (wf := wf) (pm := pm) (n := n) (k := k) hF hA hj1 (F := F') (O := O) (E := E) (top := (g.length : Int) - 1) (by omega) (by have := hg.2.1; omega)
    obtain ⟨m, hm⟩ : ∃ m, m = 1 + u := ⟨_, rfl⟩
    have eC := nC_yes (wf := wf) (pm := pm) (cl := callF fs wf pm (n + 1)) (iT := iT) hj1 (F := F') (O := O) (E := E) (by unfold line; omega) (g := g) (by omega) hm (x1 := x1) (x2 := x2) (x3 := some (.o 1)) (x6 := x6) e2
    have hm1 : 0 < m := by omega
    have hm2 : m < g.length := by omega
    have l1 : (g.take m).length = m := by rw [List.length_take]; omega
    have l2 : (g.drop m).length = g.length - m := List.length_drop
    have o1 : LotOk (g.take m) := ⟨fun z => by rw [z, List.length_nil] at l1; omega, by rw [l1]; have := hg.2.1; omega, fun x hx => hg.2.2 x (List.mem_of_mem_take hx)⟩
    have o2 : LotOk (g.drop m) := ⟨fun z => by rw [z, List.length_nil] at l2; omega, by rw [l2]; have := hg.2.1; omega, fun x hx => hg.2.2 x (List.mem_of_mem_drop hx)⟩
    refine ⟨j2, F', O ++ [.lst (E.map lotL)], E ++ [g.take m, g.drop m], some (.t (lotL g)), some (.t (.int (m : Int))), hj2, q1, q2, fun x hx => ?_, ?_, ni.split qN qF hm1 hm2, ?_⟩
    · rcases List.mem_append.mp hx with hx | hx
      · exact hEo x hx
      · simp only [List.mem_cons, List.not_mem_nil, or_false] at hx
        rcases hx with rfl | rfl
        · exact o1
        · exact o2
    · rw [msr_app]
      show msr E + ((2 * (g.take m).length - 1) + ((2 * (g.drop m).length - 1) + 0)) + 1 = _
      rw [l1, l2]; omega
    · generalize callF fs wf pm (n + 1) = cl at *
      simp -implicitDefEqProofs [-List.map_append, -List.length_append, nB, s4, r4, mi_pop, ep, eA, eC]
theorem nestN_loop {n iT : Nat} {cA : Int} (hF : fs[iT]? = some (FTake cA)) (hA : 0 ≤ cA ∧ cA < 2 ^ 40) {x1 x2 : Option D} : ∀ (m k : Nat) (j : Cl) (F : List (List Str)) (O : Sto) (E : List (List Str)) (x5 x6 : Option D),
    msr E < m → m ≤ 500 → JarOk (k + 2 * m) j → F.length + m ≤ 1000 → (∀ g ∈ F, LotOk g) → (∀ g ∈ E, LotOk g) → NI F E →
    ∃ (j' : Cl) (F' : List (List Str)) (O' : Sto) (y4 y5 y6 : Option D), JarOk k j' ∧ F'.length ≤ F.length + m ∧ (∀ g ∈ F', LotOk g) ∧ F'.Nodup ∧
      whlGo (tst (callF fs wf pm (n + 1)) pm nT) (exec wf (callF fs wf pm (n + 1)) pm (nB iT)) m [some (.o 0), x1, x2, some (.o 1), some (.o (O.length + 2)), x5, x6] (nS j F O E) = .ok (.nx, [some (.o 0), x1, x2, some (.o 1), y4, y5, y6]) (nS j' F' O' [])
  | 0, _, _, _, _, _, _, _, h, _, _, _, _, _, _ => absurd h (Nat.not_lt_zero _)
  | m + 1, k, j, F, O, E, x5, x6, h1, h2, hj, h3, hFo, hEo, ni => by
    have hEl := len_msr E hEo
    have ht : tst (callF fs wf pm (n + 1)) pm nT [some (.o 0), x1, x2, some (.o 1), some (.o (O.length + 2)), x5, x6] (nS j F O E) = .ok (!E.isEmpty) (nS j F O E) := by
      have s4 := ns_see j F O E
      have r4 := ns_rd j F O E
      have hn := lots_ne hEo (by omega)
      generalize callF fs wf pm (n + 1) = cl at *
      simp -implicitDefEqProofs [tst, nT, s4, r4, hn, trL]
    rcases List.eq_nil_or_concat E with rfl | ⟨E0, g, rfl⟩
    · refine ⟨j, F, O, some (.o (O.length + 2)), x5, x6, hj.mono (by omega), by omega, hFo, ni.nd, ?_⟩
      unfold whlGo
      rw [ht]
      rfl
    · rw [List.concat_eq_append] at *
      have hg : LotOk g := hEo g (by simp)
      have hE0 : ∀ g ∈ E0, LotOk g := fun x hx => hEo x (List.mem_append_left _ hx)
      have hl0 : E0.length ≤ 1000 := by rw [List.length_append] at hEl; omega
      obtain ⟨j1, F1, O1, E1, y5, y6, a1, a2, a3, a4, a5, ni1, a6⟩ := nestN_step (wf := wf) (pm := pm) (n := n) (k := k + 2 * m) hF hA (hj.mono (by omega)) (F := F) (by omega) hFo (O := O) hl0 hE0 hg ni (x1 := x1) (x2 := x2) (x5 := x5) (x6 := x6)
      have hms : msr (E0 ++ [g]) = msr E0 + (2 * g.length - 1) := by rw [msr_app]; rfl
      obtain ⟨j', F', O', z4, z5, z6, b1, b2, b3, bn, b4⟩ := nestN_loop (n := n) hF hA (x1 := x1) (x2 := x2) m k j1 F1 O1 E1 y5 y6 (by omega) (by omega) a1 (by omega) a3 a4 ni1
      refine ⟨j', F', O', z4, z5, z6, b1, by omega, b3, bn, ?_⟩
      unfold whlGo
      rw [ht]
      have hne : (!(E0 ++ [g]).isEmpty) = true := by cases E0 <;> rfl
      rw [hne]
      simp only [R.bind_ok]
      rw [a6]
      exact b4
theorem nestN_ok {n iN iP iT k sz : Nat} {cA : Int} (hN : fs[iN]? = some (FNest iP iT)) (hP : fs[iP]? = some (FPick iT)) (hF : fs[iT]? = some (FTake cA)) (hA : 0 ≤ cA ∧ cA < 2 ^ 40) {kin : List Str} (hk : LotOk kin) (hkn : kin.Nodup) (hl : kin.length ≤ 100) {j : Cl} (hj : JarOk (k + 3000) j) :
    ∃ (L : List (List Str)) (j' : Cl), LOk L ∧ L.Nodup ∧ L.length ≤ sz ∧ (∀ g ∈ L, g ≠ []) ∧ JarOk k j' ∧ callF fs 300 pm (n + 1 + 1 + 1) iN [.o 0, .t (grp kin), .t (.int (sz : Int))] [j] = .ok (.t (lotsS true L)) [j'] := by
  obtain ⟨us, rs, j1, a1, a2, a3, a4⟩ := pickN_ok (wf := 300) (pm := pm) (n := n) (k := k + 2000) (sz := kin.length) hP hF hA (p := grp kin) (ts := kin.map T.str) rfl (by rw [List.length_map]; omega) (hj.mono (by omega)) [.lst []]
  obtain ⟨g, rfl, g2, g3⟩ := perm_maps a2 hkn (fun a b => str_inj)
  have gl : g.length = kin.length := by rw [List.length_map, List.length_map, Nat.min_self] at a1; exact a1
  have hkl := List.length_pos_iff.mpr hk.1
  have hg : LotOk g := ⟨fun z => by rw [z, List.length_nil] at gl; omega, by omega, fun x hx => hk.2.2 x (g3 x hx)⟩
  have hm : msr [g] < 300 := by
    show (2 * g.length - 1) + 0 < 300
    omega
  obtain ⟨j2, F, O, y4, y5, y6, b1, b2, b3, bn, b4⟩ := nestN_loop (wf := 300) (pm := pm) (n := n + 1) (x1 := some (.t (grp kin))) (x2 := some (.t (.int (sz : Int)))) hF hA 300 (k + 1000) j1 [] [] [g] none none hm (by omega) (a3.mono (by omega)) (by rw [List.length_nil]; omega) (fun x hx => nomatch hx) (fun x hx => by rw [List.mem_singleton.mp hx]; exact hg)
    ⟨List.nodup_nil, fun x hx => (nomatch hx), fun x hx => by rw [List.mem_singleton.mp hx]; exact ⟨g2, hg.1⟩, List.pairwise_singleton _ _⟩
  rw [List.length_nil] at b2
  obtain ⟨ws, rs2, j3, c1, c2, c3, c4⟩ := pickN_ok (wf := 300) (pm := pm) (n := n) (k := k) (sz := sz) hP hF hA (p := .lst (F.map grp)) (ts := F.map grp) rfl (by rw [List.length_map]; omega) b1 (.gon (.lst (F.map grp)) :: O ++ [.lst []])
  obtain ⟨L, rfl, L2, L3⟩ := perm_maps c2 bn (fun a b => grp_inj)
  rw [List.length_map, List.length_map] at c1
  obtain ⟨L', e1, e2⟩ := sort_tups2 (L := L) (by
    have : L.length ≤ F.length := by rw [c1]; exact Nat.min_le_right ..
    unfold line; omega) (fun x hx => (b3 x (L3 x hx)).1)
  refine ⟨L', j3, ⟨by
    have : L.length ≤ F.length := by rw [c1]; exact Nat.min_le_right ..
    rw [e2.length_eq]; omega, fun x hx => (b3 x (L3 x (e2.mem_iff.mp hx))).2⟩, e2.nodup_iff.mpr L2, by rw [e2.length_eq, c1]; exact Nat.min_le_left .., fun x hx => (b3 x (L3 x (e2.mem_iff.mp hx))).1, c3, ?_⟩
  have hlen : biT .len [grp kin] = some (.int (kin.length : Nat)) := by
    show some (T.int ((kin.map T.str).length : Nat)) = _
    rw [List.length_map]
  exact callF_of hN rfl (Le.refl _) (nest_core hj a3 b1 hlen a4 b4 c4 e1)
end
end Qq.Lw

set_option maxHeartbeats 1000000
/-! P33: which lots tell a log (no program in sight). -/
namespace Qq.Lw
open PySem L2
theorem sm_ge {rs : List Hd} {h : Hd} (hm : h ∈ rs) (g : List Str) : ((cnt h g : Nat) : Int) ≤ sm rs g := by
  cases rs with
  | nil => cases hm
  | cons r rs =>
    have k := foldl_max_le (rs.map fun h => ((cnt h g : Nat) : Int)) ((cnt r g : Nat) : Int)
    show _ ≤ (rs.map fun h => ((cnt h g : Nat) : Int)).foldl max ((cnt r g : Nat) : Int)
    rcases List.mem_cons.mp hm with rfl | hm
    · exact k.1
    · exact k.2.1 _ (List.mem_map.mpr ⟨h, hm, rfl⟩)
theorem sm_at {rs : List Hd} (hr : rs ≠ []) (g : List Str) : ∃ h ∈ rs, sm rs g = ((cnt h g : Nat) : Int) := by
  cases rs with
  | nil => exact absurd rfl hr
  | cons r rs =>
    have k := foldl_max_le (rs.map fun h => ((cnt h g : Nat) : Int)) ((cnt r g : Nat) : Int)
    rcases k.2.2 with e | e
    · exact ⟨r, List.mem_cons_self, e⟩
    · obtain ⟨h, hm, e2⟩ := List.mem_map.mp e
      exact ⟨h, List.mem_cons_of_mem _ hm, e2.symm⟩
def smN (rs : List Hd) (g : List Str) : Nat := (sm rs g).toNat
theorem smN_eq {rs : List Hd} (hr : rs ≠ []) (g : List Str) : ((smN rs g : Nat) : Int) = sm rs g := by
  obtain ⟨h, _, e⟩ := sm_at hr g
  unfold smN
  rw [e]; rfl
theorem rows_ne (l : List En) : rows l ≠ [] := fun e => by have := rows_len l; rw [e] at this; simp at this
/-- the groups that can tell a refusal -/
def whyL (rs : List Hd) (L : List (List Str)) (h : Hd) (w : Str) : List (List Str) := L.filter (pick1 rs h w)
def whys (rs : List Hd) (L : List (List Str)) : List En → Hd → Int → List (List (List Str))
  | [], _, _ => []
  | .out w :: l, h, j => whyL rs L h w :: whys rs L l h (j + 1)
  | .inn w :: l, h, j => whys rs L l (h ++ [(j, w)]) (j + 1)
  | .go i :: l, h, j => whys rs L l (h.filter fun p => !decide (p.1 = i)) j
def lotT (p : List (List Str)) : T := .tup (p.map grp)
theorem reas_eq (rs : List Hd) (L : List (List Str)) : ∀ (l : List En) (h : Hd) (j : Int), reas rs L l h j = (whys rs L l h j).map lotT
  | [], _, _ => rfl
  | .out w :: l, h, j => by
    show reaT rs L h w :: reas rs L l h (j + 1) = _
    rw [reas_eq rs L l]; rfl
  | .inn w :: l, h, j => by
    show reas rs L l (h ++ [(j, w)]) (j + 1) = _
    rw [reas_eq rs L l]; rfl
  | .go i :: l, h, j => by
    show reas rs L l (h.filter fun p => !decide (p.1 = i)) j = _
    rw [reas_eq rs L l]; rfl
/-- the bars of a lot -/
def barsOf (rs : List Hd) (p : List (List Str)) : List Bar := p.map fun g => (g, smN rs g)
/-- the states of a log -/
def stt (l : List En) (h : Hd) (j : Int) : List Hd := pres l h j ++ [lastH l h j]
theorem stt_head (l : List En) (h : Hd) (j : Int) : h ∈ stt l h j := by
  cases l with
  | nil => exact List.mem_singleton.mpr rfl
  | cons e l => exact List.mem_cons_self
theorem stt_cons (e : En) (l : List En) (h : Hd) (j : Int) : stt (e :: l) h j = h :: stt l (nxt h j e) (adv j e) := rfl
theorem cnt_snoc (h : Hd) (j : Int) (w : Str) (g : List Str) : cnt (h ++ [(j, w)]) g = cnt h g + if inG g w then 1 else 0 := by
  unfold cnt
  rw [List.filter_append, List.length_append]
  cases hb : inG g w <;> simp [hb]
theorem stops_ne {B : List Bar} {h : Hd} {w : Str} : (stops B h w).isEmpty = false ↔ ∃ b ∈ B, stopB h w b = true := by
  unfold stops
  constructor
  · intro e
    cases hq : B.filter (stopB h w) with
    | nil => rw [hq] at e; cases e
    | cons b r =>
      have : b ∈ B.filter (stopB h w) := by rw [hq]; exact List.mem_cons_self
      exact ⟨b, (List.mem_filter.mp this).1, (List.mem_filter.mp this).2⟩
  · rintro ⟨b, hb, e⟩
    have : b ∈ B.filter (stopB h w) := List.mem_filter.mpr ⟨hb, e⟩
    cases hq : B.filter (stopB h w) with
    | nil => rw [hq] at this; cases this
    | cons b r => rfl
theorem wEns_cons (B : List Bar) (d : Dd) (ds : List Dd) (h : Hd) (j : Int) : wEns B (d :: ds) h j = wEn B h d :: wEns B ds (wNext B h j d) (wAdv j d) := rfl
/-- a lot tells the log just if it has one of the groups of each refusal -/
theorem told_iff {rs : List Hd} (hr : rs ≠ []) {L p : List (List Str)} (hp : ∀ g ∈ p, g ∈ L) {B0 : List Bar} : ∀ (ds : List Dd) (h : Hd) (j : Int), (∀ x ∈ stt (wEns B0 ds h j) h j, x ∈ rs) →
    (wEns (barsOf rs p) ds h j = wEns B0 ds h j ↔ ∀ ws ∈ whys rs L (wEns B0 ds h j) h j, ∃ g ∈ ws, g ∈ p)
  | [], h, j, _ => ⟨(fun _ ws hw => nomatch hw), fun _ => rfl⟩
  | .go i :: ds, h, j, hs => by
    have hs' : ∀ x ∈ stt (wEns B0 ds (h.filter fun q => !decide (q.1 = (i : Int))) j) (h.filter fun q => !decide (q.1 = (i : Int))) j, x ∈ rs := fun x hx => hs x (List.mem_cons_of_mem _ hx)
    have ih := told_iff hr hp (B0 := B0) ds _ _ hs'
    show (En.go i :: wEns (barsOf rs p) ds (h.filter fun q => !decide (q.1 = (i : Int))) j = En.go i :: wEns B0 ds (h.filter fun q => !decide (q.1 = (i : Int))) j ↔ ∀ ws ∈ whys rs L (wEns B0 ds (h.filter fun q => !decide (q.1 = (i : Int))) j) (h.filter fun q => !decide (q.1 = (i : Int))) j, ∃ g ∈ ws, g ∈ p)
    rw [← ih]
    exact ⟨fun e => (List.cons.inj e).2, fun e => by rw [e]⟩
  | .come w :: ds, h, j, hs => by
    have hh : h ∈ rs := hs h (stt_head _ _ _)
    cases h0 : (stops B0 h w).isEmpty with
    | true =>
      have e0 : wEns B0 (.come w :: ds) h j = .inn w :: wEns B0 ds (h ++ [(j, w)]) (j + 1) := by
        show (if (stops B0 h w).isEmpty then En.inn w else .out w) :: wEns B0 ds (if (stops B0 h w).isEmpty then h ++ [(j, w)] else h) (j + 1) = _
        rw [h0]; rfl
      rw [e0] at hs ⊢
      have hs' : ∀ x ∈ stt (wEns B0 ds (h ++ [(j, w)]) (j + 1)) (h ++ [(j, w)]) (j + 1), x ∈ rs := fun x hx => hs x (List.mem_cons_of_mem _ hx)
      have hn : h ++ [(j, w)] ∈ rs := hs' _ (stt_head _ _ _)
      have hz : (stops (barsOf rs p) h w).isEmpty = true := by
        cases hq : (stops (barsOf rs p) h w).isEmpty with
        | true => rfl
        | false =>
          obtain ⟨b, hb, e⟩ := stops_ne.mp hq
          obtain ⟨g, hg, rfl⟩ := List.mem_map.mp hb
          unfold stopB at e
          rw [Bool.and_eq_true] at e
          have e2 : smN rs g ≤ cnt h g := of_decide_eq_true e.2
          have k := sm_ge hn g
          rw [cnt_snoc, e.1, ← smN_eq hr] at k
          simp at k
          omega
      have e1 : wEns (barsOf rs p) (.come w :: ds) h j = .inn w :: wEns (barsOf rs p) ds (h ++ [(j, w)]) (j + 1) := by
        show (if (stops (barsOf rs p) h w).isEmpty then En.inn w else .out w) :: wEns (barsOf rs p) ds (if (stops (barsOf rs p) h w).isEmpty then h ++ [(j, w)] else h) (j + 1) = _
        rw [hz]; rfl
      rw [e1]
      have ih := told_iff hr hp (B0 := B0) ds _ _ hs'
      show _ ↔ ∀ ws ∈ whys rs L (wEns B0 ds (h ++ [(j, w)]) (j + 1)) (h ++ [(j, w)]) (j + 1), ∃ g ∈ ws, g ∈ p
      rw [← ih]
      exact ⟨fun e => (List.cons.inj e).2, fun e => by rw [e]⟩
    | false =>
      have e0 : wEns B0 (.come w :: ds) h j = .out w :: wEns B0 ds h (j + 1) := by
        show (if (stops B0 h w).isEmpty then En.inn w else .out w) :: wEns B0 ds (if (stops B0 h w).isEmpty then h ++ [(j, w)] else h) (j + 1) = _
        rw [h0]; rfl
      rw [e0] at hs ⊢
      have hs' : ∀ x ∈ stt (wEns B0 ds h (j + 1)) h (j + 1), x ∈ rs := fun x hx => hs x (List.mem_cons_of_mem _ hx)
      have ih := told_iff hr hp (B0 := B0) ds _ _ hs'
      show _ ↔ ∀ ws ∈ whyL rs L h w :: whys rs L (wEns B0 ds h (j + 1)) h (j + 1), ∃ g ∈ ws, g ∈ p
      have key : (stops (barsOf rs p) h w).isEmpty = false ↔ ∃ g ∈ whyL rs L h w, g ∈ p := by
        rw [stops_ne]
        constructor
        · rintro ⟨b, hb, e⟩
          obtain ⟨g, hg, rfl⟩ := List.mem_map.mp hb
          unfold stopB at e
          rw [Bool.and_eq_true] at e
          have e2 : smN rs g ≤ cnt h g := of_decide_eq_true e.2
          have k := sm_ge hh g
          refine ⟨g, List.mem_filter.mpr ⟨hp g hg, ?_⟩, hg⟩
          unfold pick1
          have e1 : inG g w = true := e.1
          rw [e1, Bool.true_and]
          rw [← smN_eq hr] at k ⊢
          exact decide_eq_true (by omega)
        · rintro ⟨g, hg, hgp⟩
          obtain ⟨_, e⟩ := List.mem_filter.mp hg
          unfold pick1 at e
          rw [Bool.and_eq_true] at e
          have e2 := of_decide_eq_true e.2
          rw [← smN_eq hr] at e2
          refine ⟨(g, smN rs g), List.mem_map.mpr ⟨g, hgp, rfl⟩, ?_⟩
          unfold stopB
          have e1 : inG g w = true := e.1
          rw [e1, Bool.true_and]
          exact decide_eq_true (show smN rs g ≤ cnt h g by omega)
      cases hq : (stops (barsOf rs p) h w).isEmpty with
      | true =>
        have e1 : wEns (barsOf rs p) (.come w :: ds) h j = .inn w :: wEns (barsOf rs p) ds (h ++ [(j, w)]) (j + 1) := by
          show (if (stops (barsOf rs p) h w).isEmpty then En.inn w else .out w) :: wEns (barsOf rs p) ds (if (stops (barsOf rs p) h w).isEmpty then h ++ [(j, w)] else h) (j + 1) = _
          rw [hq]; rfl
        rw [e1]
        constructor
        · intro e
          exact nomatch (List.cons.inj e).1
        · intro e
          have := key.mpr (e _ List.mem_cons_self)
          rw [hq] at this; cases this
      | false =>
        have e1 : wEns (barsOf rs p) (.come w :: ds) h j = .out w :: wEns (barsOf rs p) ds h (j + 1) := by
          show (if (stops (barsOf rs p) h w).isEmpty then En.inn w else .out w) :: wEns (barsOf rs p) ds (if (stops (barsOf rs p) h w).isEmpty then h ++ [(j, w)] else h) (j + 1) = _
          rw [hq]; rfl
        rw [e1]
        constructor
        · intro e ws hw
          rcases List.mem_cons.mp hw with rfl | hw
          · exact key.mp hq
          · exact ih.mp (List.cons.inj e).2 ws hw
        · intro e
          rw [ih.mpr fun ws hw => e ws (List.mem_cons_of_mem _ hw)]
/-- no state of a Book's log breaks its bars -/
theorem kept {B0 : List Bar} : ∀ (ds : List Dd) (h : Hd) (j : Int), (∀ b ∈ B0, cnt h b.1 ≤ b.2) → ∀ x ∈ stt (wEns B0 ds h j) h j, ∀ b ∈ B0, cnt x b.1 ≤ b.2
  | [], h, j, hk, x, hx, b, hb => by
    rw [List.mem_singleton.mp hx]; exact hk b hb
  | d :: ds, h, j, hk, x, hx, b, hb => by
    rcases List.mem_cons.mp hx with rfl | hx
    · exact hk b hb
    · cases d with
      | go i =>
        refine kept ds (h.filter fun q => !decide (q.1 = (i : Int))) j (fun b hb => ?_) x hx b hb
        have : cnt (h.filter fun q => !decide (q.1 = (i : Int))) b.1 ≤ cnt h b.1 := by
          unfold cnt
          exact (List.Sublist.filter _ List.filter_sublist).length_le
        have := hk b hb
        omega
      | come w =>
        cases h0 : (stops B0 h w).isEmpty with
        | true =>
          have e0 : wEns B0 (.come w :: ds) h j = .inn w :: wEns B0 ds (h ++ [(j, w)]) (j + 1) := by
            show (if (stops B0 h w).isEmpty then En.inn w else .out w) :: wEns B0 ds (if (stops B0 h w).isEmpty then h ++ [(j, w)] else h) (j + 1) = _
            rw [h0]; rfl
          have hx : x ∈ stt (wEns B0 ds (wNext B0 h j (.come w)) (j + 1)) (nxt h j (wEn B0 h (.come w))) (adv j (wEn B0 h (.come w))) := hx
          have e1 : wNext B0 h j (.come w) = h ++ [(j, w)] := by
            show (if (stops B0 h w).isEmpty then h ++ [(j, w)] else h) = _
            rw [h0]; rfl
          have e2 : wEn B0 h (.come w) = .inn w := by
            show (if (stops B0 h w).isEmpty then En.inn w else .out w) = _
            rw [h0]; rfl
          rw [e1, e2] at hx
          refine kept ds (h ++ [(j, w)]) (j + 1) (fun b hb => ?_) x hx b hb
          rw [cnt_snoc]
          have k := hk b hb
          split
          · rename_i hi
            have : ¬ stopB h w b = true := fun e => by
              have := stops_ne.mpr ⟨b, hb, e⟩
              rw [h0] at this; cases this
            unfold stopB at this
            rw [hi, Bool.true_and, decide_eq_true_eq] at this
            omega
          · omega
        | false =>
          have hx : x ∈ stt (wEns B0 ds (wNext B0 h j (.come w)) (j + 1)) (nxt h j (wEn B0 h (.come w))) (adv j (wEn B0 h (.come w))) := hx
          have e1 : wNext B0 h j (.come w) = h := by
            show (if (stops B0 h w).isEmpty then h ++ [(j, w)] else h) = _
            rw [h0]; rfl
          have e2 : wEn B0 h (.come w) = .out w := by
            show (if (stops B0 h w).isEmpty then En.inn w else .out w) = _
            rw [h0]; rfl
          rw [e1, e2] at hx
          exact kept ds h (j + 1) hk x hx b hb
/-- each refusal of a Book has a group -/
theorem whys_ne {rs : List Hd} {L : List (List Str)} {B0 : List Bar} (hL : ∀ b ∈ B0, b.1 ∈ L) (hk : ∀ x ∈ rs, ∀ b ∈ B0, cnt x b.1 ≤ b.2) (hr : rs ≠ []) : ∀ (ds : List Dd) (h : Hd) (j : Int), (∀ x ∈ stt (wEns B0 ds h j) h j, x ∈ rs) → ∀ ws ∈ whys rs L (wEns B0 ds h j) h j, ws ≠ []
  | [], h, j, _, ws, hw => nomatch hw
  | .go i :: ds, h, j, hs, ws, hw => whys_ne hL hk hr ds (h.filter fun q => !decide (q.1 = (i : Int))) j (fun x hx => hs x (List.mem_cons_of_mem _ hx)) ws hw
  | .come w :: ds, h, j, hs, ws, hw => by
    have hh : h ∈ rs := hs h (stt_head _ _ _)
    cases h0 : (stops B0 h w).isEmpty with
    | true =>
      have e0 : wEns B0 (.come w :: ds) h j = .inn w :: wEns B0 ds (h ++ [(j, w)]) (j + 1) := by
        show (if (stops B0 h w).isEmpty then En.inn w else .out w) :: wEns B0 ds (if (stops B0 h w).isEmpty then h ++ [(j, w)] else h) (j + 1) = _
        rw [h0]; rfl
      rw [e0] at hs hw
      exact whys_ne hL hk hr ds (h ++ [(j, w)]) (j + 1) (fun x hx => hs x (List.mem_cons_of_mem _ hx)) ws hw
    | false =>
      have e0 : wEns B0 (.come w :: ds) h j = .out w :: wEns B0 ds h (j + 1) := by
        show (if (stops B0 h w).isEmpty then En.inn w else .out w) :: wEns B0 ds (if (stops B0 h w).isEmpty then h ++ [(j, w)] else h) (j + 1) = _
        rw [h0]; rfl
      rw [e0] at hs hw
      rcases List.mem_cons.mp hw with rfl | hw
      · obtain ⟨b, hb, e⟩ := stops_ne.mp h0
        unfold stopB at e
        rw [Bool.and_eq_true] at e
        have e2 : b.2 ≤ cnt h b.1 := of_decide_eq_true e.2
        obtain ⟨x, hx, hx2⟩ := sm_at hr b.1
        have k1 := hk x hx b hb
        have k2 := sm_ge hh b.1
        have : b.1 ∈ whyL rs L h w := by
          refine List.mem_filter.mpr ⟨hL b hb, ?_⟩
          unfold pick1
          have e1 : inG b.1 w = true := e.1
          rw [e1, Bool.true_and]
          exact decide_eq_true (by omega)
        exact fun z => by rw [z] at this; cases this
      · exact whys_ne hL hk hr ds h (j + 1) (fun x hx => hs x (List.mem_cons_of_mem _ hx)) ws hw
end Qq.Lw

set_option maxHeartbeats 1000000
/-! P34: lots of groups, as data. -/
namespace Qq.Lw
open PySem L2
/-! ### all lots -/
def subG {α : Type} (acc : List (List α)) : List α → List (List α)
  | [] => acc
  | g :: r => subG (acc ++ acc.map (· ++ [g])) r
def subs {α : Type} (L : List α) : List (List α) := subG [[]] L
theorem subG_mem {α : Type} : ∀ (L : List α) (acc : List (List α)) (p : List α), p ∈ subG acc L → ∃ a ∈ acc, ∃ q : List α, q.Sublist L ∧ p = a ++ q
  | [], acc, p, h => ⟨p, h, [], List.Sublist.slnil, by simp⟩
  | g :: r, acc, p, h => by
    obtain ⟨a, ha, q, hq, rfl⟩ := subG_mem r _ p h
    rcases List.mem_append.mp ha with ha | ha
    · exact ⟨a, ha, q, hq.cons g, rfl⟩
    · obtain ⟨b, hb, rfl⟩ := List.mem_map.mp ha
      exact ⟨b, hb, g :: q, hq.cons₂ g, by simp⟩
theorem subs_mem {α : Type} {L p : List α} (h : p ∈ subs L) : p.Sublist L := by
  obtain ⟨a, ha, q, hq, rfl⟩ := subG_mem L _ p h
  rw [List.mem_singleton.mp ha, List.nil_append]; exact hq
theorem subG_full {α : Type} : ∀ (L : List α) (acc : List (List α)) (a : List α), a ∈ acc → a ++ L ∈ subG acc L
  | [], acc, a, h => by rw [List.append_nil]; exact h
  | g :: r, acc, a, h => by
    have := subG_full r (acc ++ acc.map (· ++ [g])) (a ++ [g]) (List.mem_append_right _ (List.mem_map.mpr ⟨a, h, rfl⟩))
    rw [List.append_assoc] at this
    exact this
theorem subs_full {α : Type} (L : List α) : L ∈ subs L := subG_full L [[]] [] (List.mem_singleton.mpr rfl)
theorem subG_len {α : Type} : ∀ (L : List α) (acc : List (List α)), (subG acc L).length = acc.length * 2 ^ L.length
  | [], acc => by show acc.length = acc.length * 2 ^ 0; omega
  | g :: r, acc => by
    show (subG (acc ++ acc.map (· ++ [g])) r).length = _
    rw [subG_len r, List.length_append, List.length_map, List.length_cons, Nat.pow_succ, ← Nat.two_mul, Nat.mul_comm 2, Nat.mul_assoc, Nat.mul_comm 2]
theorem subs_len {α : Type} {L : List α} (h : L.length ≤ 8) : (subs L).length ≤ 256 := by
  unfold subs
  rw [subG_len, List.length_singleton, Nat.one_mul]
  exact Nat.pow_le_pow_right (by decide) h
/-! ### data -/
theorem pdg_pln {k : Nat} {t : T} (h : pln k t = true) (hk : k ≤ 60) : t.pd = some t.pdg ∧ SeqAt.shaped t.pdg = true := by
  obtain ⟨p, h1, h2, h3⟩ := pd_ok k t h
  have e : t.pdg = p := by unfold T.pdg; rw [h1]; rfl
  rw [e]
  refine ⟨h1, ?_⟩
  unfold SeqAt.shaped; rw [h2]; simp; omega
theorem inT_pln {k : Nat} {x : T} {es : List T} (hk : k ≤ 60) (hx : pln k x = true) (he : ∀ e ∈ es, pln k e = true) : inT x es = some (es.any fun z => PyData.eqv z.pdg x.pdg) := by
  obtain ⟨h1, h2⟩ := pdg_pln hx hk
  have hl : T.pdL es = some (es.map T.pdg) := pdL_of fun d hd => ⟨_, (pdg_pln (he d hd) hk).1⟩
  have hc : PyData.canLayAll0 (es.map T.pdg) = true := by
    clear hl
    induction es with
    | nil => rfl
    | cons e es ih =>
      have h3 := (pdg_pln (he e List.mem_cons_self) hk).2
      unfold SeqAt.shaped at h3
      rw [Bool.and_eq_true] at h3
      rw [List.map_cons]
      unfold PyData.canLayAll0
      rw [h3.1, ih fun e h => he e (List.mem_cons_of_mem _ h)]; rfl
  unfold inT
  rw [h1, hl]
  simp only [shB_eq, canBs_eq, h2, hc, Bool.and_self, if_true, List.any_map]
  rfl
theorem eqT_pln {k : Nat} {x y : T} (hk : k ≤ 60) (hx : pln k x = true) (hy : pln k y = true) : eqT x y = some (PyData.eqv x.pdg y.pdg) := by
  obtain ⟨h1, h2⟩ := pdg_pln hx hk
  obtain ⟨h3, h4⟩ := pdg_pln hy hk
  unfold eqT
  rw [h1, h3]
  simp [shB_eq, h2, h4]
theorem eqv_strs : ∀ a b : List Str, PyData.eqvAll (a.map PyData.str) (b.map PyData.str) = decide (a = b)
  | [], [] => rfl
  | [], _ :: _ => rfl
  | _ :: _, [] => rfl
  | x :: a, y :: b => by
    rw [List.map_cons, List.map_cons]
    unfold PyData.eqvAll PyData.eqv
    rw [eqv_strs a b]
    by_cases h : x = y
    · subst h; simp
    · have : (x == y) = false := by simpa using h
      simp [h, this]
theorem grp_pdg (g : List Str) : (grp g).pdg = .tuple (g.map PyData.str) := by
  unfold T.pdg
  have : (grp g).pd = _ := tupS_pd g
  rw [this]; rfl
theorem eqv_grp (a b : List Str) : PyData.eqv (grp a).pdg (grp b).pdg = decide (a = b) := by
  rw [grp_pdg, grp_pdg]
  unfold PyData.eqv
  exact eqv_strs a b
theorem lot_pdg (p : List (List Str)) : (lotT p).pdg = .tuple (p.map fun g => .tuple (g.map PyData.str)) := by
  unfold T.pdg
  have : (lotT p).pd = some (.tuple (p.map fun g => .tuple (g.map PyData.str))) := by
    show (match T.pdL (p.map tupS) with
      | some ps => some (PyData.tuple ps)
      | none => none) = _
    rw [tups_pd]
  rw [this]; rfl
theorem eqv_lots : ∀ p q : List (List Str), PyData.eqvAll (p.map fun g => .tuple (g.map PyData.str)) (q.map fun g => .tuple (g.map PyData.str)) = decide (p = q)
  | [], [] => rfl
  | [], _ :: _ => rfl
  | _ :: _, [] => rfl
  | x :: a, y :: b => by
    rw [List.map_cons, List.map_cons]
    unfold PyData.eqvAll PyData.eqv
    rw [eqv_lots a b, eqv_strs]
    by_cases h : x = y
    · subst h; simp
    · simp [h]
theorem eqv_lot (p q : List (List Str)) : PyData.eqv (lotT p).pdg (lotT q).pdg = decide (p = q) := by
  rw [lot_pdg, lot_pdg]
  unfold PyData.eqv
  exact eqv_lots p q
theorem pln_lotT {p : List (List Str)} (h : LOk p) : pln 2 (lotT p) = true := pln_lots (b := true) h
theorem any_mem {α β : Type} (f : α → β) (e : β → β → Bool) (he : ∀ a b, e (f a) (f b) = true ↔ a = b) (x : α) (l : List α) [Decidable (x ∈ l)] : ((l.map f).any fun z => e z (f x)) = decide (x ∈ l) := by
  rw [Bool.eq_iff_iff, List.any_eq_true, decide_eq_true_iff]
  constructor
  · rintro ⟨z, hz, h⟩
    obtain ⟨y, hy, rfl⟩ := List.mem_map.mp hz
    rw [← (he y x).mp h]; exact hy
  · intro h
    exact ⟨f x, List.mem_map.mpr ⟨x, h, rfl⟩, (he x x).mpr rfl⟩
theorem pln_g {g : List Str} (h : GOk g) : pln 1 (grp g) = true := pln_grp (b := true) h
theorem inT_grp {g : List Str} {p : List (List Str)} (hg : GOk g) (hp : LOk p) : inT (grp g) (p.map grp) = some (decide (g ∈ p)) := by
  rw [inT_pln (k := 1) (by decide) (pln_g hg) fun e he => by
    obtain ⟨x, hx, rfl⟩ := List.mem_map.mp he
    exact pln_g (hp.2 x hx)]
  exact congrArg some (any_mem grp (fun a b => PyData.eqv a.pdg b.pdg) (fun a b => by rw [eqv_grp]; exact decide_eq_true_iff) g p)
theorem inT_lot {p : List (List Str)} {Q : List (List (List Str))} (hp : LOk p) (hQ : ∀ q ∈ Q, LOk q) : inT (lotT p) (Q.map lotT) = some (decide (p ∈ Q)) := by
  rw [inT_pln (k := 2) (by decide) (pln_lotT hp) fun e he => by
    obtain ⟨x, hx, rfl⟩ := List.mem_map.mp he
    exact pln_lotT (hQ x hx)]
  exact congrArg some (any_mem lotT (fun a b => PyData.eqv a.pdg b.pdg) (fun a b => by rw [eqv_lot]; exact decide_eq_true_iff) p Q)
theorem lotT_inj {p q : List (List Str)} (h : lotT p = lotT q) : p = q := by
  have := eqv_lot p q
  rw [h] at this
  have h2 := eqv_lot q q
  rw [h2] at this
  simpa using this.symm
theorem sub_ok {L p : List (List Str)} (hL : LOk L) (h : p.Sublist L) : LOk p := ⟨Nat.le_trans h.length_le hL.1, fun g hg => hL.2 g (h.subset hg)⟩
/-! ### lots by how many groups they have -/
def pairT (p : List (List Str)) : T := .tup [.int (p.length : Nat), lotT p]
theorem pair_pd (p : List (List Str)) : (pairT p).pd = some (.tuple [.int (p.length : Nat), (lotT p).pdg]) := by
  have h : (lotT p).pd = some (lotT p).pdg := by
    rw [lot_pdg]
    show (match T.pdL (p.map tupS) with
      | some ps => some (PyData.tuple ps)
      | none => none) = _
    rw [tups_pd]
  unfold pairT T.pd T.pdL T.pdL T.pdL
  rw [h]
  rfl
theorem pair_pdg (p : List (List Str)) : (pairT p).pdg = .tuple [.int (p.length : Nat), (lotT p).pdg] := by
  unfold T.pdg
  rw [pair_pd]; rfl
theorem alike_lots : ∀ p q : List (List Str), PySem.W.alikeAll (p.map fun g => PyData.tuple (g.map PyData.str)) (q.map fun g => PyData.tuple (g.map PyData.str)) = true
  | [], _ => by unfold PySem.W.alikeAll; rfl
  | x :: g, [] => by unfold PySem.W.alikeAll; rfl
  | x :: g, y :: g' => by
    rw [List.map_cons, List.map_cons]
    unfold PySem.W.alikeAll
    rw [alike_lots g g']
    unfold PySem.W.alike
    rw [alikeAll_strs]; rfl
theorem alike_pair (p q : List (List Str)) : PySem.W.alike (pairT p).pdg (pairT q).pdg = true := by
  rw [pair_pdg, pair_pdg, lot_pdg, lot_pdg]
  unfold PySem.W.alike PySem.W.alikeAll
  have h1 : PySem.W.alike (.int (p.length : Nat)) (.int (q.length : Nat)) = true := by unfold PySem.W.alike; rfl
  rw [h1]
  unfold PySem.W.alikeAll PySem.W.alike
  rw [alike_lots]
  unfold PySem.W.alikeAll
  rfl
theorem depth_pair (p : List (List Str)) : (pairT p).pdg.depth ≤ 4 := by
  have h : (lotT p).pdg.depth ≤ 3 := by
    rw [lot_pdg]
    have := depthAll_le (n := 2) (p.map fun g => PyData.tuple (g.map PyData.str)) fun q hq => by
      obtain ⟨x, _, rfl⟩ := List.mem_map.mp hq
      have := depth_strs x
      unfold PyData.depth
      omega
    unfold PyData.depth
    omega
  rw [pair_pdg]
  have := depthAll_le (n := 3) [PyData.int (p.length : Nat), (lotT p).pdg] fun q hq => by
    simp only [List.mem_cons, List.not_mem_nil, or_false] at hq
    rcases hq with rfl | rfl
    · unfold PyData.depth; omega
    · exact h
  unfold PyData.depth
  omega
theorem le_pair {p q : List (List Str)} (h : leT (pairT p) (pairT q) = true) : p.length ≤ q.length := by
  unfold leT at h
  rw [pair_pdg, pair_pdg] at h
  have h1 : PySem.W.alike (.int (q.length : Nat)) (.int (p.length : Nat)) = true := by unfold PySem.W.alike; rfl
  have h2 : PySem.W.alike (lotT q).pdg (lotT p).pdg = true := by
    rw [lot_pdg, lot_pdg]
    unfold PySem.W.alike
    exact alike_lots q p
  rw [PySem.W.dataLt_pair h1 h2] at h
  by_cases hle : p.length ≤ q.length
  · exact hle
  · exfalso
    have h3 : PyData.eqv (.int ((q.length : Nat) : Int)) (.int ((p.length : Nat) : Int)) = false := by
      unfold PyData.eqv
      simp
      omega
    rw [h3, if_neg (by decide), PySem.W.dataLt_int] at h
    have : decide (((q.length : Nat) : Int) < ((p.length : Nat) : Int)) = true := decide_eq_true (by omega)
    rw [this] at h
    cases h
theorem sort_lots {ps : List (List (List Str))} (hl : ps.length ≤ line) : ∃ A : List (List (List Str)), sortT (ps.map pairT) = some (A.map pairT) ∧ A.Perm ps ∧ A.Pairwise fun a b => a.length ≤ b.length := by
  have hp : T.pdL (ps.map pairT) = some (ps.map fun p => (pairT p).pdg) := by
    rw [pdL_of fun d hd => by
      obtain ⟨p, _, rfl⟩ := List.mem_map.mp hd
      exact ⟨_, pair_pd p⟩, List.map_map]
    rfl
  have hs : srtOk (ps.map fun p => (pairT p).pdg) = true := by
    unfold srtOk
    rw [Bool.and_eq_true, Bool.and_eq_true, Bool.or_eq_true]
    refine ⟨⟨List.all_eq_true.mpr fun p hp => List.all_eq_true.mpr fun q hq => ?_, .inl (List.all_eq_true.mpr fun p hp => ?_)⟩, List.all_eq_true.mpr fun p hp => ?_⟩
    · obtain ⟨x, _, rfl⟩ := List.mem_map.mp hp
      obtain ⟨y, _, rfl⟩ := List.mem_map.mp hq
      exact alike_pair x y
    · obtain ⟨x, hx, rfl⟩ := List.mem_map.mp hp
      rw [pair_pdg]; rfl
    · obtain ⟨x, _, rfl⟩ := List.mem_map.mp hp
      refine decide_eq_true ?_
      have := depth_pair x
      omega
  refine ⟨srtT (fun a b => leT (pairT a) (pairT b)) ps, ?_, srtT_perm _ _, ?_⟩
  · unfold sortT
    rw [hp]
    show (if _ then _ else _) = _
    rw [if_pos ⟨by rw [List.length_map]; exact hl, hs⟩, srt_map]
  · have := srtT_sorted (fun a b : List (List Str) => leT (pairT a) (pairT b)) (fun x y => leT_tot (pairT x) (pairT y)) (fun x y z h1 h2 => leT_tr (pairT x) (pairT y) (pairT z) h1 h2) ps
    exact this.imp fun h => le_pair h
end Qq.Lw

set_option maxHeartbeats 1000000
/-! P35: does a log fit; all lots. -/
namespace Qq.Lw
open PySem L2
theorem go_map {α : Type} {f h : α → T} {F : T → Sto → R (Option T)} {S : Sto} : ∀ xs : List α, (∀ x ∈ xs, F (f x) S = .ok (some (h x)) S) → compGo F (xs.map f) S = .ok (xs.map h) S
  | [], _ => rfl
  | x :: xs, e => by
    rw [List.map_cons, List.map_cons]
    exact compGo_c (o := some _) (e x List.mem_cons_self) (go_map xs fun y hy => e y (List.mem_cons_of_mem _ hy))
theorem go_flt {α : Type} {f h : α → T} {b : α → Bool} {F : T → Sto → R (Option T)} {S : Sto} : ∀ xs : List α, (∀ x ∈ xs, F (f x) S = .ok (if b x then some (h x) else none) S) → compGo F (xs.map f) S = .ok ((xs.filter b).map h) S
  | [], _ => rfl
  | x :: xs, e => by
    have ih := go_flt (b := b) (h := h) xs fun y hy => e y (List.mem_cons_of_mem _ hy)
    have e1 := e x List.mem_cons_self
    rw [List.map_cons]
    cases hb : b x with
    | true =>
      rw [hb] at e1
      rw [List.filter_cons_of_pos hb, List.map_cons]
      exact compGo_c (o := some _) e1 ih
    | false =>
      rw [hb] at e1
      rw [List.filter_cons_of_neg (by rw [hb]; decide)]
      exact compGo_c (o := none) e1 ih
theorem trL_pre (ts : List T) (es : List D) : trL (ts.map D.t ++ es) = (trL es).map fun us => ts ++ us := trL_app es ts
theorem its_tup (ts : List T) : T.its (.tup ts) = some ts := rfl
theorem its_lst (ts : List T) : T.its (.lst ts) = some ts := rfl
theorem src_cell (k : IK) (S : Sto) (xs is : List T) (h : itT k [.lst xs] = some is) (hl : is.length ≤ line) : srcT k (.l [.o S.length]) (S ++ [.lst xs]) = some (some S.length, is) := by
  refine src_of rfl ?_ hl
  have r : rd (S ++ [Cl.lst xs]) (.o S.length) = some (.lst xs) := rd_e S xs
  show (match rd (S ++ [Cl.lst xs]) (.o S.length), rdL (S ++ [Cl.lst xs]) [] with
    | some t, some ts => some (t :: ts)
    | _, _ => none).bind _ = _
  rw [r]
  exact h
theorem lock_e (S : Sto) (c : Cl) (h : c.gonB = false) : lockS (some S.length) (S ++ [c]) = S ++ [.lck c] := by
  unfold lockS
  cases c <;> simp_all [Cl.gonB]
theorem unlock_e (S S0 : Sto) (c c' : Cl) (h : c.gonB = false) : unlockS (some S.length) (S ++ [c]) (S ++ [c']) = S ++ [c] := by
  unfold unlockS
  cases c <;> simp_all [Cl.gonB]
section
variable {fs : List FI} {wf : Nat} {pm : Nat → List D → List D → Option (List D)}
def FUnfit (iR : Nat) : FI := ⟨2, 5, false, (.seq (.asg (.n 2) (.comp false [3, 4] (.cons (.n 3) (.cons (.n 4) .nil)) .enum (.cons (.call iR (.cons (.var 0) (.cons (.var 1) .nil))) .nil) (.cmp .Eq (.bi false .len (.cons (.var 4) .nil)) (.cst (.int 0))) (.var 3))) (.seq (.ret (.ife (.cmp .Gt (.bi false .len (.cons (.var 2) .nil)) (.cst (.int 0))) (.idx (.var 2) (.cst (.int 0))) (.cst .non))) .nil))⟩
def FFits (iU : Nat) : FI := ⟨2, 2, false, (.seq (.ret (.cmp .Is (.call iU (.cons (.var 0) (.cons (.var 1) .nil))) (.cst .non))) .nil)⟩
def FCheck (iF : Nat) : FI := ⟨2, 2, false, (.seq (.ite (.notV (.tru (.call iF (.cons (.var 0) (.cons (.var 1) .nil))))) (.seq .never .nil) .nil) .nil)⟩
theorem unfit_go {cl : Nat → List D → Sto → R D} {x0 x1 x2 : Option D} {S : Sto} : ∀ (W : List (List (List Str))) (k : Nat), (∀ ws ∈ W, ws ≠ []) →
    compGo (compEl cl pm [3, 4] (.cons (.n 3) (.cons (.n 4) .nil)) (.cmp .Eq (.bi false .len (.cons (.var 4) .nil)) (.cst (.int 0))) (.var 3) [x0, x1, x2, none, none]) (enumT k (W.map lotT)) S = .ok [] S
  | [], _, _ => rfl
  | ws :: W, k, h => by
    have ih := unfit_go (cl := cl) (x0 := x0) (x1 := x1) (x2 := x2) (S := S) W (k + 1) fun w hw => h w (List.mem_cons_of_mem _ hw)
    have hn := List.length_pos_iff.mpr (h ws List.mem_cons_self)
    have hl : biT .len [lotT ws] = some (.int (ws.length : Nat)) := by
      show some (T.int ((ws.map grp).length : Nat)) = _
      rw [List.length_map]
    have h0 : ¬ ((ws.length : Int) = 0) := by omega
    rw [List.map_cons]
    unfold enumT
    refine compGo_c (o := none) (compEl_ff (r' := [x0, x1, x2, some (.t (.int (k : Nat))), some (.t (lotT ws))]) rfl ?_ (take_len S)) ih
    have hne := h ws List.mem_cons_self
    simp -implicitDefEqProofs [hl, c_eq, h0, hne]
theorem unfit_ok {n iU iR : Nat} (hU : fs[iU]? = some (FUnfit iR)) {tr lg : T} {W : List (List (List Str))} (hW : ∀ ws ∈ W, ws ≠ []) (hl : W.length ≤ line)
    (hr : ∀ S : Sto, callF fs wf pm n iR [.t tr, .t lg] S = .ok (.o S.length) (S ++ [.lst (W.map lotT)])) (S : Sto) :
    callF fs wf pm (n + 1) iU [.t tr, .t lg] S = .ok (.t .non) S := by
  have hs := src_cell .enum S (W.map lotT) (enumT 0 (W.map lotT)) rfl (by rw [len_enumT, List.length_map]; exact hl)
  have h1 := lock_e S (.lst (W.map lotT)) rfl
  have h2 := unlock_e S S (.lst (W.map lotT)) (.lck (.lst (W.map lotT))) rfl
  refine callF_of hU rfl (Le.refl _) ?_
  generalize callF fs wf pm n = cl at *
  have h3 := unfit_go (pm := pm) (cl := cl) (x0 := some (.t tr)) (x1 := some (.t lg)) (x2 := none) (S := S ++ [.lck (.lst (W.map lotT))]) W 0 hW
  unfold bodyF
  simp -implicitDefEqProofs [FUnfit, hr, hs, h1, h2, h3, b_len, c_gt, fin, R.cut, take_len1, take_len]
theorem fits_ok {n iF iU : Nat} (hF : fs[iF]? = some (FFits iU)) {tr lg : T} (h : ∀ S : Sto, callF fs wf pm n iU [.t tr, .t lg] S = .ok (.t .non) S) (S : Sto) :
    callF fs wf pm (n + 1) iF [.t tr, .t lg] S = .ok (.t (.bl true)) S := by
  refine callF_of hF rfl (Le.refl _) ?_
  generalize callF fs wf pm n = cl at *
  unfold bodyF
  simp -implicitDefEqProofs [FFits, h, is1, fin, R.cut, take_len1, take_len]
theorem check_ok {n iC iF : Nat} (hC : fs[iC]? = some (FCheck iF)) {tr lg : T} (h : ∀ S : Sto, callF fs wf pm n iF [.t tr, .t lg] S = .ok (.t (.bl true)) S) (S : Sto) :
    callF fs wf pm (n + 1) iC [.t tr, .t lg] S = .ok (.t .non) S := by
  refine callF_of hC rfl (Le.refl _) ?_
  generalize callF fs wf pm n = cl at *
  unfold bodyF
  simp -implicitDefEqProofs [FCheck, h, tr_bl, fin, R.cut, take_len1, take_len]
/-! ### all lots -/
def lB8 : P := (.seq (.asg (.n 1) (.lst false (.spl (.var 1) (.spl (.comp false [4] (.n 4) .seq (.cons (.var 1) .nil) (.cst (.bl true)) (.tup (.spl (.var 4) (.cons (.var 2) .nil)))) .nil)))) .nil)
def FAll : FI := ⟨1, 5, false, (.seq (.asg (.n 1) (.lst false (.cons (.tup .nil) .nil))) (.seq (.for_ (.n 2) .seq (.cons (.var 0) .nil) lB8) (.seq (.ret (.comp false [3, 4] (.cons (.n 3) (.cons (.n 4) .nil)) .seq (.cons (.bi false .sorted (.cons (.comp false [4] (.n 4) .seq (.cons (.var 1) .nil) (.cst (.bl true)) (.tup (.cons (.frz (.bi false .len (.cons (.var 4) .nil))) (.cons (.var 4) .nil)))) .nil)) .nil) (.cst (.bl true)) (.var 4))) .nil)))⟩
theorem lot_snoc (p : List (List Str)) (g : List Str) : T.tup (p.map grp ++ [grp g]) = lotT (p ++ [g]) := by
  unfold lotT
  rw [List.map_append]; rfl
theorem all_go {cl : Nat → List D → Sto → R D} {x0 x1 x3 : Option D} {g : List Str} {S : Sto} (acc : List (List (List Str))) (hl : ∀ p ∈ acc, p.length + 1 ≤ line) :
    compGo (compEl cl pm [4] (.n 4) (.cst (.bl true)) (.tup (.spl (.var 4) (.cons (.var 2) .nil))) [x0, x1, some (.t (grp g)), x3, none]) (acc.map lotT) S = .ok ((acc.map (· ++ [g])).map lotT) S := by
  rw [List.map_map]
  refine go_map acc fun p hp => ?_
  refine compEl_tt (r' := [x0, x1, some (.t (grp g)), x3, some (.t (lotT p))]) rfl rfl ?_ (take_len S)
  have hi : T.its (lotT p) = some (p.map grp) := rfl
  have ht : (p.map grp ++ [grp g]).length ≤ line := by rw [List.length_append, List.length_map, List.length_singleton]; exact hl p hp
  have hs := lot_snoc p g
  have htr : ∀ es : List D, trL (List.map D.t (p.map grp) ++ es) = (trL es).map fun us => p.map grp ++ us := fun es => trL_pre _ _
  have h1 := hl p hp
  simp -implicitDefEqProofs [-List.map_map, hi, htr, trL, hs, Function.comp, h1]
theorem all_step {cl : Nat → List D → Sto → R D} {x0 x2 x3 : Option D} {g : List Str} {S : Sto} (acc : List (List (List Str))) (hl : ∀ p ∈ acc, p.length + 1 ≤ line) (ha : acc.length + acc.length ≤ line) :
    forEl wf cl pm (.n 2) lB8 (grp g) [x0, some (.t (.lst (acc.map lotT))), x2, x3, none] S = .ok (.nx, [x0, some (.t (.lst ((acc ++ acc.map (· ++ [g])).map lotT))), some (.t (grp g)), x3, none]) S := by
  have hs : ∀ S, srcT .seq (.l [.t (.lst (acc.map lotT))]) S = some (none, acc.map lotT) := fun S => src_lst S (by rw [List.length_map]; omega)
  have hg := all_go (pm := pm) (cl := cl) (x0 := x0) (x1 := some (.t (.lst (acc.map lotT)))) (x3 := x3) (g := g) (S := S) acc hl
  have ht1 : ∀ es : List D, trL (List.map D.t (acc.map lotT) ++ es) = (trL es).map fun us => acc.map lotT ++ us := fun es => trL_pre _ _
  have ht2 : ∀ es : List D, trL (List.map D.t ((acc.map (· ++ [g])).map lotT) ++ es) = (trL es).map fun us => (acc.map (· ++ [g])).map lotT ++ us := fun es => trL_pre _ _
  have h3 : (acc ++ acc.map (· ++ [g])).length ≤ line := by rw [List.length_append, List.length_map]; exact ha
  have h4 : (acc.map lotT ++ (acc.map (· ++ [g])).map lotT) = (acc ++ acc.map (· ++ [g])).map lotT := List.map_append.symm
  generalize acc.map (· ++ [g]) = acc2 at *
  generalize hA : acc.map lotT = A at *
  generalize hB : acc2.map lotT = B at *
  have ht3 : trL (List.map D.t B) = some B := by
    have := ht2 []
    rw [List.append_nil] at this
    rw [this]
    simp [trL]
  have e0 : own false (.lst B) S = .ok (.t (.lst B)) S := rfl
  have e1 : own false (.lst (A ++ B)) S = .ok (.t (.lst (A ++ B))) S := rfl
  simp -implicitDefEqProofs [-List.map_append, -List.length_append, forEl, lB8, hs, hg, its_lst, ht1, ht3, trL, h3, h4]
theorem all_loop {cl : Nat → List D → Sto → R D} {x0 x3 : Option D} {S : Sto} : ∀ (L : List (List Str)) (acc : List (List (List Str))) (m : Nat) (x2 : Option D), (∀ p ∈ acc, p.length ≤ m) → m + L.length ≤ 100 → acc.length * 2 ^ L.length ≤ line →
    ∃ y2, forGo (forEl wf cl pm (.n 2) lB8) (L.map grp) [x0, some (.t (.lst (acc.map lotT))), x2, x3, none] S = .ok (.nx, [x0, some (.t (.lst ((subG acc L).map lotT))), y2, x3, none]) S
  | [], acc, m, x2, _, _, _ => ⟨x2, rfl⟩
  | g :: L, acc, m, x2, h1, h2, h3 => by
    rw [List.length_cons] at h2 h3
    have h4 : (acc.length + acc.length) * 2 ^ L.length ≤ line := by
      rw [Nat.pow_succ, Nat.mul_comm (2 ^ _), ← Nat.mul_assoc] at h3
      rw [← Nat.mul_two]; exact h3
    have h5 : acc.length + acc.length ≤ line := Nat.le_trans (Nat.le_mul_of_pos_right _ (Nat.pow_pos (by decide))) h4
    have st := all_step (wf := wf) (pm := pm) (cl := cl) (x0 := x0) (x2 := x2) (x3 := x3) (g := g) (S := S) acc (fun p hp => by have := h1 p hp; unfold line; omega) h5
    obtain ⟨y2, ih⟩ := all_loop (cl := cl) (x0 := x0) (x3 := x3) (S := S) L (acc ++ acc.map (· ++ [g])) (m + 1) (some (.t (grp g))) (fun p hp => by
      rcases List.mem_append.mp hp with hp | hp
      · have := h1 p hp; omega
      · obtain ⟨q, hq, rfl⟩ := List.mem_map.mp hp
        have := h1 q hq
        rw [List.length_append, List.length_singleton]; omega) (by omega) (by rw [List.length_append, List.length_map]; exact h4)
    refine ⟨y2, ?_⟩
    rw [List.map_cons]
    unfold forGo
    rw [st]
    simp only [R.bind_ok]
    exact ih
theorem all_ok2 {n iA : Nat} (hA : fs[iA]? = some FAll) {L : List (List Str)} (hL : L.length ≤ 8) {A : List (List (List Str))} (hs : sortT ((subs L).map pairT) = some (A.map pairT)) (hAl : A.length ≤ 256) (S : Sto) :
    callF fs wf pm (n + 1) iA [.t (lotT L)] S = .ok (.t (.lst (A.map lotT))) S := by
  have hp : (2 : Nat) ^ L.length ≤ 2 ^ 8 := Nat.pow_le_pow_right (by decide) hL
  refine callF_of hA rfl (Le.refl _) ?_
  generalize callF fs wf pm n = cl at *
  obtain ⟨y2, lo⟩ := all_loop (wf := wf) (pm := pm) (cl := cl) (x0 := some (.t (lotT L))) (x3 := none) (S := S) L [[]] 0 none (fun p hp => by rw [List.mem_singleton.mp hp]; exact Nat.le_refl _) (by omega) (by rw [List.length_singleton, Nat.one_mul]; unfold line; omega)
  have e0 : T.lst ([[]].map lotT) = .lst [.tup []] := rfl
  rw [e0] at lo
  have h1 : ∀ S, srcT .seq (.l [.t (lotT L)]) S = some (none, L.map grp) := fun S => src_tup S (by rw [List.length_map]; unfold line; omega)
  have h2 : ∀ S, srcT .seq (.l [.t (.lst ((subs L).map lotT))]) S = some (none, (subs L).map lotT) := fun S => src_lst S (by rw [List.length_map]; have := subs_len hL; unfold line; omega)
  have h3 : ∀ {x0 x1 x2 x3 : Option D}, compGo (compEl cl pm [4] (.n 4) (.cst (.bl true)) (.tup (.cons (.frz (.bi false .len (.cons (.var 4) .nil))) (.cons (.var 4) .nil))) [x0, x1, x2, x3, none]) ((subs L).map lotT) S = .ok ((subs L).map pairT) S := fun {x0 x1 x2 x3} => by
    refine go_map (subs L) fun p hp => ?_
    refine compEl_tt (r' := [x0, x1, x2, x3, some (.t (lotT p))]) rfl rfl ?_ (take_len S)
    have hl : biT .len [lotT p] = some (.int (p.length : Nat)) := by
      show some (T.int ((p.map grp).length : Nat)) = _
      rw [List.length_map]
    have f0 : ∀ (t : T) (S : Sto), frzS S (.t t) = .ok (.t t) S := fun _ _ => rfl
    have l2 : (2 : Nat) ≤ line := by unfold line; omega
    simp -implicitDefEqProofs [hl, f0, trL, l2, pairT]
  have h4 : biT .sorted [.lst ((subs L).map pairT)] = some (.lst (A.map pairT)) := by
    show (sortT _).map T.lst = _
    rw [hs]; rfl
  have h5 : ∀ S, srcT .seq (.l [.t (.lst (A.map pairT))]) S = some (none, A.map pairT) := fun S => src_lst S (by rw [List.length_map]; unfold line; omega)
  have h6 : ∀ {x0 x1 x2 : Option D}, compGo (compEl cl pm [3, 4] (.cons (.n 3) (.cons (.n 4) .nil)) (.cst (.bl true)) (.var 4) [x0, x1, x2, none, none]) (A.map pairT) S = .ok (A.map lotT) S := fun {x0 x1 x2} => by
    refine go_map A fun p hp => ?_
    exact compEl_tt (r' := [x0, x1, x2, some (.t (.int (p.length : Nat))), some (.t (lotT p))]) rfl rfl rfl (take_len S)
  have e1 : subG [[]] L = subs L := rfl
  rw [e1] at lo
  have z0 : (0 : Nat) ≤ line := Nat.zero_le _
  have z1 : (1 : Nat) ≤ line := by unfold line; omega
  unfold bodyF
  simp -implicitDefEqProofs [-List.map_map, FAll, trL, z0, z1, h1, lo, h2, h3, h4, h5, h6, fin, R.cut, take_len1, take_len]
end
end Qq.Lw

set_option maxHeartbeats 1000000
/-! P36: the lots that explain. -/
namespace Qq.Lw
open PySem L2
def hit (p ws : List (List Str)) : Bool := ws.any fun g => decide (g ∈ p)
def okLot (W : List (List (List Str))) (p : List (List Str)) : Bool := W.all (hit p)
theorem cIn_t (d : T) (es : List T) : cmpT .In d (.tup es) = inT d es := by cases d <;> rfl
theorem cIn_l (d : T) (es : List T) : cmpT .In d (.lst es) = inT d es := by cases d <;> rfl
theorem cNin_l (d : T) (es : List T) : cmpT .NotIn d (.lst es) = (inT d es).map fun b => !b := by cases d <;> rfl
theorem b_any (bs : List Bool) : biT .any [.lst (bs.map T.bl)] = some (.bl (bs.any id)) := by
  show (boolsT _).map _ = _
  rw [boolsT_map]; rfl
theorem b_all (bs : List Bool) : biT .all [.lst (bs.map T.bl)] = some (.bl (bs.all id)) := by
  show (boolsT _).map _ = _
  rw [boolsT_map]; rfl
theorem lot_len (p : List (List Str)) : biT .len [lotT p] = some (.int (p.length : Nat)) := by
  show some (T.int ((p.map grp).length : Nat)) = _
  rw [List.length_map]
section
variable {fs : List FI} {wf : Nat} {pm : Nat → List D → List D → Option (List D)}
def eAny : C := (.bi false .any (.cons (.comp false [5] (.n 5) .seq (.cons (.var 4) .nil) (.cst (.bl true)) (.cmp .In (.var 5) (.var 3))) .nil))
def eAll : C := (.tru (.bi false .all (.cons (.comp false [4] (.n 4) .seq (.cons (.var 2) .nil) (.cst (.bl true)) (.frz eAny)) .nil)))
def FExpl (iC iR iA iT : Nat) : FI := ⟨2, 6, false, (.seq (.drop (.call iC (.cons (.var 0) (.cons (.var 1) .nil)))) (.seq (.asg (.n 2) (.call iR (.cons (.var 0) (.cons (.var 1) .nil)))) (.seq (.ret (.comp false [3] (.n 3) .seq (.cons (.call iA (.cons (.call iT (.cons (.var 0) .nil)) .nil)) .nil) eAll (.var 3))) .nil)))⟩
theorem any_ok {cl : Nat → List D → Sto → R D} {x0 x1 x2 : Option D} {p ws : List (List Str)} (hp : LOk p) (hw : LOk ws) (S : Sto) :
    ev cl pm eAny [x0, x1, x2, some (.t (lotT p)), some (.t (lotT ws)), none] S = .ok (.t (.bl (hit p ws))) S := by
  have hs : ∀ S, srcT .seq (.l [.t (lotT ws)]) S = some (none, ws.map grp) := fun S => src_tup S (by rw [List.length_map]; have := hw.1; unfold line; omega)
  have hg : compGo (compEl cl pm [5] (.n 5) (.cst (.bl true)) (.cmp .In (.var 5) (.var 3)) [x0, x1, x2, some (.t (lotT p)), some (.t (lotT ws)), none]) (ws.map grp) S = .ok ((ws.map fun g => decide (g ∈ p)).map T.bl) S := by
    rw [List.map_map]
    refine go_map ws fun g hg => ?_
    refine compEl_tt (r' := [x0, x1, x2, some (.t (lotT p)), some (.t (lotT ws)), some (.t (grp g))]) rfl rfl ?_ (take_len S)
    have hi : cmpT .In (grp g) (lotT p) = some (decide (g ∈ p)) := (cIn_t _ _).trans (inT_grp (hw.2 g hg) hp)
    simp -implicitDefEqProofs [hi]
  have hb := b_any (ws.map fun g => decide (g ∈ p))
  have he : (ws.map fun g => decide (g ∈ p)).any id = hit p ws := by
    rw [List.any_map]; rfl
  rw [he] at hb
  simp -implicitDefEqProofs [-List.map_map, eAny, hs, hg, hb]
theorem all_in {cl : Nat → List D → Sto → R D} {x0 x1 : Option D} {p : List (List Str)} (hp : LOk p) {W : List (List (List Str))} (hW : ∀ ws ∈ W, LOk ws) (hl : W.length ≤ line) (S : Sto) :
    ev cl pm eAll [x0, x1, some (.o S.length), some (.t (lotT p)), none, none] (S ++ [.lst (W.map lotT)]) = .ok (.t (.bl (okLot W p))) (S ++ [.lst (W.map lotT)]) := by
  have hs := src_cell .seq S (W.map lotT) (W.map lotT) rfl (by rw [List.length_map]; exact hl)
  have h1 := lock_e S (.lst (W.map lotT)) rfl
  have h2 := unlock_e S S (.lst (W.map lotT)) (.lck (.lst (W.map lotT))) rfl
  have s1 := see_e S (W.map lotT)
  have hg : compGo (compEl cl pm [4] (.n 4) (.cst (.bl true)) (.frz eAny) [x0, x1, some (.o S.length), some (.t (lotT p)), none, none]) (W.map lotT) (S ++ [.lck (.lst (W.map lotT))]) = .ok ((W.map (hit p)).map T.bl) (S ++ [.lck (.lst (W.map lotT))]) := by
    rw [List.map_map]
    refine go_map W fun ws hw => ?_
    refine compEl_tt (r' := [x0, x1, some (.o S.length), some (.t (lotT p)), some (.t (lotT ws)), none]) rfl rfl ?_ (take_len _)
    have e := any_ok (pm := pm) (cl := cl) (x0 := x0) (x1 := x1) (x2 := some (.o S.length)) hp (hW ws hw) (S ++ [.lck (.lst (W.map lotT))])
    have f0 : ∀ (t : T) (S : Sto), frzS S (.t t) = .ok (.t t) S := fun _ _ => rfl
    simp -implicitDefEqProofs [e, f0]
  have hb := b_all (W.map (hit p))
  have he : (W.map (hit p)).all id = okLot W p := by
    rw [List.all_map]; rfl
  rw [he] at hb
  simp -implicitDefEqProofs [-List.map_map, eAll, s1, hs, h1, hg, h2, hb, tr_bl]
theorem expl_ok {n iE iC iR iA iT : Nat} (hE : fs[iE]? = some (FExpl iC iR iA iT)) {tr lg : T} {L : List (List Str)} {W A : List (List (List Str))} (hW : ∀ ws ∈ W, LOk ws) (hl : W.length ≤ line) (hA : ∀ p ∈ A, LOk p) (hAl : A.length ≤ line)
    (h7 : ∀ S : Sto, callF fs wf pm n iC [.t tr, .t lg] S = .ok (.t .non) S) (h4 : ∀ S : Sto, callF fs wf pm n iR [.t tr, .t lg] S = .ok (.o S.length) (S ++ [.lst (W.map lotT)]))
    (h0 : ∀ S : Sto, callF fs wf pm n iT [.t tr] S = .ok (.t (lotT L)) S) (h8 : ∀ S : Sto, callF fs wf pm n iA [.t (lotT L)] S = .ok (.t (.lst (A.map lotT))) S) (S : Sto) :
    callF fs wf pm (n + 1) iE [.t tr, .t lg] S = .ok (.t (.lst ((A.filter (okLot W)).map lotT))) S := by
  refine callF_of hE rfl (Le.refl _) ?_
  generalize callF fs wf pm n = cl at *
  have hs : ∀ S, srcT .seq (.l [.t (.lst (A.map lotT))]) S = some (none, A.map lotT) := fun S => src_lst S (by rw [List.length_map]; exact hAl)
  have hg : compGo (compEl cl pm [3] (.n 3) eAll (.var 3) [some (.t tr), some (.t lg), some (.o S.length), none, none, none]) (A.map lotT) (S ++ [.lst (W.map lotT)]) = .ok ((A.filter (okLot W)).map lotT) (S ++ [.lst (W.map lotT)]) := by
    refine go_flt A fun p hp => ?_
    have e := all_in (pm := pm) (cl := cl) (x0 := some (.t tr)) (x1 := some (.t lg)) (hA p hp) hW hl S
    cases hb : okLot W p with
    | true =>
      rw [hb] at e
      exact compEl_tt (r' := [some (.t tr), some (.t lg), some (.o S.length), some (.t (lotT p)), none, none]) rfl e rfl (take_len _)
    | false =>
      rw [hb] at e
      exact compEl_ff (r' := [some (.t tr), some (.t lg), some (.o S.length), some (.t (lotT p)), none, none]) rfl e (take_len _)
  unfold bodyF
  simp -implicitDefEqProofs [FExpl, h7, h4, h0, h8, hs, hg, fin, R.cut, take_len1, take_len]
def FHow (iE : Nat) : FI := ⟨2, 2, false, (.seq (.ret (.bi false .len (.cons (.call iE (.cons (.var 0) (.cons (.var 1) .nil))) .nil))) .nil)⟩
def FFewL (iE : Nat) : FI := ⟨2, 2, false, (.seq (.ret (.bi false .len (.cons (.idx (.call iE (.cons (.var 0) (.cons (.var 1) .nil))) (.cst (.int 0))) .nil))) .nil)⟩
def FSome (iE : Nat) : FI := ⟨2, 2, false, (.seq (.ret (.idx (.call iE (.cons (.var 0) (.cons (.var 1) .nil))) (.cst (.int 0)))) .nil)⟩
def FIs (iF iE : Nat) : FI := ⟨3, 5, false, (.seq (.asg (.n 3) (.ife (.tru (.call iF (.cons (.var 0) (.cons (.var 1) .nil)))) (.call iE (.cons (.var 0) (.cons (.var 1) .nil))) (.lst false .nil))) (.seq (.ret (.cmp .In (.var 2) (.comp false [4] (.n 4) .seq (.cons (.var 3) .nil) (.cmp .Eq (.bi false .len (.cons (.var 4) .nil)) (.bi false .len (.cons (.idx (.var 3) (.cst (.int 0))) .nil))) (.var 4)))) .nil))⟩
theorem idx0 (t : T) (ts : List T) : idxT (.lst (t :: ts)) (.int 0) = some t := idx_l (i := 0) rfl
theorem how_ok {n iH iE : Nat} (hH : fs[iH]? = some (FHow iE)) {tr lg : T} {E : List (List (List Str))} (h : ∀ S : Sto, callF fs wf pm n iE [.t tr, .t lg] S = .ok (.t (.lst (E.map lotT))) S) (S : Sto) :
    callF fs wf pm (n + 1) iH [.t tr, .t lg] S = .ok (.t (.int (E.length : Nat))) S := by
  refine callF_of hH rfl (Le.refl _) ?_
  generalize callF fs wf pm n = cl at *
  unfold bodyF
  simp -implicitDefEqProofs [FHow, h, b_len, fin, R.cut, take_len1, take_len]
theorem few_ok {n iH iE : Nat} (hH : fs[iH]? = some (FFewL iE)) {tr lg : T} {p : List (List Str)} {E : List (List (List Str))} (h : ∀ S : Sto, callF fs wf pm n iE [.t tr, .t lg] S = .ok (.t (.lst ((p :: E).map lotT))) S) (S : Sto) :
    callF fs wf pm (n + 1) iH [.t tr, .t lg] S = .ok (.t (.int (p.length : Nat))) S := by
  refine callF_of hH rfl (Le.refl _) ?_
  generalize callF fs wf pm n = cl at *
  rw [List.map_cons] at h
  have h2 := lot_len p
  unfold bodyF
  simp -implicitDefEqProofs [FFewL, h, idx0, h2, fin, R.cut, take_len1, take_len]
theorem some_ok {n iH iE : Nat} (hH : fs[iH]? = some (FSome iE)) {tr lg : T} {p : List (List Str)} {E : List (List (List Str))} (h : ∀ S : Sto, callF fs wf pm n iE [.t tr, .t lg] S = .ok (.t (.lst ((p :: E).map lotT))) S) (S : Sto) :
    callF fs wf pm (n + 1) iH [.t tr, .t lg] S = .ok (.t (lotT p)) S := by
  refine callF_of hH rfl (Le.refl _) ?_
  generalize callF fs wf pm n = cl at *
  rw [List.map_cons] at h
  unfold bodyF
  simp -implicitDefEqProofs [FSome, h, idx0, fin, R.cut, take_len1, take_len]
/-- as few as the first -/
def fews (p : List (List Str)) (E : List (List (List Str))) : List (List (List Str)) := (p :: E).filter fun q => decide (q.length = p.length)
theorem is_ok {n iH iF iE : Nat} (hH : fs[iH]? = some (FIs iF iE)) {tr lg x : T} {b : Bool} {p : List (List Str)} {E : List (List (List Str))} (hl : E.length < line) (hF : ∀ S : Sto, callF fs wf pm n iF [.t tr, .t lg] S = .ok (.t (.bl true)) S)
    (h : ∀ S : Sto, callF fs wf pm n iE [.t tr, .t lg] S = .ok (.t (.lst ((p :: E).map lotT))) S) (hx : inT x ((fews p E).map lotT) = some b) (S : Sto) :
    callF fs wf pm (n + 1) iH [.t tr, .t lg, .t x] S = .ok (.t (.bl b)) S := by
  refine callF_of hH rfl (Le.refl _) ?_
  generalize callF fs wf pm n = cl at *
  have hs : ∀ S, srcT .seq (.l [.t (.lst ((p :: E).map lotT))]) S = some (none, (p :: E).map lotT) := fun S => src_lst S (by rw [List.length_map, List.length_cons]; omega)
  have h0 : idxT (.lst ((p :: E).map lotT)) (.int 0) = some (lotT p) := idx0 _ _
  have h2 := lot_len p
  have hg : compGo (compEl cl pm [4] (.n 4) (.cmp .Eq (.bi false .len (.cons (.var 4) .nil)) (.bi false .len (.cons (.idx (.var 3) (.cst (.int 0))) .nil))) (.var 4) [some (.t tr), some (.t lg), some (.t x), some (.t (.lst ((p :: E).map lotT))), none]) ((p :: E).map lotT) S = .ok ((fews p E).map lotT) S := by
    refine go_flt (p :: E) fun q hq => ?_
    have h3 := lot_len q
    generalize (p :: E).map lotT = M at *
    by_cases hb : q.length = p.length
    · have hb' : (q.length : Int) = (p.length : Int) := by omega
      rw [decide_eq_true hb]
      refine compEl_tt (r' := [some (.t tr), some (.t lg), some (.t x), some (.t (.lst M)), some (.t (lotT q))]) rfl ?_ rfl (take_len S)
      simp -implicitDefEqProofs [h0, h2, h3, c_eq, hb]
    · have hb' : ¬ (q.length : Int) = (p.length : Int) := by omega
      rw [decide_eq_false hb]
      refine compEl_ff (r' := [some (.t tr), some (.t lg), some (.t x), some (.t (.lst M)), some (.t (lotT q))]) rfl ?_ (take_len S)
      simp -implicitDefEqProofs [h0, h2, h3, c_eq, hb, hb']
  have hi : cmpT .In x (.lst ((fews p E).map lotT)) = some b := (cIn_l _ _).trans hx
  generalize (p :: E).map lotT = M at *
  generalize (fews p E).map lotT = N at *
  unfold bodyF
  simp -implicitDefEqProofs [FIs, hF, tr_bl, h, hs, hg, hi, fin, R.cut, take_len1, take_len]
end
end Qq.Lw

set_option maxHeartbeats 1000000
/-! P37: the law's own lots; the most of each group in a dict. -/
namespace Qq.Lw
open PySem L2
section
variable {fs : List FI} {wf : Nat} {pm : Nat → List D → List D → Option (List D)}
def sB28 : P := (.seq (.asg (.n 1) (.bin false .Add (.var 1) (.comp false [3] (.n 3) .seq (.cons (.var 1) .nil) (.cst (.bl true)) (.bin false .Add (.var 3) (.tup (.cons (.var 2) .nil)))))) .nil)
def FSubs : FI := ⟨1, 4, false, (.seq (.asg (.n 1) (.lst false (.cons (.tup .nil) .nil))) (.seq (.for_ (.n 2) .seq (.cons (.var 0) .nil) sB28) (.seq (.ret (.var 1)) .nil)))⟩
theorem lot_add (p : List (List Str)) (g : List Str) (h : p.length + 1 ≤ line) : binT .Add (lotT p) (.tup [grp g]) = some (lotT (p ++ [g])) := by
  show (if (p.map grp).length + [grp g].length ≤ line then some (T.tup (p.map grp ++ [grp g])) else none) = _
  rw [if_pos (by rw [List.length_map]; exact h), lot_snoc]
theorem subs_step {cl : Nat → List D → Sto → R D} {x0 x2 : Option D} {g : List Str} {S : Sto} (acc : List (List (List Str))) (hl : ∀ p ∈ acc, p.length + 1 ≤ line) (ha : acc.length + acc.length ≤ line) :
    forEl wf cl pm (.n 2) sB28 (grp g) [x0, some (.t (.lst (acc.map lotT))), x2, none] S = .ok (.nx, [x0, some (.t (.lst ((acc ++ acc.map (· ++ [g])).map lotT))), some (.t (grp g)), none]) S := by
  have hs : ∀ S, srcT .seq (.l [.t (.lst (acc.map lotT))]) S = some (none, acc.map lotT) := fun S => src_lst S (by rw [List.length_map]; omega)
  have hg : compGo (compEl cl pm [3] (.n 3) (.cst (.bl true)) (.bin false .Add (.var 3) (.tup (.cons (.var 2) .nil))) [x0, some (.t (.lst (acc.map lotT))), some (.t (grp g)), none]) (acc.map lotT) S = .ok ((acc.map (· ++ [g])).map lotT) S := by
    rw [List.map_map]
    refine go_map acc fun p hp => ?_
    refine compEl_tt (r' := [x0, some (.t (.lst (acc.map lotT))), some (.t (grp g)), some (.t (lotT p))]) rfl rfl ?_ (take_len S)
    have h1 := lot_add p g (hl p hp)
    have l1 : (1 : Nat) ≤ line := by unfold line; omega
    simp -implicitDefEqProofs [-List.map_map, trL, l1, h1, Function.comp]
  have hb : binT .Add (.lst (acc.map lotT)) (.lst ((acc.map (· ++ [g])).map lotT)) = some (.lst ((acc ++ acc.map (· ++ [g])).map lotT)) := by
    rw [b_cat _ _ (by rw [List.length_map, List.length_map, List.length_map]; exact ha), ← List.map_append]
  generalize (acc ++ acc.map (· ++ [g])).map lotT = M at *
  generalize (acc.map (· ++ [g])).map lotT = N at *
  generalize acc.map lotT = A at *
  simp -implicitDefEqProofs [forEl, sB28, hs, hg, hb]
theorem subs_loop {cl : Nat → List D → Sto → R D} {x0 : Option D} {S : Sto} : ∀ (L : List (List Str)) (acc : List (List (List Str))) (m : Nat) (x2 : Option D), (∀ p ∈ acc, p.length ≤ m) → m + L.length ≤ 100 → acc.length * 2 ^ L.length ≤ line →
    ∃ y2, forGo (forEl wf cl pm (.n 2) sB28) (L.map grp) [x0, some (.t (.lst (acc.map lotT))), x2, none] S = .ok (.nx, [x0, some (.t (.lst ((subG acc L).map lotT))), y2, none]) S
  | [], acc, m, x2, _, _, _ => ⟨x2, rfl⟩
  | g :: L, acc, m, x2, h1, h2, h3 => by
    rw [List.length_cons] at h2 h3
    have h4 : (acc.length + acc.length) * 2 ^ L.length ≤ line := by
      rw [Nat.pow_succ, Nat.mul_comm (2 ^ _), ← Nat.mul_assoc] at h3
      rw [← Nat.mul_two]; exact h3
    have h5 : acc.length + acc.length ≤ line := Nat.le_trans (Nat.le_mul_of_pos_right _ (Nat.pow_pos (by decide))) h4
    have st := subs_step (wf := wf) (pm := pm) (cl := cl) (x0 := x0) (x2 := x2) (g := g) (S := S) acc (fun p hp => by have := h1 p hp; unfold line; omega) h5
    obtain ⟨y2, ih⟩ := subs_loop (cl := cl) (x0 := x0) (S := S) L (acc ++ acc.map (· ++ [g])) (m + 1) (some (.t (grp g))) (fun p hp => by
      rcases List.mem_append.mp hp with hp | hp
      · have := h1 p hp; omega
      · obtain ⟨q, hq, rfl⟩ := List.mem_map.mp hp
        have := h1 q hq
        rw [List.length_append, List.length_singleton]; omega) (by omega) (by rw [List.length_append, List.length_map]; exact h4)
    refine ⟨y2, ?_⟩
    rw [List.map_cons]
    unfold forGo
    rw [st]
    simp only [R.bind_ok]
    exact ih
theorem subs_ok {n iS : Nat} (hS : fs[iS]? = some FSubs) {L : List (List Str)} (hL : L.length ≤ 8) (S : Sto) :
    callF fs wf pm (n + 1) iS [.t (lotT L)] S = .ok (.t (.lst ((subs L).map lotT))) S := by
  have hp : (2 : Nat) ^ L.length ≤ 2 ^ 8 := Nat.pow_le_pow_right (by decide) hL
  refine callF_of hS rfl (Le.refl _) ?_
  generalize callF fs wf pm n = cl at *
  obtain ⟨y2, lo⟩ := subs_loop (wf := wf) (pm := pm) (cl := cl) (x0 := some (.t (lotT L))) (S := S) L [[]] 0 none (fun p hp => by rw [List.mem_singleton.mp hp]; exact Nat.le_refl _) (by omega) (by rw [List.length_singleton, Nat.one_mul]; unfold line; omega)
  have e0 : T.lst ([[]].map lotT) = .lst [.tup []] := rfl
  rw [e0] at lo
  have h1 : ∀ S, srcT .seq (.l [.t (lotT L)]) S = some (none, L.map grp) := fun S => src_tup S (by rw [List.length_map]; unfold line; omega)
  have e1 : subG [[]] L = subs L := rfl
  rw [e1] at lo
  have z0 : (0 : Nat) ≤ line := Nat.zero_le _
  have z1 : (1 : Nat) ≤ line := by unfold line; omega
  generalize (subs L).map lotT = M at *
  unfold bodyF
  simp -implicitDefEqProofs [-List.map_map, FSubs, trL, z0, z1, h1, lo, fin, R.cut, take_len1, take_len]
end
/-! ### a dict by groups -/
def kG (g : List Str) : List Key := g.map Sum.inr
theorem kG_inj : ∀ {a b : List Str}, kG a = kG b → a = b
  | [], [], _ => rfl
  | [], _ :: _, h => by cases h
  | _ :: _, [], h => by cases h
  | x :: a, y :: b, h => by
    unfold kG at h
    rw [List.map_cons, List.map_cons] at h
    injection h with h1 h2
    injection h1 with h1
    rw [h1, kG_inj h2]
theorem keys_grp (g : List Str) : keysT (g.map T.str) = some (kG g) := by
  induction g with
  | nil => rfl
  | cons x g ih =>
    rw [List.map_cons]
    unfold keysT
    rw [ih]
    rfl
def kD (L : List (List Str)) (f : List Str → Int) : List (List Key × T) := L.map fun g => (kG g, T.int (f g))
theorem pairs_0 : ∀ L : List (List Str), pairsQ (L.map fun g => .tup [grp g, .int 0]) = some (kD L fun _ => 0)
  | [] => rfl
  | g :: L => by
    rw [List.map_cons]
    have e : T.tup [grp g, .int 0] = .tup [.tup (g.map T.str), .int 0] := rfl
    rw [e]
    unfold pairsQ
    rw [keys_grp, pairs_0 L]
    rfl
theorem mrg_new : ∀ (r acc : List (List Key × T)), (∀ a ∈ acc, ∀ b ∈ r, a.1 ≠ b.1) → r.Pairwise (fun a b => a.1 ≠ b.1) → mrgQ acc r = acc ++ r
  | [], acc, _, _ => by rw [List.append_nil]; rfl
  | kv :: r, acc, h1, h2 => by
    have hp : putT acc kv.1 kv.2 = acc ++ [kv] := by
      unfold putT
      rw [if_neg]
      intro z
      obtain ⟨a, ha, e⟩ := List.any_eq_true.mp z
      exact h1 a ha kv List.mem_cons_self (of_decide_eq_true e)
    unfold mrgQ
    rw [hp, mrg_new r (acc ++ [kv]) (fun a ha b hb => ?_) (List.pairwise_cons.mp h2).2, List.append_assoc]
    · rfl
    · rcases List.mem_append.mp ha with ha | ha
      · exact h1 a ha b (List.mem_cons_of_mem _ hb)
      · rw [List.mem_singleton.mp ha]; exact (List.pairwise_cons.mp h2).1 b hb
theorem mrg_kD {L : List (List Str)} (hn : L.Nodup) (f : List Str → Int) : mrgQ [] (kD L f) = kD L f := by
  rw [mrg_new _ _ (fun a ha => by cases ha), List.nil_append]
  exact List.pairwise_map.mpr (hn.imp fun h e => h (kG_inj e))
theorem val_kD {L : List (List Str)} {g : List Str} (hg : g ∈ L) (f : List Str → Int) : valT (kD L f) (kG g) = some (.int (f g)) := by
  induction L with
  | nil => cases hg
  | cons x L ih =>
    show (if kG x = kG g then some (T.int (f x)) else valT (kD L f) (kG g)) = _
    by_cases e : kG x = kG g
    · rw [if_pos e, kG_inj e]
    · rw [if_neg e]
      rcases List.mem_cons.mp hg with rfl | hg
      · exact absurd rfl e
      · exact ih hg
theorem idx_kD {L : List (List Str)} {g : List Str} (hg : g ∈ L) (f : List Str → Int) : idxT (.dT (kD L f)) (grp g) = some (.int (f g)) := by
  have hk := keys_grp g
  have hv := val_kD hg f
  show (((keysT (g.map T.str)).map fun k => valT (kD L f) k)).join = _
  rw [hk]
  exact hv
def upf (f : List Str → Int) (g : List Str) (v : Int) : List Str → Int := fun x => if x = g then v else f x
theorem put_kD {L : List (List Str)} {g : List Str} (hg : g ∈ L) (f : List Str → Int) (v : Int) : putT (kD L f) (kG g) (.int v) = kD L (upf f g v) := by
  unfold putT
  have ha : ((kD L f).any fun kv => decide (kv.1 = kG g)) = true := List.any_eq_true.mpr ⟨(kG g, .int (f g)), List.mem_map.mpr ⟨g, hg, rfl⟩, decide_eq_true rfl⟩
  rw [if_pos ha]
  unfold kD
  rw [List.map_map]
  refine List.map_congr_left fun x hx => ?_
  show (if kG x = kG g then (kG x, T.int v) else (kG x, T.int (f x))) = (kG x, T.int (upf f g v x))
  unfold upf
  by_cases e : x = g
  · subst e; rw [if_pos rfl, if_pos rfl]
  · rw [if_neg e, if_neg fun z => e (kG_inj z)]
theorem kD_congr {L : List (List Str)} {f f' : List Str → Int} (h : ∀ g ∈ L, f g = f' g) : kD L f = kD L f' := List.map_congr_left fun g hg => by rw [h g hg]
end Qq.Lw

set_option maxHeartbeats 1000000
/-! P38: the most of each group, by the log. -/
namespace Qq.Lw
open PySem L2
section
variable {fs : List FI} {wf : Nat} {pm : Nat → List D → List D → Option (List D)}
def cS10 : C := (.comp false [10] (.n 10) .seq (.cons (.var 3) .nil) (.cmp .NotEq (.idx (.var 10) (.cst (.int 0))) (.var 7)) (.var 10))
def hA : P := (.ite (.cmp .Eq (.var 6) (.cst (.str "go"))) (.seq (.asg (.n 3) cS10) .nil) (.seq (.asg (.n 3) (.ife (.cmp .Eq (.var 6) (.cst (.str "in"))) (.bin false .Add (.var 3) (.lst false (.cons (.tup (.cons (.var 4) (.cons (.var 7) .nil))) .nil))) (.var 3))) (.seq (.asg (.n 4) (.bin false .Add (.var 4) (.cst (.int 1)))) .nil)))
def hM (iI : Nat) : P := (.seq (.setI (.var 5) (.var 8) (.bi false .max2 (.cons (.idx (.var 5) (.var 8)) (.cons (.call iI (.cons (.var 3) (.cons (.var 8) .nil))) .nil)))) .nil)
def hB (iI : Nat) : P := (.seq hA (.seq (.for_ (.n 8) .seq (.cons (.var 0) .nil) (hM iI)) .nil))
theorem cS10_go {cl : Nat → List D → Sto → R D} {i : Int} {x0 x1 x2 x3 x4 x5 x6 x8 x9 : Option D} {S : Sto} : ∀ h : Hd, compGo (compEl cl pm [10] (.n 10) (.cmp .NotEq (.idx (.var 10) (.cst (.int 0))) (.var 7)) (.var 10) [x0, x1, x2, x3, x4, x5, x6, some (.t (.int i)), x8, x9, none]) (hL h) S = .ok (hL (h.filter fun p => !decide (p.1 = i))) S
  | [] => rfl
  | p :: h => by
    have ih := cS10_go (cl := cl) (i := i) (x0 := x0) (x1 := x1) (x2 := x2) (x3 := x3) (x4 := x4) (x5 := x5) (x6 := x6) (x8 := x8) (x9 := x9) (S := S) h
    have e0 : hL (p :: h) = .tup [.int p.1, .str p.2] :: hL h := rfl
    rw [e0]
    by_cases e : p.1 = i
    · have e1 : (p :: h).filter (fun p => !decide (p.1 = i)) = h.filter fun p => !decide (p.1 = i) := by simp [e]
      rw [e1]
      exact compGo_c (o := none) (compEl_ff (r' := [x0, x1, x2, x3, x4, x5, x6, some (.t (.int i)), x8, x9, some (.t (.tup [.int p.1, .str p.2]))]) rfl (by simp [ix0, c_ne, e]) (take_len S)) ih
    · have e1 : (p :: h).filter (fun p => !decide (p.1 = i)) = p :: h.filter fun p => !decide (p.1 = i) := by simp [e]
      rw [e1]
      exact compGo_c (o := some _) (compEl_tt (r' := [x0, x1, x2, x3, x4, x5, x6, some (.t (.int i)), x8, x9, some (.t (.tup [.int p.1, .str p.2]))]) rfl (by simp [ix0, c_ne, e]) (by simp) (take_len S)) ih
theorem hA_ok {cl : Nat → List D → Sto → R D} {e : En} {h : Hd} {j : Int} (hl : h.length < line) {x0 x1 x2 x5 x8 x9 : Option D} (S : Sto) :
    exec wf cl pm hA [x0, x1, x2, some (.t (hLT h)), some (.t (.int j)), x5, some (.t (.str e.wd)), some (.t e.vl), x8, x9, none] S =
      .ok (.nx, [x0, x1, x2, some (.t (hLT (nxt h j e))), some (.t (.int (adv j e))), x5, some (.t (.str e.wd)), some (.t e.vl), x8, x9, none]) S := by
  cases e with
  | go i =>
    have hs : srcT .seq (.l [.t (hLT h)]) S = some (none, hL h) := src_lst S (by rw [hL_len]; omega)
    have hg := cS10_go (cl := cl) (pm := pm) (i := i) (x0 := x0) (x1 := x1) (x2 := x2) (x3 := some (.t (hLT h))) (x4 := some (.t (.int j))) (x5 := x5) (x6 := some (.t (.str "go"))) (x8 := x8) (x9 := x9) (S := S) h
    have e1 : T.lst (hL (h.filter fun p => !decide (p.1 = i))) = hLT (h.filter fun p => !decide (p.1 = i)) := rfl
    simp -implicitDefEqProofs [hA, cS10, En.wd, En.vl, cgg, hs, hg, e1, nxt, adv]
  | inn w =>
    have hcat : binT .Add (hLT h) (.lst [.tup [.int j, .str w]]) = some (hLT (h ++ [(j, w)])) := by
      rw [show hLT h = .lst (hL h) from rfl, b_cat _ _ (by rw [hL_len]; simp; omega)]
      simp [hLT, hL]
    have l1 : (1 : Nat) ≤ line := by unfold line; omega
    have l2 : (2 : Nat) ≤ line := by unfold line; omega
    simp -implicitDefEqProofs [hA, En.wd, En.vl, cig, cii, trL, l1, l2, hcat, b_add, nxt, adv]
  | out w =>
    simp -implicitDefEqProofs [hA, En.wd, En.vl, cog, coi, b_add, nxt, adv]
/-! the dict -/
theorem see_dT (S : Sto) (kvs : List (List Key × T)) : see (S ++ [.dT kvs]) (.o S.length) = .o S.length := by
  unfold see
  simp
theorem rd_dT (S : Sto) (kvs : List (List Key × T)) : rd (S ++ [.dT kvs]) (.o S.length) = some (.dT kvs) := by
  show ((S ++ [Cl.dT kvs])[S.length]?).map Cl.tr = _
  simp [Cl.tr]
def mxc (i j : Int) : Int := if j > i then j else i
theorem b_mx (i j : Int) : biT .max2 [.int i, .int j] = some (.int (mxc i j)) := rfl
theorem set_dT {cl : Nat → List D → Sto → R D} {o i c : C} {r : Env} {S : Sto} {kvs : List (List Key × T)} {es : List T} {d : T} {k : List Key} (h1 : ev cl pm c r (S ++ [.dT kvs]) = .ok (.t d) (S ++ [.dT kvs])) (h2 : ev cl pm o r (S ++ [.dT kvs]) = .ok (.o S.length) (S ++ [.dT kvs])) (h3 : ev cl pm i r (S ++ [.dT kvs]) = .ok (.t (.tup es)) (S ++ [.dT kvs])) (h5 : keysT es = some k) (h6 : kvs.length < line) :
    exec wf cl pm (.setI o i c) r (S ++ [.dT kvs]) = .ok (.nx, r) (S ++ [.dT (putT kvs k d)]) := by
  have hg : (S ++ [Cl.dT kvs])[S.length]? = some (.dT kvs) := by simp
  have hr : rd (S ++ [Cl.dT kvs]) (.t (.tup es)) = some (.tup es) := rfl
  rw [exec_setI, h1]
  simp only [R.bind_ok]
  rw [h2]
  simp only [R.bind_ok]
  rw [h3]
  simp only [R.bind_ok, hr, hg, h5, h6, if_true]
  simp
theorem hM_step {cl : Nat → List D → Sto → R D} {iI : Nat} {L : List (List Str)} {g : List Str} (hg : g ∈ L) (hl : L.length < line) {f : List Str → Int} {h : Hd} {x0 x1 x2 x4 x6 x7 x8 x9 x10 : Option D} {S : Sto}
    (hc : ∀ S : Sto, cl iI [.t (hLT h), .t (grp g)] S = .ok (.t (.int (cnt h g : Nat))) S) :
    forEl wf cl pm (.n 8) (hM iI) (grp g) [x0, x1, x2, some (.t (hLT h)), x4, some (.o S.length), x6, x7, x8, x9, x10] (S ++ [.dT (kD L f)]) = .ok (.nx, [x0, x1, x2, some (.t (hLT h)), x4, some (.o S.length), x6, x7, some (.t (grp g)), x9, x10]) (S ++ [.dT (kD L (upf f g (mxc (f g) (cnt h g : Nat))))]) := by
  have s1 := see_dT S (kD L f)
  have r1 := rd_dT S (kD L f)
  have hi := idx_kD hg f
  have e1 : ev cl pm (.bi false .max2 (.cons (.idx (.var 5) (.var 8)) (.cons (.call iI (.cons (.var 3) (.cons (.var 8) .nil))) .nil))) [x0, x1, x2, some (.t (hLT h)), x4, some (.o S.length), x6, x7, some (.t (grp g)), x9, x10] (S ++ [.dT (kD L f)]) = .ok (.t (.int (mxc (f g) (cnt h g : Nat)))) (S ++ [.dT (kD L f)]) := by
    simp -implicitDefEqProofs [s1, r1, hi, hc, b_mx]
  have e2 : ev cl pm (.var 5) [x0, x1, x2, some (.t (hLT h)), x4, some (.o S.length), x6, x7, some (.t (grp g)), x9, x10] (S ++ [.dT (kD L f)]) = .ok (.o S.length) (S ++ [.dT (kD L f)]) := by
    simp -implicitDefEqProofs [s1]
  have e3 : ev cl pm (.var 8) [x0, x1, x2, some (.t (hLT h)), x4, some (.o S.length), x6, x7, some (.t (grp g)), x9, x10] (S ++ [.dT (kD L f)]) = .ok (.t (.tup (g.map T.str))) (S ++ [.dT (kD L f)]) := rfl
  have e4 := set_dT (wf := wf) e1 e2 e3 (keys_grp g) (by unfold kD; rw [List.length_map]; exact hl)
  rw [put_kD hg] at e4
  simp -implicitDefEqProofs [forEl, hM, e4]
def upds (h : Hd) : (List Str → Int) → List (List Str) → (List Str → Int)
  | f, [] => f
  | f, g :: r => upds h (upf f g (mxc (f g) (cnt h g : Nat))) r
theorem upds_out (h : Hd) : ∀ (gs : List (List Str)) (f : List Str → Int) (x : List Str), x ∉ gs → upds h f gs x = f x
  | [], _, _, _ => rfl
  | g :: gs, f, x, hx => by
    unfold upds
    rw [upds_out h gs _ x fun z => hx (List.mem_cons_of_mem _ z)]
    unfold upf
    rw [if_neg fun e => hx (by rw [e]; exact List.mem_cons_self)]
theorem upds_in (h : Hd) : ∀ (gs : List (List Str)) (f : List Str → Int) (x : List Str), gs.Nodup → x ∈ gs → upds h f gs x = mxc (f x) (cnt h x : Nat)
  | g :: gs, f, x, hn, hx => by
    have h1 := List.nodup_cons.mp hn
    unfold upds
    by_cases e : x = g
    · subst e
      rw [upds_out h gs _ x h1.1]
      unfold upf
      rw [if_pos rfl]
    · rcases List.mem_cons.mp hx with rfl | hx
      · exact absurd rfl e
      · rw [upds_in h gs _ x h1.2 hx]
        unfold upf
        rw [if_neg e]
theorem hM_loop {cl : Nat → List D → Sto → R D} {iI : Nat} {L : List (List Str)} (hl : L.length < line) {h : Hd} {x0 x1 x2 x4 x6 x7 x9 x10 : Option D} {S : Sto}
    (hc : ∀ g ∈ L, ∀ S : Sto, cl iI [.t (hLT h), .t (grp g)] S = .ok (.t (.int (cnt h g : Nat))) S) : ∀ (gs : List (List Str)) (f : List Str → Int) (x8 : Option D), (∀ g ∈ gs, g ∈ L) →
    ∃ y8, forGo (forEl wf cl pm (.n 8) (hM iI)) (gs.map grp) [x0, x1, x2, some (.t (hLT h)), x4, some (.o S.length), x6, x7, x8, x9, x10] (S ++ [.dT (kD L f)]) = .ok (.nx, [x0, x1, x2, some (.t (hLT h)), x4, some (.o S.length), x6, x7, y8, x9, x10]) (S ++ [.dT (kD L (upds h f gs))])
  | [], f, x8, _ => ⟨x8, rfl⟩
  | g :: gs, f, x8, hg => by
    have st := hM_step (wf := wf) (pm := pm) (cl := cl) (iI := iI) (hg g List.mem_cons_self) hl (f := f) (h := h) (x0 := x0) (x1 := x1) (x2 := x2) (x4 := x4) (x6 := x6) (x7 := x7) (x8 := x8) (x9 := x9) (x10 := x10) (S := S) (hc g (hg g List.mem_cons_self))
    obtain ⟨y8, ih⟩ := hM_loop hl (h := h) (x0 := x0) (x1 := x1) (x2 := x2) (x4 := x4) (x6 := x6) (x7 := x7) (x9 := x9) (x10 := x10) (S := S) hc gs (upf f g (mxc (f g) (cnt h g : Nat))) (some (.t (grp g))) fun x hx => hg x (List.mem_cons_of_mem _ hx)
    refine ⟨y8, ?_⟩
    rw [List.map_cons]
    unfold forGo
    rw [st]
    simp only [R.bind_ok]
    exact ih
theorem hB_step {cl : Nat → List D → Sto → R D} {iI : Nat} {L : List (List Str)} (hn : L.Nodup) (hl : L.length < line) {e : En} {h : Hd} {j : Int} (hh : h.length < line) {f : List Str → Int} {x1 x2 x6 x7 x8 x9 : Option D} {S : Sto}
    (hc : ∀ g ∈ L, ∀ S : Sto, cl iI [.t (hLT (nxt h j e)), .t (grp g)] S = .ok (.t (.int (cnt (nxt h j e) g : Nat))) S) :
    ∃ y8, forEl wf cl pm (.cons (.n 6) (.cons (.n 7) .nil)) (hB iI) (enT true e) [some (.t (lotT L)), x1, x2, some (.t (hLT h)), some (.t (.int j)), some (.o S.length), x6, x7, x8, x9, none] (S ++ [.dT (kD L f)]) =
      .ok (.nx, [some (.t (lotT L)), x1, x2, some (.t (hLT (nxt h j e))), some (.t (.int (adv j e))), some (.o S.length), some (.t (.str e.wd)), some (.t e.vl), y8, x9, none]) (S ++ [.dT (kD L fun g => mxc (f g) (cnt (nxt h j e) g : Nat))]) := by
  obtain ⟨y8, lo⟩ := hM_loop (wf := wf) (pm := pm) (cl := cl) (iI := iI) hl (h := nxt h j e) (x0 := some (.t (lotT L))) (x1 := x1) (x2 := x2) (x4 := some (.t (.int (adv j e)))) (x6 := some (.t (.str e.wd))) (x7 := some (.t e.vl)) (x9 := x9) (x10 := none) (S := S) hc L f x8 (fun g hg => hg)
  have ek : kD L (upds (nxt h j e) f L) = kD L fun g => mxc (f g) (cnt (nxt h j e) g : Nat) := kD_congr fun g hg => upds_in _ L f g hn hg
  rw [ek] at lo
  have ea := hA_ok (wf := wf) (pm := pm) (cl := cl) (e := e) (j := j) hh (x0 := some (.t (lotT L))) (x1 := x1) (x2 := x2) (x5 := some (.o S.length)) (x8 := x8) (x9 := x9) (S ++ [.dT (kD L f)])
  have hs : ∀ S, srcT .seq (.l [.t (lotT L)]) S = some (none, L.map grp) := fun S => src_tup S (by rw [List.length_map]; omega)
  refine ⟨y8, ?_⟩
  generalize (fun g => mxc (f g) (cnt (nxt h j e) g : Nat)) = f' at *
  simp -implicitDefEqProofs [-List.map_map, forEl, asg_en, hB, ea, hs, lo]
/-- the most, from here on -/
def mxs (l : List En) (h : Hd) (j : Int) (f : List Str → Int) : List Str → Int := match l with
  | [] => f
  | e :: l => mxs l (nxt h j e) (adv j e) fun g => mxc (f g) (cnt (nxt h j e) g : Nat)
theorem mxc_max (i j : Int) : mxc i j = max i j := by
  unfold mxc
  split <;> omega
theorem mxs_eq : ∀ (l : List En) (h : Hd) (j : Int) (f : List Str → Int) (g : List Str), mxs l h j f g = ((stt l h j).tail.map fun x => ((cnt x g : Nat) : Int)).foldl max (f g)
  | [], _, _, _, _ => rfl
  | e :: l, h, j, f, g => by
    unfold mxs
    rw [mxs_eq l, stt_cons, List.tail_cons, mxc_max]
    cases l with
    | nil => rfl
    | cons e2 l => rw [stt_cons, List.tail_cons]; rfl
theorem sm_stt (l : List En) (h : Hd) (j : Int) (g : List Str) : sm (stt l h j) g = ((stt l h j).tail.map fun x => ((cnt x g : Nat) : Int)).foldl max ((cnt h g : Nat) : Int) := by
  cases l with
  | nil => rfl
  | cons e l => rw [stt_cons]; rfl
theorem mxs_rows (l : List En) (g : List Str) : mxs l [] 0 (fun _ => 0) g = sm (rows l) g := by
  have e : rows l = stt l [] 0 := rfl
  rw [e, mxs_eq, sm_stt]
  rfl
theorem hB_loop {cl : Nat → List D → Sto → R D} {iI : Nat} {L : List (List Str)} (hn : L.Nodup) (hl : L.length < line) {x1 x2 x9 : Option D} {S : Sto}
    (hc : ∀ (h : Hd), (∀ p ∈ h, PyData.strOk p.2 = true) → h.length ≤ line → ∀ g ∈ L, ∀ S : Sto, cl iI [.t (hLT h), .t (grp g)] S = .ok (.t (.int (cnt h g : Nat))) S) : ∀ (l : List En) (h : Hd) (j : Int) (f : List Str → Int) (x6 x7 x8 : Option D), (∀ e ∈ l, EnOk e) → HOk h j → h.length + l.length < line →
    ∃ y3 y4 y6 y7 y8, forGo (forEl wf cl pm (.cons (.n 6) (.cons (.n 7) .nil)) (hB iI)) (l.map (enT true)) [some (.t (lotT L)), x1, x2, some (.t (hLT h)), some (.t (.int j)), some (.o S.length), x6, x7, x8, x9, none] (S ++ [.dT (kD L f)]) =
      .ok (.nx, [some (.t (lotT L)), x1, x2, y3, y4, some (.o S.length), y6, y7, y8, x9, none]) (S ++ [.dT (kD L (mxs l h j f))])
  | [], h, j, f, x6, x7, x8, _, _, _ => ⟨_, _, _, _, _, rfl⟩
  | e :: l, h, j, f, x6, x7, x8, he, hk, h1 => by
    rw [List.length_cons] at h1
    have hn2 := nxt_len h j e
    have hk2 := hk.nxt (he e List.mem_cons_self)
    obtain ⟨z8, st⟩ := hB_step (wf := wf) (pm := pm) (cl := cl) (iI := iI) hn hl (e := e) (h := h) (j := j) (by omega) (f := f) (x1 := x1) (x2 := x2) (x6 := x6) (x7 := x7) (x8 := x8) (x9 := x9) (S := S) (hc _ hk2.ok (by omega))
    obtain ⟨y3, y4, y6, y7, y8, ih⟩ := hB_loop hn hl (x1 := x1) (x2 := x2) (x9 := x9) (S := S) hc l (nxt h j e) (adv j e) (fun g => mxc (f g) (cnt (nxt h j e) g : Nat)) (some (.t (.str e.wd))) (some (.t e.vl)) z8 (fun q hq => he q (List.mem_cons_of_mem _ hq)) hk2 (by omega)
    refine ⟨y3, y4, y6, y7, y8, ?_⟩
    rw [List.map_cons]
    unfold forGo
    rw [st]
    simp only [R.bind_ok]
    exact ih
end
end Qq.Lw

set_option maxHeartbeats 1000000
/-! P39: the lots that tell the log. -/
namespace Qq.Lw
open PySem L2
/-! logs, compared -/
def vlD : En → PyData
  | .inn w => .str w
  | .out w => .str w
  | .go i => .int i
def enD (e : En) : PyData := .tuple [.str e.wd, vlD e]
theorem en_pd (e : En) : (enT true e).pd = some (enD e) := by
  cases e <;> rfl
theorem eqv_en (a b : En) : PyData.eqv (enD a) (enD b) = true ↔ a = b := by
  have hio : ((("in" : Str) == "out") = false) := by decide +kernel
  have hig : ((("in" : Str) == "go") = false) := by decide +kernel
  have hog : ((("out" : Str) == "go") = false) := by decide +kernel
  have hoi : ((("out" : Str) == "in") = false) := by decide +kernel
  have hgi : ((("go" : Str) == "in") = false) := by decide +kernel
  have hgo : ((("go" : Str) == "out") = false) := by decide +kernel
  unfold enD
  cases a <;> cases b <;> simp only [En.wd, vlD, PyData.eqv, PyData.eqvAll, hio, hig, hog, hoi, hgi, hgo, Bool.false_and, Bool.and_true, beq_self_eq_true, Bool.true_and, beq_iff_eq, En.inn.injEq, En.out.injEq, En.go.injEq, reduceCtorEq, Bool.false_eq_true]
theorem eqv_ens : ∀ a b : List En, PyData.eqvAll (a.map enD) (b.map enD) = true ↔ a = b
  | [], [] => by simp [PyData.eqvAll]
  | [], _ :: _ => by simp [PyData.eqvAll]
  | _ :: _, [] => by simp [PyData.eqvAll]
  | x :: a, y :: b => by
    rw [List.map_cons, List.map_cons]
    unfold PyData.eqvAll
    rw [Bool.and_eq_true, eqv_ens a b, eqv_en, List.cons.injEq]
theorem log_pdg (l : List En) : (logT true l).pdg = .tuple (l.map enD) := by
  have hl : T.pdL (l.map (enT true)) = some (l.map enD) := by
    rw [pdL_of fun d hd => by
      obtain ⟨e, _, rfl⟩ := List.mem_map.mp hd
      exact ⟨_, en_pd e⟩, List.map_map]
    congr 1
    refine List.map_congr_left fun e _ => ?_
    show (enT true e).pdg = enD e
    unfold T.pdg
    rw [en_pd]; rfl
  unfold T.pdg
  have : (logT true l).pd = some (.tuple (l.map enD)) := by
    show (match T.pdL (l.map (enT true)) with
      | some ps => some (PyData.tuple ps)
      | none => none) = _
    rw [hl]
  rw [this]; rfl
theorem eq_logs {a b : List En} (ha : ∀ e ∈ a, EnOk e) (hb : ∀ e ∈ b, EnOk e) (la : a.length < 1000000) (lb : b.length < 1000000) : ∃ c : Bool, eqT (logT true a) (logT true b) = some c ∧ (c = true ↔ a = b) := by
  refine ⟨_, eqT_pln (k := 2) (by decide) (pl_log ha la) (pl_log hb lb), ?_⟩
  rw [log_pdg, log_pdg]
  unfold PyData.eqv
  exact eqv_ens a b
section
variable {fs : List FI} {wf : Nat} {pm : Nat → List D → List D → Option (List D)}
def rE10 : C := (.ife (.cmp .Eq (.idx (.var 10) (.cst (.int 0))) (.cst (.str "go"))) (.var 10) (.tup (.cons (.cst (.str "come")) (.cons (.idx (.var 10) (.cst (.int 1))) .nil))))
theorem row_go {cl : Nat → List D → Sto → R D} {B0 : List Bar} {x0 x1 x2 x3 x4 x5 x6 x7 x8 x9 : Option D} {S : Sto} : ∀ (ds : List Dd) (h : Hd) (j : Int),
    compGo (compEl cl pm [10] (.n 10) (.cst (.bl true)) rE10 [x0, x1, x2, x3, x4, x5, x6, x7, x8, x9, none]) ((wEns B0 ds h j).map (enT true)) S = .ok (ds.map ddT) S
  | [], _, _ => rfl
  | d :: ds, h, j => by
    have ih := row_go (cl := cl) (B0 := B0) (x0 := x0) (x1 := x1) (x2 := x2) (x3 := x3) (x4 := x4) (x5 := x5) (x6 := x6) (x7 := x7) (x8 := x8) (x9 := x9) (S := S) ds (wNext B0 h j d) (wAdv j d)
    rw [wEns_cons, List.map_cons, List.map_cons]
    have l2 : (2 : Nat) ≤ line := by unfold line; omega
    refine compGo_c (o := some _) (compEl_tt (r' := [x0, x1, x2, x3, x4, x5, x6, x7, x8, x9, some (.t (enT true (wEn B0 h d)))]) rfl rfl ?_ (take_len S)) ih
    cases d with
    | go i =>
      have ee : enT true (wEn B0 h (.go i)) = .tup [.str "go", .int (i : Int)] := rfl
      have e2 : ddT (.go i) = .tup [.str "go", .int (i : Int)] := rfl
      rw [ee, e2]
      simp -implicitDefEqProofs [rE10, ix00, cgg, tr_bl]
    | come w =>
      have e2 : ddT (.come w) = .tup [.str "come", .str w] := rfl
      rw [e2]
      cases hq : (stops B0 h w).isEmpty with
      | true =>
        have ee : enT true (wEn B0 h (.come w)) = .tup [.str "in", .str w] := by simp [wEn, hq, enT, sq, En.wd, En.vl]
        rw [ee]
        simp -implicitDefEqProofs [rE10, ix00, ix1, cig, tr_bl, trL, l2]
      | false =>
        have ee : enT true (wEn B0 h (.come w)) = .tup [.str "out", .str w] := by simp [wEn, hq, enT, sq, En.wd, En.vl]
        rw [ee]
        simp -implicitDefEqProofs [rE10, ix00, ix1, cog, tr_bl, trL, l2]
/-- the dict, frozen by its first reading -/
def stD (S : Sto) (kvs : List (List Key × T)) (b : Bool) : Sto := S ++ [if b then .gon (.dT kvs) else .dT kvs]
theorem stD_frz (S : Sto) (kvs : List (List Key × T)) (b : Bool) : frzS (stD S kvs b) (see (stD S kvs b) (.o S.length)) = .ok (.t (.dT kvs)) (stD S kvs true) := by
  cases b with
  | true =>
    have e : see (stD S kvs true) (.o S.length) = .t (.dT kvs) := by
      unfold see stD
      simp
    rw [e]; rfl
  | false =>
    have e : see (stD S kvs false) (.o S.length) = .o S.length := see_dT S kvs
    rw [e]
    unfold frzS stD
    simp
def bE8 : C := (.tup (.cons (.var 8) (.cons (.idx (.frz (.var 5)) (.var 8)) .nil)))
theorem brs_go {cl : Nat → List D → Sto → R D} {L : List (List Str)} {f : List Str → Int} {rs : List Hd} (hf : ∀ g ∈ L, f g = ((smN rs g : Nat) : Int)) {x0 x1 x2 x3 x4 x6 x7 x8 x9 x10 : Option D} {S : Sto} : ∀ (p : List (List Str)) (b : Bool), (∀ g ∈ p, g ∈ L) →
    ∃ b', compGo (compEl cl pm [8] (.n 8) (.cst (.bl true)) bE8 [x0, x1, x2, x3, x4, some (.o S.length), x6, x7, x8, x9, x10]) (p.map grp) (stD S (kD L f) b) = .ok ((barsOf rs p).map barT) (stD S (kD L f) b')
  | [], b, _ => ⟨b, rfl⟩
  | g :: p, b, hp => by
    obtain ⟨b', ih⟩ := brs_go (cl := cl) hf (x0 := x0) (x1 := x1) (x2 := x2) (x3 := x3) (x4 := x4) (x6 := x6) (x7 := x7) (x8 := x8) (x9 := x9) (x10 := x10) (S := S) p true fun x hx => hp x (List.mem_cons_of_mem _ hx)
    refine ⟨b', ?_⟩
    have hi := idx_kD (hp g List.mem_cons_self) f
    rw [hf g (hp g List.mem_cons_self)] at hi
    have hz := stD_frz S (kD L f) b
    have hlen : (stD S (kD L f) true).length = (stD S (kD L f) b).length := by unfold stD; simp
    have l2 : (2 : Nat) ≤ line := by unfold line; omega
    have eb : T.tup [grp g, .int ((smN rs g : Nat) : Int)] = barT (g, smN rs g) := rfl
    show compGo _ (grp g :: p.map grp) _ = .ok (barT (g, smN rs g) :: (barsOf rs p).map barT) _
    refine compGo_c (o := some _) (compEl_tt2 (r' := [x0, x1, x2, x3, x4, some (.o S.length), x6, x7, some (.t (grp g)), x9, x10]) rfl rfl ?_ (by rw [← hlen]; exact take_len _)) ih
    have e1 : ev cl pm (.frz (.var 5)) [x0, x1, x2, x3, x4, some (.o S.length), x6, x7, some (.t (grp g)), x9, x10] (stD S (kD L f) b) = .ok (.t (.dT (kD L f))) (stD S (kD L f) true) := by
      show R.bind (R.ok (see (stD S (kD L f) b) (.o S.length)) (stD S (kD L f) b)) _ = _
      exact hz
    generalize stD S (kD L f) true = S1 at *
    generalize stD S (kD L f) b = S0 at *
    have e2 : ev cl pm (.idx (.frz (.var 5)) (.var 8)) [x0, x1, x2, x3, x4, some (.o S.length), x6, x7, some (.t (grp g)), x9, x10] S0 = .ok (.t (.int ((smN rs g : Nat) : Int))) S1 := by
      rw [ev_idx, e1]
      simp -implicitDefEqProofs [hi]
    have e3 : ev cl pm (.var 8) [x0, x1, x2, x3, x4, some (.o S.length), x6, x7, some (.t (grp g)), x9, x10] S0 = .ok (.t (grp g)) S0 := rfl
    unfold bE8
    rw [ev_tup, ev_cons, e3]
    simp only [R.bind_ok]
    rw [ev_cons, e2]
    simp -implicitDefEqProofs [trL, l2, eb]
def tL9 (iTo : Nat) : C := (.cmp .Eq (.call iTo (.cons (.bi false .tuple (.cons (.comp false [8] (.n 8) .seq (.cons (.var 9) .nil) (.cst (.bl true)) bE8) .nil)) (.cons (.var 2) .nil))) (.bi false .tuple (.cons (.var 1) .nil)))
end
end Qq.Lw

set_option maxHeartbeats 1000000
/-! P40: the lots that tell the log (2). -/
namespace Qq.Lw
open PySem L2
theorem okLot_iff (W : List (List (List Str))) (p : List (List Str)) : okLot W p = true ↔ ∀ ws ∈ W, ∃ g ∈ ws, g ∈ p := by
  unfold okLot hit
  rw [List.all_eq_true]
  constructor
  · intro h ws hw
    obtain ⟨g, hg, e⟩ := List.any_eq_true.mp (h ws hw)
    exact ⟨g, hg, of_decide_eq_true e⟩
  · intro h ws hw
    obtain ⟨g, hg, e⟩ := h ws hw
    exact List.any_eq_true.mpr ⟨g, hg, decide_eq_true e⟩
theorem barsOf_ok {rs : List Hd} {L p : List (List Str)} (hL : LOk L) (hp : ∀ g ∈ p, g ∈ L) : ∀ b ∈ barsOf rs p, GOk b.1 := fun b hb => by
  obtain ⟨g, hg, rfl⟩ := List.mem_map.mp hb
  exact hL.2 g (hp g hg)
/-- a lot tells the log, as the law has it -/
theorem lot_eq {L p : List (List Str)} (hL : LOk L) (hp : ∀ g ∈ p, g ∈ L) {B0 : List Bar} {ds : List Dd} (hd : ∀ d ∈ ds, DdOk SOk d) (hl : ds.length ≤ 1000) {l : List En} (el : l = wEns B0 ds [] 0) :
    eqT (logT true (wEns (barsOf (rows l) p) ds [] 0)) (logT true l) = some (okLot (whys (rows l) L l [] 0) p) := by
  subst el
  obtain ⟨c, e1, e2⟩ := eq_logs (wEns_ok (barsOf (rows (wEns B0 ds [] 0)) p) ds [] 0 hd) (wEns_ok B0 ds [] 0 hd) (by rw [wEns_len]; omega) (by rw [wEns_len]; omega)
  rw [e1]
  congr 1
  rw [Bool.eq_iff_iff, e2, okLot_iff]
  exact told_iff (rows_ne _) hp ds [] 0 fun x hx => hx
section
variable {fs : List FI} {wf : Nat} {pm : Nat → List D → List D → Option (List D)}
theorem b_tupt (ts : List T) : biT .tuple [.tup ts] = some (.tup ts) := rfl
theorem lots_go {cl : Nat → List D → Sto → R D} {iTo : Nat} {L : List (List Str)} (hL : LOk L) {f : List Str → Int} {l : List En} (hf : ∀ g ∈ L, f g = ((smN (rows l) g : Nat) : Int)) {B0 : List Bar} {ds : List Dd} (hd : ∀ d ∈ ds, DdOk SOk d) (hl : ds.length ≤ 1000) (el : l = wEns B0 ds [] 0)
    (hto : ∀ (B : List Bar) (S : Sto), (∀ b ∈ B, GOk b.1) → B.length ≤ 1000 → cl iTo [.t (.tup (B.map barT)), .t (.tup (ds.map ddT))] S = .ok (.t (logT true (wEns B ds [] 0))) S)
    {x0 x3 x4 x6 x7 x8 : Option D} {S : Sto} : ∀ (ps : List (List (List Str))) (b : Bool), (∀ p ∈ ps, p.length ≤ 1000 ∧ ∀ g ∈ p, g ∈ L) →
    ∃ b', compGo (compEl cl pm [9] (.n 9) (tL9 iTo) (.var 9) [x0, some (.t (logT true l)), some (.t (.tup (ds.map ddT))), x3, x4, some (.o S.length), x6, x7, x8, none, none]) (ps.map lotT) (stD S (kD L f) b) = .ok ((ps.filter (okLot (whys (rows l) L l [] 0))).map lotT) (stD S (kD L f) b')
  | [], b, _ => ⟨b, rfl⟩
  | p :: ps, b, hp => by
    obtain ⟨hp1, hp2⟩ := hp p List.mem_cons_self
    obtain ⟨b1, eb⟩ := brs_go (cl := cl) (pm := pm) hf (x0 := x0) (x1 := some (.t (logT true l))) (x2 := some (.t (.tup (ds.map ddT)))) (x3 := x3) (x4 := x4) (x6 := x6) (x7 := x7) (x8 := x8) (x9 := some (.t (lotT p))) (x10 := none) (S := S) p b hp2
    obtain ⟨b', ih⟩ := lots_go hL hf hd hl el hto (x0 := x0) (x3 := x3) (x4 := x4) (x6 := x6) (x7 := x7) (x8 := x8) (S := S) ps b1 fun q hq => hp q (List.mem_cons_of_mem _ hq)
    refine ⟨b', ?_⟩
    have h1 := hto (barsOf (rows l) p) (stD S (kD L f) b1) (barsOf_ok hL hp2) (by unfold barsOf; rw [List.length_map]; exact hp1)
    have h2 : cmpT .Eq (logT true (wEns (barsOf (rows l) p) ds [] 0)) (logT true l) = some (okLot (whys (rows l) L l [] 0) p) := lot_eq hL hp2 hd hl el
    have hs : ∀ S, srcT .seq (.l [.t (lotT p)]) S = some (none, p.map grp) := fun S => src_tup S (by rw [List.length_map]; unfold line; omega)
    have hlen : (stD S (kD L f) b1).length = (stD S (kD L f) b).length := by unfold stD; simp
    have ht : biT .tuple [logT true l] = some (logT true l) := rfl
    have key : ev cl pm (tL9 iTo) [x0, some (.t (logT true l)), some (.t (.tup (ds.map ddT))), x3, x4, some (.o S.length), x6, x7, x8, some (.t (lotT p)), none] (stD S (kD L f) b) = .ok (.t (.bl (okLot (whys (rows l) L l [] 0) p))) (stD S (kD L f) b1) := by
      generalize stD S (kD L f) b = S0 at *
      generalize stD S (kD L f) b1 = S1 at *
      simp -implicitDefEqProofs [-List.map_map, tL9, hs, eb, b_tupl, h1, ht, h2]
    rw [List.map_cons]
    cases hb : okLot (whys (rows l) L l [] 0) p with
    | true =>
      rw [hb] at key
      rw [List.filter_cons_of_pos hb, List.map_cons]
      have e : ∀ S0 : Sto, ev cl pm (.var 9) [x0, some (.t (logT true l)), some (.t (.tup (ds.map ddT))), x3, x4, some (.o S.length), x6, x7, x8, some (.t (lotT p)), none] S0 = .ok (.t (lotT p)) S0 := fun _ => rfl
      refine compGo_c (o := some _) ?_ ih
      unfold compEl
      have ag : asgT (.n 9) (lotT p) (wip [x0, some (.t (logT true l)), some (.t (.tup (ds.map ddT))), x3, x4, some (.o S.length), x6, x7, x8, none, none] [9]) = some [x0, some (.t (logT true l)), some (.t (.tup (ds.map ddT))), x3, x4, some (.o S.length), x6, x7, x8, some (.t (lotT p)), none] := rfl
      have tk : List.take (stD S (kD L f) b).length (stD S (kD L f) b1) = stD S (kD L f) b1 := by rw [← hlen]; exact take_len _
      simp only [ag, key, e, R.bind_ok]
      simp [R.nox, R.cut, tk, D.tr, D.bool]
    | false =>
      rw [hb] at key
      rw [List.filter_cons_of_neg (by rw [hb]; decide)]
      refine compGo_c (o := none) ?_ ih
      unfold compEl
      have ag : asgT (.n 9) (lotT p) (wip [x0, some (.t (logT true l)), some (.t (.tup (ds.map ddT))), x3, x4, some (.o S.length), x6, x7, x8, none, none] [9]) = some [x0, some (.t (logT true l)), some (.t (.tup (ds.map ddT))), x3, x4, some (.o S.length), x6, x7, x8, some (.t (lotT p)), none] := rfl
      have tk : List.take (stD S (kD L f) b).length (stD S (kD L f) b1) = stD S (kD L f) b1 := by rw [← hlen]; exact take_len _
      simp only [ag, key, R.bind_ok]
      simp [R.nox, R.cut, tk, D.tr, D.bool]
def FLots (iI iSu iTo : Nat) : FI := ⟨2, 11, false, (.seq (.par [3, 4, 5] (.cons (.lst false .nil) (.cons (.cst (.int 0)) (.cons (.bi true .dict (.cons (.comp false [8] (.n 8) .seq (.cons (.var 0) .nil) (.cst (.bl true)) (.tup (.cons (.var 8) (.cons (.cst (.int 0)) .nil)))) .nil)) .nil)))) (.seq (.for_ (.cons (.n 6) (.cons (.n 7) .nil)) .seq (.cons (.var 1) .nil) (hB iI)) (.seq (.asg (.n 2) (.bi false .tuple (.cons (.comp false [10] (.n 10) .seq (.cons (.var 1) .nil) (.cst (.bl true)) rE10) .nil))) (.seq (.ret (.comp false [9] (.n 9) .seq (.cons (.call iSu (.cons (.var 0) .nil)) .nil) (tL9 iTo) (.var 9))) .nil))))⟩
theorem lots_ok {n iLo iI iSu iTo : Nat} (hLo : fs[iLo]? = some (FLots iI iSu iTo)) {L : List (List Str)} (hL : LOk L) (hn : L.Nodup) (hl8 : L.length ≤ 8) {B0 : List Bar} {ds : List Dd} (hd : ∀ d ∈ ds, DdOk SOk d) (hl : ds.length ≤ 1000) {l : List En} (el : l = wEns B0 ds [] 0)
    (hto : ∀ (B : List Bar) (S : Sto), (∀ b ∈ B, GOk b.1) → B.length ≤ 1000 → callF fs wf pm n iTo [.t (.tup (B.map barT)), .t (.tup (ds.map ddT))] S = .ok (.t (logT true (wEns B ds [] 0))) S)
    (hsu : ∀ S : Sto, callF fs wf pm n iSu [.t (lotT L)] S = .ok (.t (.lst ((subs L).map lotT))) S)
    (hc : ∀ (h : Hd), (∀ p ∈ h, PyData.strOk p.2 = true) → h.length ≤ line → ∀ g ∈ L, ∀ S : Sto, callF fs wf pm n iI [.t (hLT h), .t (grp g)] S = .ok (.t (.int (cnt h g : Nat))) S) (S : Sto) :
    callF fs wf pm (n + 1) iLo [.t (lotT L), .t (logT true l)] S = .ok (.t (.lst (((subs L).filter (okLot (whys (rows l) L l [] 0))).map lotT))) S := by
  refine callF_of hLo rfl (Le.refl _) ?_
  generalize callF fs wf pm n = cl at *
  have hll : l.length = ds.length := by rw [el, wEns_len]
  have heo : ∀ e ∈ l, EnOk e := by rw [el]; exact wEns_ok B0 ds [] 0 hd
  have hs1 : ∀ S, srcT .seq (.l [.t (lotT L)]) S = some (none, L.map grp) := fun S => src_tup S (by rw [List.length_map]; unfold line; omega)
  have hs2 : ∀ S, srcT .seq (.l [.t (logT true l)]) S = some (none, l.map (enT true)) := fun S => src_sq true S (by rw [List.length_map]; unfold line; omega)
  have hs3 : ∀ S, srcT .seq (.l [.t (.lst ((subs L).map lotT))]) S = some (none, (subs L).map lotT) := fun S => src_lst S (by rw [List.length_map]; have := subs_len hl8; unfold line; omega)
  have l2 : (2 : Nat) ≤ line := by unfold line; omega
  have z0 : (0 : Nat) ≤ line := Nat.zero_le _
  have h8 : compGo (compEl cl pm [8] (.n 8) (.cst (.bl true)) (.tup (.cons (.var 8) (.cons (.cst (.int 0)) .nil))) [some (.t (lotT L)), some (.t (logT true l)), none, none, none, none, none, none, none, none, none]) (L.map grp) S = .ok (L.map fun g => .tup [grp g, .int 0]) S := by
    refine go_map L fun g hg => ?_
    refine compEl_tt (r' := [some (.t (lotT L)), some (.t (logT true l)), none, none, none, none, none, none, some (.t (grp g)), none, none]) rfl rfl ?_ (take_len S)
    simp -implicitDefEqProofs [trL, l2]
  have hb : biT .dict [.lst (L.map fun g => .tup [grp g, .int 0])] = some (.dT (kD L fun _ => 0)) := by
    show (pairsQ _).map _ = _
    rw [pairs_0]
    show some (T.dT (mrgQ [] _)) = _
    rw [mrg_kD hn]
  have o1 : own true (.dT (kD L fun _ => 0)) S = .ok (.o S.length) (S ++ [.dT (kD L fun _ => 0)]) := rfl
  obtain ⟨y3, y4, y6, y7, y8, lo⟩ := hB_loop (wf := wf) (pm := pm) (cl := cl) (iI := iI) hn (by unfold line; omega) (x1 := some (.t (logT true l))) (x2 := none) (x9 := none) (S := S) hc l [] 0 (fun _ => 0) none none none heo HOk.nil (by rw [List.length_nil]; unfold line; omega)
  have hf : ∀ g ∈ L, mxs l [] 0 (fun _ => 0) g = ((smN (rows l) g : Nat) : Int) := fun g _ => by rw [mxs_rows, smN_eq (rows_ne l)]
  have hr : ∀ {x3 x4 x5 x6 x7 x8 : Option D} {S : Sto}, compGo (compEl cl pm [10] (.n 10) (.cst (.bl true)) rE10 [some (.t (lotT L)), some (.t (logT true l)), none, x3, x4, x5, x6, x7, x8, none, none]) (l.map (enT true)) S = .ok (ds.map ddT) S := fun {x3 x4 x5 x6 x7 x8 S} => by
    have := row_go (pm := pm) (cl := cl) (B0 := B0) (x0 := some (.t (lotT L))) (x1 := some (.t (logT true l))) (x2 := none) (x3 := x3) (x4 := x4) (x5 := x5) (x6 := x6) (x7 := x7) (x8 := x8) (x9 := none) (S := S) ds [] 0
    rw [← el] at this
    exact this
  obtain ⟨b', lg⟩ := lots_go (pm := pm) (cl := cl) (iTo := iTo) hL hf hd hl el hto (x0 := some (.t (lotT L))) (x3 := y3) (x4 := y4) (x6 := y6) (x7 := y7) (x8 := y8) (S := S) (subs L) false fun p hp => ⟨by have := (subs_mem hp).length_le; omega, fun g hg => (subs_mem hp).subset hg⟩
  have e0 : T.lst [] = hLT [] := rfl
  have eD : stD S (kD L (mxs l [] 0 fun _ => 0)) false = S ++ [.dT (kD L (mxs l [] 0 fun _ => 0))] := rfl
  rw [← eD] at lo
  have tk : List.take S.length (stD S (kD L (mxs l [] 0 fun _ => 0)) b') = S := by unfold stD; simp
  generalize (subs L).map lotT = M at *
  generalize (List.filter (okLot (whys (rows l) L l [] 0)) (subs L)).map lotT = N at *
  generalize hk : stD S (kD L (mxs l [] 0 fun _ => 0)) b' = S2 at *
  generalize stD S (kD L (mxs l [] 0 fun _ => 0)) false = S1 at *
  unfold bodyF
  simp -implicitDefEqProofs [-List.map_map, FLots, trL, z0, e0, hs1, h8, hb, o1, hs2, lo, hr, b_tupl, hsu, hs3, lg, fin, R.cut, take_len1, take_len, tk]
end
end Qq.Lw

set_option maxHeartbeats 1000000
/-! P41: a case of k77, the frame. -/
namespace Qq.Lw
open PySem L2
section
variable {wf : Nat} {pm : Nat → List D → List D → Option (List D)}
def e1 (iLo iL : Nat) : C := (.cons (.call iLo (.cons (.var 0) (.cons (.var 1) .nil))) (.cons (.call iL (.cons (.var 1) .nil)) (.cons (.call iL (.cons (.var 0) .nil)) .nil)))
def hd77 (iLo iL iH iFe iSo iSm : Nat) (rest : P) : P := (.seq (.par [8, 9, 10] (e1 iLo iL)) (.seq (.asg (.n 2) (.bi false .minL (.cons (.comp false [11] (.n 11) .seq (.cons (.var 8) .nil) (.cst (.bl true)) (.frz (.bi false .len (.cons (.var 11) .nil)))) .nil))) (.seq (.asg (.n 3) (.lst false (.cons (.frz (.call iH (.cons (.var 0) (.cons (.var 1) .nil)))) (.cons (.frz (.call iFe (.cons (.var 0) (.cons (.var 1) .nil)))) .nil)))) (.seq (.asg (.n 3) (.bin false .Add (.var 3) (.lst false (.cons (.frz (.callk iH 0 .nil (.cons (.var 9) (.cons (.var 10) .nil)))) (.cons (.frz (.callk iFe 1 .nil (.cons (.var 9) (.cons (.var 10) .nil)))) .nil))))) (.seq (.asg (.n 4) (.call iSo (.cons (.var 0) (.cons (.var 1) .nil)))) (.seq (.ite (.orV (.notV (.tru (.call iSm (.cons (.var 3) (.cons (.bin false .Mult (.lst false (.cons (.frz (.bi false .len (.cons (.var 8) .nil))) (.cons (.var 2) .nil))) (.cst (.int 2))) .nil))))) (.cmp .NotIn (.var 4) (.var 8))) (.seq (.ret (.cst (.bl false))) .nil) .nil) (.seq (.ite (.orV (.cmp .NotEq (.bi false .len (.cons (.var 4) .nil)) (.var 2)) (.notV (.tru (.isi (.var 4) ["tuple"] true)))) (.seq (.ret (.cst (.bl false))) .nil) .nil) (.seq (.ite (.notV (.tru (.call iSm (.cons (.lst false (.cons (.frz (.call iSo (.cons (.var 10) (.cons (.var 9) .nil)))) (.cons (.frz (.callk iSo 3 .nil (.cons (.var 9) (.cons (.var 10) .nil)))) .nil))) (.cons (.bin false .Mult (.lst false (.cons (.var 4) .nil)) (.cst (.int 2))) .nil))))) (.seq (.ret (.cst (.bl false))) .nil) .nil) rest))))))))
theorem hd77_ok (rest : P) {cl : Nat → List D → Sto → R D} {iLo iL iH iFe iSo iSm : Nat} {gL gl hL hl nE : T} {m : Int} {fx tx lens : List T} {S : Sto}
    (a1 : ∀ S : Sto, cl iLo [.t gL, .t gl] S = .ok (.t (.lst fx)) S) (a2 : ∀ S : Sto, cl iL [.t gl] S = .ok (.t hl) S) (a3 : ∀ S : Sto, cl iL [.t gL] S = .ok (.t hL) S)
    (hsf : srcT .seq (.l [.t (.lst fx)]) S = some (none, fx))
    (hgo : compGo (compEl cl pm [11] (.n 11) (.cst (.bl true)) (.frz (.bi false .len (.cons (.var 11) .nil))) [some (.t gL), some (.t gl), none, none, none, none, none, none, some (.t (.lst fx)), some (.t hl), some (.t hL), none]) fx S = .ok lens S)
    (hmin : biT .minL [.lst lens] = some (.int m))
    (b1 : ∀ S : Sto, cl iH [.t gL, .t gl] S = .ok (.t nE) S) (b2 : ∀ S : Sto, cl iFe [.t gL, .t gl] S = .ok (.t (.int m)) S)
    (b3 : ∀ S : Sto, cl iH [.t hL, .t hl] S = .ok (.t nE) S) (b4 : ∀ S : Sto, cl iFe [.t hL, .t hl] S = .ok (.t (.int m)) S)
    (hp0 : ∀ a b, pm 0 [] [a, b] = some [b, a]) (hp1 : ∀ a b, pm 1 [] [a, b] = some [b, a]) (hp3 : ∀ a b, pm 3 [] [a, b] = some [b, a])
    (c1 : ∀ S : Sto, cl iSo [.t gL, .t gl] S = .ok (.t (.tup tx)) S) (c2 : ∀ S : Sto, cl iSo [.t hL, .t hl] S = .ok (.t (.tup tx)) S)
    (d0 : biT .len [.lst fx] = some nE) (d2 : ∀ S : Sto, cl iSm [.t (.lst [nE, .int m, nE, .int m]), .t (.lst [nE, .int m, nE, .int m])] S = .ok (.t (.bl true)) S)
    (d3 : cmpT .NotIn (.tup tx) (.lst fx) = some false) (f1 : biT .len [.tup tx] = some (.int m)) (f2 : ∀ S : Sto, cl iSm [.t (.lst [.tup tx, .tup tx]), .t (.lst [.tup tx, .tup tx])] S = .ok (.t (.bl true)) S) :
    exec wf cl pm (hd77 iLo iL iH iFe iSo iSm rest) [some (.t gL), some (.t gl), none, none, none, none, none, none, none, none, none, none] S =
      exec wf cl pm rest [some (.t gL), some (.t gl), some (.t (.int m)), some (.t (.lst [nE, .int m, nE, .int m])), some (.t (.tup tx)), none, none, none, some (.t (.lst fx)), some (.t hl), some (.t hL), none] S := by
  have f0 : ∀ (t : T) (S : Sto), frzS S (.t t) = .ok (.t t) S := fun _ _ => rfl
  have l2 : (2 : Nat) ≤ line := by unfold line; omega
  have l1 : (1 : Nat) ≤ line := by unfold line; omega
  have g1 : binT .Add (.lst [nE, .int m]) (.lst [nE, .int m]) = some (.lst [nE, .int m, nE, .int m]) := b_cat _ _ (by unfold line; simp)
  have g2 : binT .Mult (.lst [nE, .int m]) (.int 2) = some (.lst [nE, .int m, nE, .int m]) := b_two _ _
  have g3 : binT .Mult (.lst [.tup tx]) (.int 2) = some (.lst [.tup tx, .tup tx]) := rfl
  have g4 : cmpT .NotEq (.int m) (.int m) = some false := by rw [c_ne]; simp
  have g5 : tyT (.tup tx) = some "tuple" := rfl
  simp -implicitDefEqProofs [hd77, e1, a1, a2, a3, asgP, hsf, hgo, hmin, b1, b2, b3, b4, hp0, hp1, hp3, f0, trL, l1, l2, g1, c1, c2, d0, g2, d2, tr_bl, d3, f1, g4, g5, i12, g3, f2]
end
end Qq.Lw

set_option maxHeartbeats 1000000
/-! P42: a case of k77, the frame (2). -/
namespace Qq.Lw
open PySem L2
section
variable {wf : Nat} {pm : Nat → List D → List D → Option (List D)}
def od7 : C := (.cons (.frz (.bi false .list (.cons (.var 4) .nil))) (.cons (.bin false .Add (.var 4) (.tup (.cons (.tup (.cons (.cst (.str "zzz")) .nil)) .nil))) (.cons (.ife (.cmp .NotEq (.var 4) (.tup .nil)) (.bin false .Add (.var 4) (.sl false (.var 4) none (some ()) .nil (.cst (.int 1)))) (.cst .non)) (.cons (.cst .non) (.cons (.cst (.int 0)) (.cons (.cst (.str "ab")) (.cons (.tup (.cons (.cst .non) .nil)) .nil)))))))
def md77 (iSu : Nat) (rest : P) : P := (.seq (.asg (.n 5) (.call iSu (.cons (.var 0) .nil))) (.seq (.asg (.n 6) (.lst true od7)) (.seq (.ite (.cmp .Gt (.bi false .len (.cons (.var 4) .nil)) (.cst (.int 1))) (.seq (.drop (.mth "append" (.var 6) (.cons (.rev (.var 4)) .nil))) .nil) .nil) rest)))
def odds (tx : List T) (o2 o3 : T) (m : Nat) : List T := if 1 < m then [.lst tx, o2, o3, .non, .int 0, .str "ab", .tup [.non], .tup tx.reverse] else [.lst tx, o2, o3, .non, .int 0, .str "ab", .tup [.non]]
theorem md77_ok (rest : P) {cl : Nat → List D → Sto → R D} {iSu : Nat} {gL o2 o3 t1 : T} {m : Nat} {ev' tx : List T} {S : Sto} {b : Bool} {x1 x2 x3 x7 x8 x9 x10 x11 : Option D}
    (a1 : ∀ S : Sto, cl iSu [.t gL] S = .ok (.t (.lst ev')) S) (h1 : binT .Add (.tup tx) (.tup [.tup [.str "zzz"]]) = some o2) (h2 : cmpT .NotEq (.tup tx) (.tup []) = some b)
    (h3 : b = true → slT (.tup tx) none (some 1) = some t1 ∧ binT .Add (.tup tx) t1 = some o3) (h4 : b = false → o3 = .non) (h5 : biT .len [.tup tx] = some (.int (m : Nat))) :
    exec wf cl pm (md77 iSu rest) [some (.t gL), x1, x2, x3, some (.t (.tup tx)), none, none, x7, x8, x9, x10, x11] S =
      exec wf cl pm rest [some (.t gL), x1, x2, x3, some (.t (.tup tx)), some (.t (.lst ev')), some (.o S.length), x7, x8, x9, x10, x11] (S ++ [.lst (odds tx o2 o3 m)]) := by
  have f0 : ∀ (t : T) (S : Sto), frzS S (.t t) = .ok (.t t) S := fun _ _ => rfl
  have l1 : (1 : Nat) ≤ line := by unfold line; omega
  have l0 : (0 : Nat) ≤ line := Nat.zero_le _
  have l7 : (7 : Nat) ≤ line := by unfold line; omega
  have g1 : biT .list [.tup tx] = some (.lst tx) := rfl
  have e7 : ev cl pm od7 [some (.t gL), x1, x2, x3, some (.t (.tup tx)), some (.t (.lst ev')), none, x7, x8, x9, x10, x11] S = .ok (.l [.t (.lst tx), .t o2, .t o3, .t .non, .t (.int 0), .t (.str "ab"), .t (.tup [.non])]) S := by
    cases b with
    | true =>
      obtain ⟨h6, h7⟩ := h3 rfl
      simp -implicitDefEqProofs [od7, g1, f0, trL, l1, l0, h1, h2, pt1, pt2, h6, h7]
    | false =>
      have h6 := h4 rfl
      subst h6
      simp -implicitDefEqProofs [od7, g1, f0, trL, l1, l0, h1, h2]
  have o1 : own true (.lst [.lst tx, o2, o3, .non, .int 0, .str "ab", .tup [.non]]) S = .ok (.o S.length) (S ++ [.lst [.lst tx, o2, o3, .non, .int 0, .str "ab", .tup [.non]]]) := rfl
  have s1 := see_e S [.lst tx, o2, o3, .non, .int 0, .str "ab", .tup [.non]]
  have r1 := rd_e S [.lst tx, o2, o3, .non, .int 0, .str "ab", .tup [.non]]
  have rv : revT (.tup tx) = some (.tup tx.reverse) := rfl
  by_cases hm : 1 < m
  · have hm' : (1 : Int) < (m : Int) := by omega
    have eo : odds tx o2 o3 m = [.lst tx, o2, o3, .non, .int 0, .str "ab", .tup [.non]] ++ [.tup tx.reverse] := if_pos hm
    have ap := app_0 (t := .tup tx.reverse) (us := [.lst tx, o2, o3, .non, .int 0, .str "ab", .tup [.non]]) S (by unfold line; simp)
    rw [eo]
    simp -implicitDefEqProofs [md77, a1, e7, trL, l7, o1, h5, c_gt, hm, hm', s1, r1, mi_app, rv, ap]
  · have hm' : ¬ (1 : Int) < (m : Int) := by omega
    have eo : odds tx o2 o3 m = [.lst tx, o2, o3, .non, .int 0, .str "ab", .tup [.non]] := if_neg hm
    rw [eo]
    simp -implicitDefEqProofs [md77, a1, e7, trL, l7, o1, h5, c_gt, hm, hm']
def isE (iIs : Nat) : C := (.frz (.call iIs (.cons (.var 0) (.cons (.var 1) (.cons (.var 11) .nil)))))
def duE : C := (.andV (.cmp .In (.var 11) (.var 8)) (.cmp .Eq (.bi false .len (.cons (.var 11) .nil)) (.var 2)))
def tl77 (iIs iSm iL : Nat) : P := (.seq (.asg (.n 3) (.bin false .Add (.comp false [11] (.n 11) .seq (.cons (.bin false .Add (.var 5) (.var 6)) .nil) (.cst (.bl true)) (isE iIs)) (.lst false (.cons (.frz (.callk iIs 2 .nil (.cons (.var 4) (.cons (.var 9) (.cons (.var 10) .nil))))) .nil)))) (.seq (.asg (.n 7) (.bin false .Add (.bin false .Add (.comp false [11] (.n 11) .seq (.cons (.var 5) .nil) (.cst (.bl true)) duE) (.bin false .Mult (.lst false (.cons (.cst (.bl false)) .nil)) (.bi false .len (.cons (.var 6) .nil)))) (.lst false (.cons (.cst (.bl true)) .nil)))) (.seq (.ret (.andV (.call iSm (.cons (.var 3) (.cons (.var 7) .nil))) (.cmp .Eq (.lst false (.cons (.var 9) (.cons (.var 10) .nil))) (.lst false (.cons (.frz (.call iL (.cons (.var 1) .nil))) (.cons (.frz (.call iL (.cons (.var 0) .nil))) .nil)))))) .nil)))
theorem tl77_ok {cl : Nat → List D → Sto → R D} {iIs iSm iL : Nat} {gL gl hL hl ft few got0 : T} {os ev' fx tx bl1 bl2 fls d1 got : List T} {S : Sto}
    (a2 : ∀ S : Sto, cl iL [.t gl] S = .ok (.t hl) S) (a3 : ∀ S : Sto, cl iL [.t gL] S = .ok (.t hL) S)
    (h0 : binT .Add (.lst ev') (.lst os) = some (.lst (ev' ++ os))) (h1 : ∀ S, srcT .seq (.l [.t (.lst (ev' ++ os))]) S = some (none, ev' ++ os))
    (h2 : ∀ {x3 x7 : Option D}, compGo (compEl cl pm [11] (.n 11) (.cst (.bl true)) (isE iIs) [some (.t gL), some (.t gl), some (.t few), x3, some (.t (.tup tx)), some (.t (.lst ev')), some (.o S.length), x7, some (.t (.lst fx)), some (.t hl), some (.t hL), none]) (ev' ++ os) (S ++ [.lst os]) = .ok bl1 (S ++ [.lst os]))
    (hp2 : ∀ a b c, pm 2 [] [a, b, c] = some [c, b, a]) (h3 : ∀ S : Sto, cl iIs [.t hL, .t hl, .t (.tup tx)] S = .ok (.t (.bl true)) S)
    (h4 : binT .Add (.lst bl1) (.lst [.bl true]) = some (.lst got))
    (h5 : ∀ S, srcT .seq (.l [.t (.lst ev')]) S = some (none, ev'))
    (h6 : ∀ {x3 x7 : Option D}, compGo (compEl cl pm [11] (.n 11) (.cst (.bl true)) duE [some (.t gL), some (.t gl), some (.t few), x3, some (.t (.tup tx)), some (.t (.lst ev')), some (.o S.length), x7, some (.t (.lst fx)), some (.t hl), some (.t hL), none]) ev' (S ++ [.lst os]) = .ok bl2 (S ++ [.lst os]))
    (h7 : binT .Mult (.lst [.bl false]) (.int (os.length : Nat)) = some (.lst fls)) (h8 : binT .Add (.lst bl2) (.lst fls) = some (.lst d1)) (h9 : binT .Add (.lst d1) (.lst [.bl true]) = some (.lst got))
    (h10 : ∀ S : Sto, cl iSm [.t (.lst got), .t (.lst got)] S = .ok (.t (.bl true)) S) (h11 : cmpT .Eq (.lst [hl, hL]) (.lst [hl, hL]) = some true) :
    ∃ r', exec wf cl pm (tl77 iIs iSm iL) [some (.t gL), some (.t gl), some (.t few), some (.t got0), some (.t (.tup tx)), some (.t (.lst ev')), some (.o S.length), none, some (.t (.lst fx)), some (.t hl), some (.t hL), none] (S ++ [.lst os]) = .ok (.ret (.t (.bl true)), r') (S ++ [.lst os]) := by
  have f0 : ∀ (t : T) (S : Sto), frzS S (.t t) = .ok (.t t) S := fun _ _ => rfl
  have l2 : (2 : Nat) ≤ line := by unfold line; omega
  have l1 : (1 : Nat) ≤ line := by unfold line; omega
  have s1 := see_e S os
  have r1 := rd_e S os
  have hlen : biT .len [.lst os] = some (.int (os.length : Nat)) := rfl
  refine ⟨[some (.t gL), some (.t gl), some (.t few), some (.t (.lst got)), some (.t (.tup tx)), some (.t (.lst ev')), some (.o S.length), some (.t (.lst got)), some (.t (.lst fx)), some (.t hl), some (.t hL), none], ?_⟩
  generalize S ++ [Cl.lst os] = S1 at *
  simp -implicitDefEqProofs [tl77, s1, r1, h0, h1, h2, f0, hp2, h3, trL, l1, l2, h4, h5, h6, hlen, h7, h8, h9, h10, tr_bl, a2, a3, h11]
def FCase77 (iLo iL iH iFe iSo iSm iSu iIs : Nat) : FI := ⟨2, 12, false, hd77 iLo iL iH iFe iSo iSm (md77 iSu (tl77 iIs iSm iL))⟩
end
end Qq.Lw

set_option maxHeartbeats 1000000
/-! P43: a case of k77. -/
namespace Qq.Lw
open PySem L2
theorem no_swap {α : Type} {a b : α} : ∀ {L : List α}, L.Nodup → [a, b].Sublist L → [b, a].Sublist L → False
  | [], _, h, _ => by cases h
  | x :: L, hn, h1, h2 => by
    obtain ⟨hx, hn'⟩ := List.nodup_cons.mp hn
    cases h1 with
    | cons _ h1 =>
      cases h2 with
      | cons _ h2 => exact no_swap hn' h1 h2
      | cons_cons _ h2 => exact hx (h1.subset (List.mem_cons_of_mem _ List.mem_cons_self))
    | cons_cons _ h1 =>
      cases h2 with
      | cons _ h2 => exact hx (h2.subset (List.mem_cons_of_mem _ List.mem_cons_self))
      | cons_cons _ h2 => exact hx (h1.subset List.mem_cons_self)
theorem rev_not {α : Type} {L p : List α} (hn : L.Nodup) (h1 : p.Sublist L) (h2 : p.reverse.Sublist L) : p.length ≤ 1 := by
  match p, h1, h2 with
  | [], _, _ => exact Nat.zero_le _
  | [_], _, _ => exact Nat.le_refl _
  | a :: b :: r, h1, h2 =>
    exfalso
    have e1 : [a, b].Sublist (a :: b :: r) := ((List.nil_sublist r).cons₂ b).cons₂ a
    have e2 : [b, a].Sublist (a :: b :: r).reverse := by
      rw [List.reverse_cons, List.reverse_cons, List.append_assoc]
      exact List.sublist_append_right _ _
    exact no_swap hn (e1.trans h1) (e2.trans h2)
theorem pln_up : ∀ (k : Nat) (t : T), pln k t = true → pln (k + 1) t = true
  | 0, t, h => by
    have h : atm t = true := h
    unfold pln
    cases t <;> first | exact h | cases h
  | k + 1, t, h => by
    unfold pln at h ⊢
    split at h
    · rw [Bool.and_eq_true] at h ⊢
      exact ⟨List.all_eq_true.mpr fun x hx => pln_up k x (List.all_eq_true.mp h.1 x hx), h.2⟩
    · rw [Bool.and_eq_true] at h ⊢
      exact ⟨List.all_eq_true.mpr fun x hx => pln_up k x (List.all_eq_true.mp h.1 x hx), h.2⟩
    · cases t <;> first | exact h | cases h
theorem pl_any {x : T} (h : pln 2 x = true) {Q : List (List (List Str))} (hQ : ∀ q ∈ Q, LOk q) (he : ∀ q ∈ Q, PyData.eqv (lotT q).pdg x.pdg = false) : inT x (Q.map lotT) = some false := by
  rw [inT_pln (k := 2) (by decide) h fun e hm => by
    obtain ⟨q, hq, rfl⟩ := List.mem_map.mp hm
    exact pln_lotT (hQ q hq)]
  congr 1
  rw [List.any_map, List.any_eq_false]
  intro q hq
  show ¬ PyData.eqv (lotT q).pdg x.pdg = true
  rw [he q hq]; decide
theorem flt_nil {b : Bool} (k : Nat) : (List.replicate k [T.bl b]).flatten = List.replicate k (T.bl b) := by
  induction k with
  | zero => rfl
  | succ k ih => rw [List.replicate_succ, List.flatten_cons, ih]; rfl
theorem b_mulL (xs : List T) (k : Nat) (h : xs.length * k ≤ 1000000) (hk : k ≤ 1000000) : binT .Mult (.lst xs) (.int (k : Nat)) = some (.lst (List.replicate k xs).flatten) := by
  have h1 : -(2 ^ 63) ≤ ((k : Nat) : Int) ∧ ((k : Nat) : Int) < 2 ^ 63 ∧ xs.length * ((k : Nat) : Int).toNat ≤ line := ⟨by omega, by omega, by rw [Int.toNat_natCast]; unfold line; omega⟩
  generalize hj : ((k : Nat) : Int) = j at *
  have e : binT .Mult (.lst xs) (.int j) = if -(2 ^ 63) ≤ j ∧ j < 2 ^ 63 ∧ xs.length * j.toNat ≤ line then some (.lst (List.replicate j.toNat xs).flatten) else none := by
    unfold binT
    rfl
  rw [e, if_pos h1, ← hj, Int.toNat_natCast]
theorem map_const_rep {α : Type} (b : T) : ∀ l : List α, (l.map fun _ => b) = List.replicate l.length b
  | [] => rfl
  | x :: l => by rw [List.map_cons, map_const_rep b l, List.length_cons, List.replicate_succ]
theorem go_app {F : T → Sto → R (Option T)} {S : Sto} {as bs : List T} : ∀ {xs ys : List T}, compGo F xs S = .ok as S → (compGo F ys S = .ok bs S) → (∀ x ∈ xs, ∃ y, F x S = .ok (some y) S) → compGo F (xs ++ ys) S = .ok (as ++ bs) S
  | [], ys, h1, h2, _ => by
    cases h1
    exact h2
  | x :: xs, ys, h1, h2, h3 => by
    obtain ⟨y, hy⟩ := h3 x List.mem_cons_self
    rw [compGo_cons, hy] at h1
    simp only [R.bind_ok] at h1
    cases hq : compGo F xs S with
    | ok zs S' =>
      rw [hq] at h1
      simp only [R.bind_ok] at h1
      cases h1
      exact compGo_c (o := some y) hy (go_app hq h2 fun z hz => h3 z (List.mem_cons_of_mem _ hz))
    | exc _ _ => rw [hq] at h1; cases h1
    | bad => rw [hq] at h1; cases h1
theorem ints_lens (Q : List (List (List Str))) : intsT (Q.map fun q => .int (q.length : Nat)) = some (Q.map fun q => ((q.length : Nat) : Int)) := by
  have := intsT_map (Q.map fun q => ((q.length : Nat) : Int))
  rw [List.map_map] at this
  exact this
theorem min_lens {Q : List (List (List Str))} {p : List (List Str)} (hp : p ∈ Q) (hm : ∀ q ∈ Q, p.length ≤ q.length) : biT .minL [.lst (Q.map fun q => .int (q.length : Nat))] = some (.int (p.length : Nat)) := by
  show (match intsT (Q.map fun q => .int (q.length : Nat)) with
    | some (n :: ns) => some (T.int (ns.foldl min n))
    | _ => none) = _
  rw [ints_lens]
  cases Q with
  | nil => cases hp
  | cons a Q =>
    rw [List.map_cons]
    show some (T.int _) = _
    congr 2
    refine (foldl_min_one (m := ((p.length : Nat) : Int)) ?_ ?_).symm
    · exact (List.mem_map (f := fun q : List (List Str) => ((q.length : Nat) : Int)) (l := a :: Q)).mpr ⟨p, hp, rfl⟩
    · intro y hy
      obtain ⟨q, hq, rfl⟩ := (List.mem_map (f := fun q : List (List Str) => ((q.length : Nat) : Int)) (l := a :: Q)).mp hy
      have := hm q hq
      omega
def zz : List Str := ["zzz"]
theorem zzz_ok : GOk zz := ⟨by decide, fun x hx => by rw [List.mem_singleton.mp hx]; decide +kernel⟩
theorem slc1 (p : List (List Str)) : slT (lotT p) none (some 1) = some (lotT (p.take 1)) := by
  have := cut_lo (p.map grp) 1
  show some (T.tup (cutL (p.map grp) none (some ((1 : Nat) : Int)))) = _
  rw [this, ← List.map_take]; rfl
theorem lot_app (p q : List (List Str)) (h : p.length + q.length ≤ line) : binT .Add (lotT p) (lotT q) = some (lotT (p ++ q)) := by
  show (if (p.map grp).length + (q.map grp).length ≤ line then some (T.tup (p.map grp ++ q.map grp)) else none) = _
  rw [if_pos (by rw [List.length_map, List.length_map]; exact h), ← List.map_append]; rfl
section
variable {fs : List FI} {pm : Nat → List D → List D → Option (List D)}
/-- what the calls of a case do -/
structure Cl77 (cl : Nat → List D → Sto → R D) (iLo iL iH iFe iSo iSm iSu iIs : Nat) (L : List (List Str)) (l : List En) (W A : List (List (List Str))) : Prop where
  lo : ∀ S : Sto, cl iLo [.t (lotT L), .t (logT true l)] S = .ok (.t (.lst (((subs L).filter (okLot W)).map lotT))) S
  li : ∀ (t : T) (S : Sto), pln 2 t = true → cl iL [.t t] S = .ok (.t (lstD 2 t)) S
  how : ∀ (a : Bool) (S : Sto), cl iH [.t (lotsS a L), .t (logT a l)] S = .ok (.t (.int ((A.filter (okLot W)).length : Nat))) S
  few : ∀ (a : Bool) (p : List (List Str)) (E : List (List (List Str))), A.filter (okLot W) = p :: E → ∀ S : Sto, cl iFe [.t (lotsS a L), .t (logT a l)] S = .ok (.t (.int (p.length : Nat))) S
  som : ∀ (a : Bool) (p : List (List Str)) (E : List (List (List Str))), A.filter (okLot W) = p :: E → ∀ S : Sto, cl iSo [.t (lotsS a L), .t (logT a l)] S = .ok (.t (lotT p)) S
  iss : ∀ (a : Bool) (p : List (List Str)) (E : List (List (List Str))), A.filter (okLot W) = p :: E → ∀ (x : T) (b : Bool), inT x ((fews p E).map lotT) = some b → ∀ S : Sto, cl iIs [.t (lotsS a L), .t (logT a l), .t x] S = .ok (.t (.bl b)) S
  sm : ∀ (t : T) (S : Sto), pln 4 t = true → cl iSm [.t t, .t t] S = .ok (.t (.bl true)) S
  su : ∀ S : Sto, cl iSu [.t (lotT L)] S = .ok (.t (.lst ((subs L).map lotT))) S
theorem case77_ok {n iC iLo iL iH iFe iSo iSm iSu iIs : Nat} (hC : fs[iC]? = some (FCase77 iLo iL iH iFe iSo iSm iSu iIs)) {L : List (List Str)} {l : List En} {W A : List (List (List Str))} (K : Cl77 (callF fs 300 pm n) iLo iL iH iFe iSo iSm iSu iIs L l W A)
    (hp0 : ∀ a b, pm 0 [] [a, b] = some [b, a]) (hp1 : ∀ a b, pm 1 [] [a, b] = some [b, a]) (hp2 : ∀ a b c, pm 2 [] [a, b, c] = some [c, b, a]) (hp3 : ∀ a b, pm 3 [] [a, b] = some [b, a])
    (hL : LOk L) (hn : L.Nodup) (hl8 : L.length ≤ 8) (he : ∀ e ∈ l, EnOk e) (hll : l.length < 1000000) (hW : ∀ ws ∈ W, ws ≠ []) (hWL : ∀ ws ∈ W, ∀ g ∈ ws, g ∈ L) (hA : A.Perm (subs L)) (hAs : A.Pairwise fun a b => a.length ≤ b.length) (S : Sto) :
    callF fs 300 pm (n + 1) iC [.t (lotT L), .t (logT true l)] S = .ok (.t (.bl true)) S := by
  -- the lots that explain
  have hfull : okLot W L = true := (okLot_iff W L).mpr fun ws hw => by
    cases ws with
    | nil => exact absurd rfl (hW _ hw)
    | cons g r => exact ⟨g, List.mem_cons_self, hWL _ hw g List.mem_cons_self⟩
  have hE : (A.filter (okLot W)).Perm ((subs L).filter (okLot W)) := hA.filter _
  have hin : L ∈ A.filter (okLot W) := hE.mem_iff.mpr (List.mem_filter.mpr ⟨subs_full L, hfull⟩)
  obtain ⟨p, E, hpE⟩ : ∃ p E, A.filter (okLot W) = p :: E := by
    cases hq : A.filter (okLot W) with
    | nil => rw [hq] at hin; cases hin
    | cons p E => exact ⟨p, E, rfl⟩
  have hmn : ∀ q ∈ A.filter (okLot W), p.length ≤ q.length := fun q hq => by
    have hs : (A.filter (okLot W)).Pairwise fun a b => a.length ≤ b.length := hAs.sublist List.filter_sublist
    rw [hpE] at hs hq
    rcases List.mem_cons.mp hq with rfl | hq
    · exact Nat.le_refl _
    · exact (List.pairwise_cons.mp hs).1 q hq
  have hpE' : p ∈ A.filter (okLot W) := by rw [hpE]; exact List.mem_cons_self
  obtain ⟨fine, hfine⟩ : ∃ f, f = (subs L).filter (okLot W) := ⟨_, rfl⟩
  have hpf : p ∈ fine := by rw [hfine]; exact hE.mem_iff.mp hpE'
  have hsub : ∀ q ∈ subs L, LOk q := fun q hq => sub_ok hL (subs_mem hq)
  have hfs : ∀ q ∈ fine, q ∈ subs L := fun q hq => by rw [hfine] at hq; exact (List.mem_filter.mp hq).1
  have hfo : ∀ q ∈ fine, LOk q := fun q hq => hsub q (hfs q hq)
  have hpo : LOk p := hfo p hpf
  have hps : p.Sublist L := subs_mem (hfs p hpf)
  have hpl : p.length ≤ 8 := Nat.le_trans hps.length_le hl8
  have hfe : ∀ q, q ∈ fews p E ↔ q ∈ fine ∧ q.length = p.length := fun q => by
    unfold fews
    rw [List.mem_filter, ← hpE, hE.mem_iff, ← hfine, decide_eq_true_iff]
  have hfeo : ∀ q ∈ fews p E, LOk q := fun q hq => hfo q ((hfe q).mp hq).1
  have hsl := subs_len hl8
  have hfl : fine.length ≤ 256 := by rw [hfine]; exact Nat.le_trans (List.length_filter_le _ _) hsl
  have hEl : (A.filter (okLot W)).length = fine.length := by rw [hfine]; exact hE.length_eq
  -- the calls
  have a1 := K.lo
  rw [← hfine] at a1
  have a2 := fun S => K.li (logT true l) S (pl_log he hll)
  have a3 : ∀ S : Sto, callF fs 300 pm n iL [.t (lotT L)] S = .ok (.t (lstD 2 (lotsS true L))) S := fun S => K.li (lotsS true L) S (pln_lots hL)
  rw [lst_log] at a2
  rw [lst_lots] at a3
  have b1 := K.how true
  have b3 := K.how false
  have b2 := K.few true p E hpE
  have b4 := K.few false p E hpE
  have c1 := K.som true p E hpE
  have c2 := K.som false p E hpE
  rw [hEl] at b1 b3
  -- the first part
  have hsf : srcT .seq (.l [.t (.lst (fine.map lotT))]) S = some (none, fine.map lotT) := src_lst S (by rw [List.length_map]; unfold line; omega)
  have hgo : compGo (compEl (callF fs 300 pm n) pm [11] (.n 11) (.cst (.bl true)) (.frz (.bi false .len (.cons (.var 11) .nil))) [some (.t (lotT L)), some (.t (logT true l)), none, none, none, none, none, none, some (.t (.lst (fine.map lotT))), some (.t (logT false l)), some (.t (lotsS false L)), none]) (fine.map lotT) S = .ok (fine.map fun q => .int (q.length : Nat)) S := by
    refine go_map fine fun q hq => ?_
    refine compEl_tt (r' := [some (.t (lotT L)), some (.t (logT true l)), none, none, none, none, none, none, some (.t (.lst (fine.map lotT))), some (.t (logT false l)), some (.t (lotsS false L)), some (.t (lotT q))]) rfl rfl ?_ (take_len S)
    have h1 := lot_len q
    have f0 : ∀ (t : T) (S : Sto), frzS S (.t t) = .ok (.t t) S := fun _ _ => rfl
    simp -implicitDefEqProofs [-List.map_map, h1, f0]
  have hmin := min_lens hpf fun q hq => hmn q (by rw [hfine] at hq; exact hE.mem_iff.mpr hq)
  have d3 : cmpT .NotIn (lotT p) (.lst (fine.map lotT)) = some false := by
    rw [cNin_l, inT_lot hpo hfo]
    have : decide (p ∈ fine) = true := decide_eq_true hpf
    rw [this]; rfl
  have d2 := fun S => K.sm (.lst [.int (fine.length : Nat), .int (p.length : Nat), .int (fine.length : Nat), .int (p.length : Nat)]) S (pl_l (fun u hu => by
    simp only [List.mem_cons, List.not_mem_nil, or_false] at hu
    rcases hu with rfl | rfl | rfl | rfl <;> rfl) (by simp))
  have d0 : biT .len [.lst (fine.map lotT)] = some (.int (fine.length : Nat)) := by
    show some (T.int ((fine.map lotT).length : Nat)) = _
    rw [List.length_map]
  have f2 := fun S => K.sm (.lst [lotT p, lotT p]) S (pl_l (fun u hu => by
    simp only [List.mem_cons, List.not_mem_nil, or_false] at hu
    rcases hu with rfl | rfl <;> exact pln_up _ _ (pln_lotT hpo)) (by simp))
  -- the second part
  have hp1' : p.length + 1 ≤ line := by unfold line; omega
  have h1 : binT .Add (lotT p) (.tup [.tup [.str "zzz"]]) = some (lotT (p ++ [zz])) := lot_add p zz hp1'
  obtain ⟨bn, hbn⟩ : ∃ b : Bool, b = !decide (p = []) := ⟨_, rfl⟩
  have h2 : cmpT .NotEq (lotT p) (.tup []) = some bn := by
    show (eqT (lotT p) (lotT [])).map _ = _
    rw [eqT_pln (k := 2) (by decide) (pln_lotT hpo) (pln_lotT (p := []) ⟨Nat.zero_le _, fun g hg => by cases hg⟩), eqv_lot, hbn]; rfl
  obtain ⟨o3, ho3⟩ : ∃ t : T, t = if bn then lotT (p ++ p.take 1) else .non := ⟨_, rfl⟩
  have ht1 : (p.take 1).length ≤ 1 := by rw [List.length_take]; omega
  have h3 : bn = true → slT (lotT p) none (some 1) = some (lotT (p.take 1)) ∧ binT .Add (lotT p) (lotT (p.take 1)) = some o3 := fun e => by
    refine ⟨slc1 p, ?_⟩
    rw [lot_app p (p.take 1) (by unfold line; omega), ho3, if_pos e]
  have h4 : bn = false → o3 = .non := fun e => by rw [ho3, e]; rfl
  have h5 := lot_len p
  -- the odd things
  have hod : ∀ x ∈ odds (p.map grp) (lotT (p ++ [zz])) o3 p.length, inT x ((fews p E).map lotT) = some false := by
    have q1 : inT (.lst (p.map grp)) ((fews p E).map lotT) = some false := by
      have hpln : pln 2 (.lst (p.map grp)) = true := pl_l (fun t ht => by
        obtain ⟨g, hg, rfl⟩ := List.mem_map.mp ht
        exact pln_g (hpo.2 g hg)) (by rw [List.length_map]; omega)
      refine pl_any hpln hfeo fun q hq => ?_
      have e : ∃ ps, (T.lst (p.map grp)).pdg = .list ps := by
        obtain ⟨h6, _⟩ := pdg_pln hpln (by decide)
        unfold T.pd at h6
        cases hd : T.pdL (p.map grp) with
        | none => rw [hd] at h6; cases h6
        | some ps => rw [hd] at h6; exact ⟨ps, (Option.some.inj h6).symm⟩
      obtain ⟨ps, e⟩ := e
      rw [e, lot_pdg]
      unfold PyData.eqv; rfl
    have q2 : ∀ q : List (List Str), LOk q → q ∉ fews p E → inT (lotT q) ((fews p E).map lotT) = some false := fun q hq hnq => by
      rw [inT_lot hq hfeo, decide_eq_false hnq]
    have qa : ∀ x : T, atm x = true → (∀ ys, x.pdg ≠ .tuple ys) → inT x ((fews p E).map lotT) = some false := fun x hx hne => by
      refine pl_any (pln_up _ _ (pln_up 0 x hx)) hfeo fun q hq => ?_
      rw [lot_pdg]
      cases hd : x.pdg with
      | tuple ys => exact absurd hd (hne ys)
      | none => unfold PyData.eqv; rfl
      | bool _ => unfold PyData.eqv; rfl
      | int _ => unfold PyData.eqv; rfl
      | str _ => unfold PyData.eqv; rfl
      | list _ => unfold PyData.eqv; rfl
      | dict _ => unfold PyData.eqv; rfl
    have q3 : inT (.tup [.non]) ((fews p E).map lotT) = some false := by
      refine pl_any (x := .tup [.non]) (pl_t (fun t ht => by rw [List.mem_singleton.mp ht]; rfl) (by simp)) hfeo fun q hq => ?_
      have e : (T.tup [.non]).pdg = .tuple [.none] := rfl
      rw [e, lot_pdg]
      cases q with
      | nil => unfold PyData.eqv PyData.eqvAll; rfl
      | cons g r =>
        rw [List.map_cons]
        unfold PyData.eqv PyData.eqvAll PyData.eqv
        rfl
    have q4 : inT (lotT (p ++ [zz])) ((fews p E).map lotT) = some false := q2 _ ⟨by rw [List.length_append, List.length_singleton]; omega, fun g hg => by
      rcases List.mem_append.mp hg with hg | hg
      · exact hpo.2 g hg
      · rw [List.mem_singleton.mp hg]; exact zzz_ok⟩ fun h => by
        have := ((hfe _).mp h).2
        rw [List.length_append, List.length_singleton] at this
        omega
    have q5 : inT o3 ((fews p E).map lotT) = some false := by
      rw [ho3]
      split
      · rename_i hb
        refine q2 _ ⟨by rw [List.length_append]; omega, fun g hg => by
          rcases List.mem_append.mp hg with hg | hg
          · exact hpo.2 g hg
          · exact hpo.2 g (List.mem_of_mem_take hg)⟩ fun h => ?_
        have := ((hfe _).mp h).2
        rw [List.length_append, List.length_take] at this
        rw [hb] at hbn
        have hne : ¬ p = [] := by simpa using hbn.symm
        have := List.length_pos_iff.mpr hne
        omega
      · exact qa .non rfl (fun ys h => by cases h)
    have q6 := qa .non rfl (fun ys h => by cases h)
    have q7 := qa (.int 0) rfl (fun ys h => by cases h)
    have q8 := qa (.str "ab") (show PyData.strOk "ab" = true by decide +kernel) (fun ys h => by cases h)
    intro x hx
    unfold odds at hx
    split at hx
    · rename_i h1l
      simp only [List.mem_cons, List.not_mem_nil, or_false] at hx
      rcases hx with rfl | rfl | rfl | rfl | rfl | rfl | rfl | rfl
      · exact q1
      · exact q4
      · exact q5
      · exact q6
      · exact q7
      · exact q8
      · exact q3
      · have er : T.tup (p.map grp).reverse = lotT p.reverse := by rw [← List.map_reverse]; rfl
        rw [er]
        refine q2 _ ⟨by rw [List.length_reverse]; exact hpo.1, fun g hg => hpo.2 g (List.mem_reverse.mp hg)⟩ fun h => ?_
        have := rev_not hn hps (subs_mem (hfs _ ((hfe _).mp h).1))
        omega
    · simp only [List.mem_cons, List.not_mem_nil, or_false] at hx
      rcases hx with rfl | rfl | rfl | rfl | rfl | rfl | rfl
      · exact q1
      · exact q4
      · exact q5
      · exact q6
      · exact q7
      · exact q8
      · exact q3
  obtain ⟨os, hos⟩ : ∃ os, os = odds (p.map grp) (lotT (p ++ [zz])) o3 p.length := ⟨_, rfl⟩
  have hosl : os.length ≤ 8 := by rw [hos]; unfold odds; split <;> simp
  rw [← hos] at hod
  -- the answers
  have hev : ((subs L).map lotT).length ≤ 256 := by rw [List.length_map]; exact hsl
  have g0 : binT .Add (.lst ((subs L).map lotT)) (.lst os) = some (.lst ((subs L).map lotT ++ os)) := b_cat _ _ (by unfold line; omega)
  have g1 : ∀ S, srcT .seq (.l [.t (.lst ((subs L).map lotT ++ os))]) S = some (none, (subs L).map lotT ++ os) := fun S => src_lst S (by rw [List.length_append]; unfold line; omega)
  have g5 : ∀ S, srcT .seq (.l [.t (.lst ((subs L).map lotT))]) S = some (none, (subs L).map lotT) := fun S => src_lst S (by unfold line; omega)
  obtain ⟨bl, hbl⟩ : ∃ bl : List T, bl = (subs L).map fun q => T.bl (decide (q ∈ fews p E)) := ⟨_, rfl⟩
  have hbll : bl.length ≤ 256 := by rw [hbl, List.length_map]; exact hsl
  have f0 : ∀ (t : T) (S : Sto), frzS S (.t t) = .ok (.t t) S := fun _ _ => rfl
  have hiE : ∀ {x2 x3 x4 x5 x6 x7 x8 x9 x10 : Option D} (x : T) (b : Bool) (S1 : Sto), inT x ((fews p E).map lotT) = some b →
      compEl (callF fs 300 pm n) pm [11] (.n 11) (.cst (.bl true)) (isE iIs) [some (.t (lotT L)), some (.t (logT true l)), x2, x3, x4, x5, x6, x7, x8, x9, x10, none] x S1 = .ok (some (.bl b)) S1 := fun {x2 x3 x4 x5 x6 x7 x8 x9 x10} x b S1 hx => by
    have e := K.iss true p E hpE x b hx S1
    have e : callF fs 300 pm n iIs [.t (lotT L), .t (logT true l), .t x] S1 = .ok (.t (.bl b)) S1 := e
    refine compEl_tt (r' := [some (.t (lotT L)), some (.t (logT true l)), x2, x3, x4, x5, x6, x7, x8, x9, x10, some (.t x)]) rfl rfl ?_ (take_len S1)
    generalize callF fs 300 pm n = cl at *
    simp -implicitDefEqProofs [isE, e, f0]
  have g2 : ∀ {x3 x7 : Option D}, compGo (compEl (callF fs 300 pm n) pm [11] (.n 11) (.cst (.bl true)) (isE iIs) [some (.t (lotT L)), some (.t (logT true l)), some (.t (.int (p.length : Nat))), x3, some (.t (.tup (p.map grp))), some (.t (.lst ((subs L).map lotT))), some (.o S.length), x7, some (.t (.lst (fine.map lotT))), some (.t (logT false l)), some (.t (lotsS false L)), none]) ((subs L).map lotT ++ os) (S ++ [.lst os]) = .ok (bl ++ os.map fun _ => T.bl false) (S ++ [.lst os]) := fun {x3 x7} => by
    rw [hbl]
    refine go_app (go_map (subs L) fun q hq => hiE _ _ _ (inT_lot (hsub q hq) hfeo)) ?_ fun x hx => ?_
    · have := go_map (f := fun x : T => x) (h := fun _ => T.bl false) os fun x hx => hiE (x2 := some (.t (.int (p.length : Nat)))) (x3 := x3) (x4 := some (.t (.tup (p.map grp)))) (x5 := some (.t (.lst ((subs L).map lotT)))) (x6 := some (.o S.length)) (x7 := x7) (x8 := some (.t (.lst (fine.map lotT)))) (x9 := some (.t (logT false l))) (x10 := some (.t (lotsS false L))) x false (S ++ [.lst os]) (hod x hx)
      rw [List.map_id'] at this
      exact this
    · obtain ⟨q, hq, rfl⟩ := List.mem_map.mp hx
      exact ⟨_, hiE _ _ _ (inT_lot (hsub q hq) hfeo)⟩
  have g3 : ∀ S : Sto, callF fs 300 pm n iIs [.t (lotsS false L), .t (logT false l), .t (.tup (p.map grp))] S = .ok (.t (.bl true)) S := fun S => by
    have hm : inT (lotT p) ((fews p E).map lotT) = some true := by
      rw [inT_lot hpo hfeo, decide_eq_true ((hfe p).mpr ⟨hpf, rfl⟩)]
    exact K.iss false p E hpE (lotT p) true hm S
  have g6 : ∀ {x3 x7 : Option D}, compGo (compEl (callF fs 300 pm n) pm [11] (.n 11) (.cst (.bl true)) duE [some (.t (lotT L)), some (.t (logT true l)), some (.t (.int (p.length : Nat))), x3, some (.t (.tup (p.map grp))), some (.t (.lst ((subs L).map lotT))), some (.o S.length), x7, some (.t (.lst (fine.map lotT))), some (.t (logT false l)), some (.t (lotsS false L)), none]) ((subs L).map lotT) (S ++ [.lst os]) = .ok bl (S ++ [.lst os]) := fun {x3 x7} => by
    rw [hbl]
    refine go_map (subs L) fun q hq => ?_
    refine compEl_tt (r' := [some (.t (lotT L)), some (.t (logT true l)), some (.t (.int (p.length : Nat))), x3, some (.t (.tup (p.map grp))), some (.t (.lst ((subs L).map lotT))), some (.o S.length), x7, some (.t (.lst (fine.map lotT))), some (.t (logT false l)), some (.t (lotsS false L)), some (.t (lotT q))]) rfl rfl ?_ (take_len _)
    have hq1 : cmpT .In (lotT q) (.lst (fine.map lotT)) = some (decide (q ∈ fine)) := (cIn_l _ _).trans (inT_lot (hsub q hq) hfo)
    have hq2 := lot_len q
    have hq3 : decide (q ∈ fews p E) = (decide (q ∈ fine) && decide (q.length = p.length)) := by
      rw [Bool.eq_iff_iff, decide_eq_true_iff, Bool.and_eq_true, decide_eq_true_iff, decide_eq_true_iff]
      exact hfe q
    rw [hq3]
    generalize fine.map lotT = M at *
    generalize (subs L).map lotT = M2 at *
    generalize callF fs 300 pm n = cl at *
    by_cases hb : q ∈ fine
    · rw [decide_eq_true hb] at hq1 ⊢
      by_cases hc : q.length = p.length
      · simp -implicitDefEqProofs [duE, hq1, hq2, tr_bl, c_eq, hc]
      · have hc' : ¬ (q.length : Int) = (p.length : Int) := by omega
        simp -implicitDefEqProofs [duE, hq1, hq2, tr_bl, c_eq, hc, hc']
    · rw [decide_eq_false hb] at hq1 ⊢
      simp -implicitDefEqProofs [duE, hq1, tr_bl]
  have hosm : (os.map fun _ => T.bl false).length = os.length := List.length_map ..
  have g7 : binT .Mult (.lst [.bl false]) (.int (os.length : Nat)) = some (.lst (os.map fun _ => T.bl false)) := by
    rw [b_mulL _ _ (by rw [List.length_singleton]; omega) (by omega), flt_nil, map_const_rep]
  have g8 : binT .Add (.lst bl) (.lst (os.map fun _ => T.bl false)) = some (.lst (bl ++ os.map fun _ => T.bl false)) := b_cat _ _ (by rw [hosm]; unfold line; omega)
  have g4 : binT .Add (.lst (bl ++ os.map fun _ => T.bl false)) (.lst [.bl true]) = some (.lst ((bl ++ os.map fun _ => T.bl false) ++ [.bl true])) := b_cat _ _ (by rw [List.length_append, hosm, List.length_singleton]; unfold line; omega)
  have g10 := fun S => K.sm (.lst ((bl ++ os.map fun _ => T.bl false) ++ [.bl true])) S (pl_l (fun u hu => by
    have : ∃ b, u = T.bl b := by
      rcases List.mem_append.mp hu with hu | hu
      · rcases List.mem_append.mp hu with hu | hu
        · rw [hbl] at hu
          obtain ⟨q, _, rfl⟩ := List.mem_map.mp hu
          exact ⟨_, rfl⟩
        · obtain ⟨q, _, rfl⟩ := List.mem_map.mp hu
          exact ⟨_, rfl⟩
      · rw [List.mem_singleton.mp hu]; exact ⟨_, rfl⟩
    obtain ⟨b, rfl⟩ := this
    rfl) (by rw [List.length_append, List.length_append, hosm, List.length_singleton]; omega))
  have g11 := eq_case hL he hll
  obtain ⟨r', tl⟩ := tl77_ok (wf := 300) (pm := pm) (cl := callF fs 300 pm n) (iIs := iIs) (iSm := iSm) (iL := iL) (gL := lotT L) (gl := logT true l) (got0 := .lst [.int (fine.length : Nat), .int (p.length : Nat), .int (fine.length : Nat), .int (p.length : Nat)]) (ft := .non) a2 a3 g0 g1 g2 hp2 g3 g4 g5 g6 g7 g8 g4 g10 g11
  have md := md77_ok (wf := 300) (pm := pm) (tl77 iIs iSm iL) (S := S) (gL := lotT L) K.su h1 h2 h3 h4 h5 (x1 := some (.t (logT true l))) (x2 := some (.t (.int (p.length : Nat)))) (x3 := some (.t (.lst [.int (fine.length : Nat), .int (p.length : Nat), .int (fine.length : Nat), .int (p.length : Nat)]))) (x7 := none) (x8 := some (.t (.lst (fine.map lotT)))) (x9 := some (.t (logT false l))) (x10 := some (.t (lotsS false L))) (x11 := none)
  rw [← hos] at md
  have hd := hd77_ok (wf := 300) (pm := pm) (md77 iSu (tl77 iIs iSm iL)) (S := S) (gL := lotT L) (gl := logT true l) (tx := p.map grp) a1 a2 a3 hsf hgo hmin b1 b2 b3 b4 hp0 hp1 hp3 c1 c2 d0 d2 d3 h5 f2
  have all := hd.trans (md.trans tl)
  refine callF_of hC rfl (Le.refl _) ?_
  unfold bodyF
  have eb : ([.t (lotT L), .t (logT true l)] : List D).map some ++ List.replicate (12 - 2) none = [some (.t (lotT L)), some (.t (logT true l)), none, none, none, none, none, none, none, none, none, none] := rfl
  show ((exec 300 (callF fs 300 pm n) pm (hd77 iLo iL iH iFe iSo iSm (md77 iSu (tl77 iIs iSm iL))) (([.t (lotT L), .t (logT true l)] : List D).map some ++ List.replicate (12 - 2) none) S).bind fun fr S' => fin false S.length fr.1 S').cut (S.length + 1) = _
  rw [eb, all]
  simp [fin, R.cut]
  exact List.take_of_length_le (by omega)
end
end Qq.Lw

set_option maxHeartbeats 1000000
/-! P44: the calls of a case of k77; its drawn part. -/
namespace Qq.Lw
open PySem L2
theorem whys_in {rs : List Hd} {L : List (List Str)} : ∀ (l : List En) (h : Hd) (j : Int), ∀ ws ∈ whys rs L l h j, ws.Sublist L
  | [], _, _, ws, hw => by cases hw
  | .out w :: l, h, j, ws, hw => by
    rcases List.mem_cons.mp hw with rfl | hw
    · exact List.filter_sublist
    · exact whys_in l _ _ ws hw
  | .inn w :: l, h, j, ws, hw => whys_in l (h ++ [(j, w)]) (j + 1) ws hw
  | .go i :: l, h, j, ws, hw => whys_in l (h.filter fun p => !decide (p.1 = i)) j ws hw
theorem whys_len {rs : List Hd} {L : List (List Str)} : ∀ (l : List En) (h : Hd) (j : Int), (whys rs L l h j).length ≤ l.length
  | [], _, _ => Nat.le_refl _
  | .out w :: l, h, j => Nat.succ_le_succ (whys_len l _ _)
  | .inn w :: l, h, j => Nat.le_succ_of_le (whys_len l (h ++ [(j, w)]) (j + 1))
  | .go i :: l, h, j => Nat.le_succ_of_le (whys_len l (h.filter fun p => !decide (p.1 = i)) j)
section
variable {fs : List FI} {pm : Nat → List D → List D → Option (List D)}
/-- the defs that the explanations rest on -/
structure Ix77 (fs : List FI) (iT iM iW iS iR iF iU iC iA iE iH iFe iSo iIs : Nat) : Prop where
  t : fs[iT]? = some (FTup iT)
  m : fs[iM]? = some FMany1
  w : fs[iW]? = some FWalk2
  s : fs[iS]? = some (FSeen iT iM iW)
  r : fs[iR]? = some (FReas iS iM iW)
  f : fs[iF]? = some (FFits iU)
  u : fs[iU]? = some (FUnfit iR)
  c : fs[iC]? = some (FCheck iF)
  a : fs[iA]? = some FAll
  e : fs[iE]? = some (FExpl iC iR iA iT)
  h : fs[iH]? = some (FHow iE)
  fe : fs[iFe]? = some (FFewL iE)
  so : fs[iSo]? = some (FSome iE)
  is : fs[iIs]? = some (FIs iF iE)
section
variable {iT iM iW iS iR iF iU iC iA iE iH iFe iSo iIs : Nat} (X : Ix77 fs iT iM iW iS iR iF iU iC iA iE iH iFe iSo iIs) (k : Nat) {L : List (List Str)} {l : List En} (hL : LOk L) (hl8 : L.length ≤ 8) (he : ∀ e ∈ l, EnOk e) (hll : l.length < 1000000) (hW : ∀ ws ∈ whys (rows l) L l [] 0, ws ≠ []) {A : List (List (List Str))} (hs : sortT ((subs L).map pairT) = some (A.map pairT)) (hA : A.Perm (subs L))
include X hL hl8 he hll hW hs hA
theorem reas_at (n : Nat) (a : Bool) (S : Sto) : callF fs 300 pm (n + 5) iR [.t (lotsS a L), .t (logT a l)] S = .ok (.o S.length) (S ++ [.lst ((whys (rows l) L l [] 0).map lotT)]) := by
  have e := reas_ok (wf := 300) (pm := pm) (n := n) X.r X.s X.t X.m X.w (a := a) (b := a) hL he hll S
  rw [reas_eq] at e
  exact e
theorem fits_at (n : Nat) (a : Bool) (S : Sto) : callF fs 300 pm (n + 7) iF [.t (lotsS a L), .t (logT a l)] S = .ok (.t (.bl true)) S :=
  fits_ok X.f (fun S => unfit_ok X.u hW (by have := whys_len (rs := rows l) (L := L) l [] 0; unfold line; omega) (fun S => reas_at X hL hl8 he hll hW hs hA n a S) S) S
theorem expl_at (n : Nat) (a : Bool) (S : Sto) : callF fs 300 pm (n + 9) iE [.t (lotsS a L), .t (logT a l)] S = .ok (.t (.lst ((A.filter (okLot (whys (rows l) L l [] 0))).map lotT))) S := by
  have hsl := subs_len hl8
  refine expl_ok X.e (L := L) (fun ws hw => sub_ok hL (whys_in l [] 0 ws hw)) (by have := whys_len (rs := rows l) (L := L) l [] 0; unfold line; omega) (fun p hp => sub_ok hL (subs_mem (hA.mem_iff.mp hp))) (by rw [hA.length_eq]; unfold line; omega)
    (fun S => check_ok X.c (fun S => fits_at X hL hl8 he hll hW hs hA n a S) S) (fun S => reas_at X hL hl8 he hll hW hs hA (n + 3) a S) (fun S => ?_) (fun S => all_ok2 X.a hl8 hs (by rw [hA.length_eq]; exact hsl) S) S
  have e := tupled_ok (wf := 300) (pm := pm) X.t 2 (n + 5) (lotsS a L) S (pln_lots hL)
  rw [tup_lots] at e
  exact e
end
theorem cl77_mk {iT iM iW iS iR iF iU iCh iA iE iH iFe iSo iIs iLo iL iSm iSu iI iTo iWa : Nat} (X : Ix77 fs iT iM iW iS iR iF iU iCh iA iE iH iFe iSo iIs)
    (hLo : fs[iLo]? = some (FLots iI iSu iTo)) (hLi : fs[iL]? = some (FLists iL)) (hSm : fs[iSm]? = some (FSame iSm)) (hSu : fs[iSu]? = some FSubs) (hI : fs[iI]? = some FIn16) (hTo : fs[iTo]? = some (FTold iWa)) (hWa : fs[iWa]? = some (FWalk iI))
    (k : Nat) {L : List (List Str)} (hL : LOk L) (hn : L.Nodup) (hl8 : L.length ≤ 8) {B0 : List Bar} {ds : List Dd} (hd : ∀ d ∈ ds, DdOk SOk d) (hl : ds.length ≤ 1000) {l : List En} (el : l = wEns B0 ds [] 0) (hW : ∀ ws ∈ whys (rows l) L l [] 0, ws ≠ []) {A : List (List (List Str))} (hs : sortT ((subs L).map pairT) = some (A.map pairT)) (hA : A.Perm (subs L)) :
    Cl77 (callF fs 300 pm (k + 10)) iLo iL iH iFe iSo iSm iSu iIs L l (whys (rows l) L l [] 0) A := by
  have he : ∀ e ∈ l, EnOk e := by rw [el]; exact wEns_ok B0 ds [] 0 hd
  have hll : l.length < 1000000 := by rw [el, wEns_len]; omega
  have hsl := subs_len hl8
  have hEl : (A.filter (okLot (whys (rows l) L l [] 0))).length ≤ 256 := Nat.le_trans (List.length_filter_le _ _) (by rw [hA.length_eq]; exact hsl)
  exact {
    lo := fun S => lots_ok (n := k + 9) hLo hL hn hl8 hd hl el (fun B S hB hBl => told_ok (n := k + 6) hTo hWa hI hB hBl hd hl S) (fun S => subs_ok (n := k + 8) hSu hl8 S) (fun h ho hh g hg S => in16_ok (n := k + 8) hI ho hh (hL.2 g hg) S) S
    li := fun t S h => lists_ok hLi 2 (k + 7) t S h
    how := fun a S => how_ok X.h (fun S => expl_at X hL hl8 he hll hW hs hA k a S) S
    few := fun a p E hp S => few_ok X.fe (E := E) (fun S => by rw [← hp]; exact expl_at X hL hl8 he hll hW hs hA k a S) S
    som := fun a p E hp S => some_ok X.so (E := E) (fun S => by rw [← hp]; exact expl_at X hL hl8 he hll hW hs hA k a S) S
    iss := fun a p E hp x b hx S => is_ok X.is (E := E) (by have := hEl; rw [hp, List.length_cons] at this; unfold line; omega) (fun S => fits_at X hL hl8 he hll hW hs hA (k + 2) a S) (fun S => by rw [← hp]; exact expl_at X hL hl8 he hll hW hs hA k a S) hx S
    sm := fun t S h => same_ok hSm 4 (k + 5) t S h
    su := fun S => subs_ok (n := k + 9) hSu hl8 S }
/-! ### the drawn part -/
def rt77 (iK iT iN iB iD iTo iC : Nat) : P := (.seq (.asg (.n 2) (.call iK (.cons (.var 0) (.cons (.bin false .Add (.cst (.int 1)) (.call iT (.cons (.var 0) (.cons (.cst (.int 4)) .nil)))) .nil)))) (.seq (.asg (.n 3) (.call iN (.cons (.var 0) (.cons (.var 2) (.cons (.cst (.int 4)) .nil))))) (.seq (.ite (.notV (.tru (.call iC (.cons (.var 3) (.cons (.call iTo (.cons (.call iB (.cons (.var 0) (.cons (.var 3) (.cons (.cst (.int 2)) .nil)))) (.cons (.call iD (.cons (.var 0) (.cons (.var 2) (.cons (.call iT (.cons (.var 0) (.cons (.cst (.int 11)) .nil))) .nil)))) .nil))) .nil))))) (.seq (.ret (.cst (.bl false))) .nil) .nil) .nil)))
theorem rt77_core {wf : Nat} {cl : Nat → List D → Sto → R D} {iK iT iN iB iD iTo iC : Nat} {j j1 j2 j3 j4 j5 j6 : Cl} {k k1 k2 k3 k4 k5 : Nat}
    (h : JarOk k j) (h1 : JarOk k1 j1) (h2 : JarOk k2 j2) (h3 : JarOk k3 j3) (h4 : JarOk k4 j4) (h5 : JarOk k5 j5) {v : Nat} {m g lots row bars log m11 : T} {d : T} {x1 x2 x3 : Option D}
    (e1 : cl iT [.o 0, .t (.int 4)] [j] = .ok (.t (.int (v : Int))) [j1])
    (hm : binT .Add (.int 1) (.int (v : Int)) = some m)
    (e2 : cl iK [.o 0, .t m] [j1] = .ok (.t g) [j2])
    (e3 : cl iN [.o 0, .t g, .t (.int 4)] [j2] = .ok (.t lots) [j3])
    (e4 : cl iB [.o 0, .t lots, .t (.int 2)] [j3] = .ok (.t bars) [j4])
    (e5 : cl iT [.o 0, .t (.int 11)] [j4] = .ok (.t m11) [j5])
    (e6 : cl iD [.o 0, .t g, .t m11] [j5] = .ok (.t row) [j6])
    (e7 : cl iTo [.t bars, .t row] [j6] = .ok (.t log) [j6])
    (e8 : cl iC [.t lots, .t log] [j6] = .ok (.t (.bl true)) [j6]) :
    forEl wf cl pm (.n 1) (rt77 iK iT iN iB iD iTo iC) d [some (.o 0), x1, x2, x3] [j] = .ok (.nx, [some (.o 0), some (.t d), some (.t g), some (.t lots)]) [j6] := by
  have s0 : see [j] (.o 0) = .o 0 := h.see []
  have s1 : see [j1] (.o 0) = .o 0 := h1.see []
  have s2 : see [j2] (.o 0) = .o 0 := h2.see []
  have s3 : see [j3] (.o 0) = .o 0 := h3.see []
  have s4 : see [j4] (.o 0) = .o 0 := h4.see []
  have s5 : see [j5] (.o 0) = .o 0 := h5.see []
  simp -implicitDefEqProofs [forEl, rt77, s0, s1, s2, s3, s4, s5, e1, hm, e2, e3, e4, e5, e6, e7, e8, tr_bl]
end
end Qq.Lw

set_option maxHeartbeats 1000000
/-! P45: the drawn part of k77. -/
namespace Qq.Lw
open PySem L2
section
variable {fs : List FI} {pm : Nat → List D → List D → Option (List D)}
theorem turn77_ok {iT iM iW iS iR iF iU iCh iA iE iH iFe iSo iIs iLo iL iSm iSu iI iTo iWa iK iP iN iB iD iO iTk iC : Nat} {cA : Int} (X : Ix77 fs iT iM iW iS iR iF iU iCh iA iE iH iFe iSo iIs)
    (hLo : fs[iLo]? = some (FLots iI iSu iTo)) (hLi : fs[iL]? = some (FLists iL)) (hSm : fs[iSm]? = some (FSame iSm)) (hSu : fs[iSu]? = some FSubs) (hI : fs[iI]? = some FIn16) (hTo : fs[iTo]? = some (FTold iWa)) (hWa : fs[iWa]? = some (FWalk iI))
    (hK : fs[iK]? = some (FKin iP)) (hP : fs[iP]? = some (FPick iTk)) (hT : fs[iTk]? = some (FTake cA)) (hA : 0 ≤ cA ∧ cA < 2 ^ 40) (hN : fs[iN]? = some (FNest iP iTk)) (hD : fs[iD]? = some (FDeeds iTk iO)) (hO : fs[iO]? = some (FOf iTk)) (hB : fs[iB]? = some (FBars iTk))
    (hC : fs[iC]? = some (FCase77 iLo iL iH iFe iSo iSm iSu iIs)) (hp0 : ∀ a b, pm 0 [] [a, b] = some [b, a]) (hp1 : ∀ a b, pm 1 [] [a, b] = some [b, a]) (hp2 : ∀ a b c, pm 2 [] [a, b, c] = some [c, b, a]) (hp3 : ∀ a b, pm 3 [] [a, b] = some [b, a])
    (q : Nat) {k : Nat} {j : Cl} (hj : JarOk (k + 9000) j) (d : T) (x1 x2 x3 : Option D) :
    ∃ j' y2 y3, JarOk k j' ∧ forEl 300 (callF fs 300 pm (q + 11)) pm (.n 1) (rt77 iK iTk iN iB iD iTo iC) d [some (.o 0), x1, x2, x3] [j] = .ok (.nx, [some (.o 0), some (.t d), y2, y3]) [j'] := by
  obtain ⟨v, j1, hv, hj1, e1⟩ := take_ok (wf := 300) (pm := pm) (n := q + 10) (k := k + 8500) hT hA (hj.mono (by omega)) [] (top := 4) (by decide) (by decide)
  obtain ⟨g, j2, gl, gm, gn, hj2, e2⟩ := kinN_ok (wf := 300) (pm := pm) (n := q + 8) (k := k + 7500) (sz := 1 + v) hK hP hT hA (hj1.mono (by omega))
  have g0 : g ≠ [] := fun z => by rw [z, List.length_nil] at gl; omega
  have g8 : g.length ≤ 8 := by rw [gl]; exact Nat.min_le_right ..
  have gk : ∀ x ∈ g, PyData.strOk x = true := fun x hx => kinds8_ok x (gm x hx)
  obtain ⟨L, j3, hL, hLn, hLl, hLe, hj3, e3⟩ := nestN_ok (pm := pm) (n := q + 8) (k := k + 4500) (sz := 4) hN hP hT hA (kin := g) ⟨g0, by omega, gk⟩ gn (by omega) (hj2.mono (by omega))
  obtain ⟨B, j4, hB1, hj4, e4⟩ := bars_ok (wf := 300) (pm := pm) (n := q + 9) (k := k + 3400) (top := 2) hB hT hA (by decide) hL.1 (hj3.mono (by omega))
  obtain ⟨m, j5, hm, hj5, e5⟩ := take_ok (wf := 300) (pm := pm) (n := q + 10) (k := k + 3300) hT hA (hj4.mono (by omega)) [] (top := 11) (by decide) (by decide)
  obtain ⟨ds, j6, dl, dd, hj6, e6⟩ := deeds_ok (wf := 300) (pm := pm) (n := q + 8) (k := k + 1300) (m := m) hD hO hT hA (g := g) (P := SOk) g0 (by omega) gk (by omega) (hj5.mono (by omega))
  have hBL : ∀ b ∈ B, b.1 ∈ L := fun b hb => by rw [← hB1]; exact List.mem_map.mpr ⟨b, hb, rfl⟩
  have hBg : ∀ b ∈ B, GOk b.1 := fun b hb => hL.2 _ (hBL b hb)
  have hBl : B.length ≤ 1000 := by rw [← List.length_map (f := (·.1)), hB1]; exact hL.1
  have e7 := told_ok (wf := 300) (pm := pm) (n := q + 8) hTo hWa hI hBg hBl dd (by omega) [j6]
  have hm1 : binT .Add (.int 1) (.int (v : Int)) = some (.int ((1 + v : Nat) : Int)) := by
    rw [b_add]; congr 2
  have hll : (wEns B ds [] 0).length ≤ 1000 := by rw [wEns_len]; omega
  have hk := kept (B0 := B) ds [] 0 fun b hb => Nat.zero_le _
  have hW : ∀ ws ∈ whys (rows (wEns B ds [] 0)) L (wEns B ds [] 0) [] 0, ws ≠ [] := whys_ne hBL (fun x hx b hb => hk x hx b hb) (rows_ne _) ds [] 0 fun x hx => hx
  obtain ⟨A, a1, a2, a3⟩ := sort_lots (ps := subs L) (by have := subs_len (L := L) (by omega); unfold line; omega)
  have K := cl77_mk (pm := pm) X hLo hLi hSm hSu hI hTo hWa q hL hLn (by omega) dd (by omega) (B0 := B) rfl hW a1 a2
  have e8 := case77_ok hC K hp0 hp1 hp2 hp3 hL hLn (by omega) (wEns_ok B ds [] 0 dd) (by omega) hW (fun ws hw g hg => (whys_in _ _ _ ws hw).subset hg) a2 a3 [j6]
  exact ⟨j6, _, _, hj6.mono (by omega), rt77_core hj hj1 hj2 hj3 hj4 hj5 e1 hm1 e2 e3 e4 e5 e6 e7 e8⟩
theorem turns4 {cl : Nat → List D → Sto → R D} {p : P}
    (h : ∀ (k : Nat) (j : Cl) (d : T) (x1 x2 x3 : Option D), JarOk (k + 9000) j → ∃ j' y2 y3, JarOk k j' ∧ forEl 300 cl pm (.n 1) p d [some (.o 0), x1, x2, x3] [j] = .ok (.nx, [some (.o 0), some (.t d), y2, y3]) [j']) :
    ∀ (ds : List T) (k : Nat) (j : Cl) (x1 x2 x3 : Option D), JarOk (k + 9000 * ds.length) j → ∃ j' r', forGo (forEl 300 cl pm (.n 1) p) ds [some (.o 0), x1, x2, x3] [j] = .ok (.nx, r') [j']
  | [], k, j, x1, x2, x3, _ => ⟨j, _, rfl⟩
  | d :: ds, k, j, x1, x2, x3, hj => by
    rw [List.length_cons] at hj
    obtain ⟨j1, y2, y3, hj1, e⟩ := h (k + 9000 * ds.length) j d x1 x2 x3 (hj.mono (by omega))
    obtain ⟨j', r', e2⟩ := turns4 h ds k j1 (some (.t d)) y2 y3 hj1
    refine ⟨j', r', ?_⟩
    unfold forGo
    rw [e]
    exact e2
def FRight4 (p : P) : FI := ⟨1, 4, false, (.seq p (.seq (.ret (.cst (.bl true))) .nil))⟩
theorem right4_body (p : P) {cl : Nat → List D → Sto → R D} {c0 c1 : Cl} {r' : Env} (h : exec 300 cl pm p [some (.o 0), none, none, none] [c0] = .ok (.nx, r') [c1]) : bodyF 300 cl pm (FRight4 p) [.o 0] [c0] = .ok (.t (.bl true)) [c1] := by
  unfold bodyF
  simp [FRight4, h, fin, R.cut]
theorem right4_of {n iRi : Nat} {p : P} {m : Nat} (hm : m ≤ 1000) (hR : fs[iRi]? = some (FRight4 (.for_ (.n 1) .r1 (.cons (.cst (.int (m : Int))) .nil) p)))
    (h : ∀ (k : Nat) (j : Cl) (d : T) (x1 x2 x3 : Option D), JarOk (k + 9000) j → ∃ j' y2 y3, JarOk k j' ∧ forEl 300 (callF fs 300 pm n) pm (.n 1) p d [some (.o 0), x1, x2, x3] [j] = .ok (.nx, [some (.o 0), some (.t d), y2, y3]) [j']) :
    RightOk (callF fs 300 pm (n + 1)) iRi := by
  intro j hj
  obtain ⟨j', r', e⟩ := turns4 (pm := pm) h (upT 0 m) 0 j none none none (hj.mono (by
    have : (upT 0 m).length = m := len_upT _ _
    rw [this]
    have : 9000 * m ≤ 9000 * 1000 := Nat.mul_le_mul_left _ hm
    have : 9000 * 1000 ≤ 2 ^ 80 := by decide
    omega))
  exact ⟨j', callF_of hR rfl (Le.refl _) (right4_body _ (for_ok0 (ds := [.t (.int (m : Int))]) rfl (src_r1 m (by omega) _) e))⟩
end
end Qq.Lw

set_option maxHeartbeats 400000
namespace Q77
open PySem L2 Qq
def top (i : Nat) : Stmt := PySem.Challenge.pw_raisedlimits_k77_lots_that_explain.main.body.getD i (.Pass ⟨0, 0, 0, 0⟩)
def dfs : List Df := [
  ⟨"tupled", top 3, ["value"], ["value", "part"], [], [], false, []⟩,
  ⟨"many_of", top 6, ["held", "group"], ["held", "group", "job"], [], [], false, []⟩,
  ⟨"walked_log", top 10, ["log"], ["log", "found", "held", "job", "word", "value", "one", "kind"], ["found"], [], false, [("GO", .str "go"), ("IN", .str "in")]⟩,
  ⟨"seen_most", top 11, ["tree", "log"], ["tree", "log", "rows", "group", "held"], [], [], false, []⟩,
  ⟨"reasons_of", top 12, ["tree", "log"], ["tree", "log", "seen", "found", "held", "word", "value", "group", "many"], ["found"], [], true, [("OUT", .str "out")]⟩,
  ⟨"fits_log", top 13, ["tree", "log"], ["tree", "log"], [], [], false, []⟩,
  ⟨"first_unfit", top 14, ["tree", "log"], ["tree", "log", "found", "place", "own"], [], [], false, []⟩,
  ⟨"check_fits", top 15, ["tree", "log"], ["tree", "log"], [], [], false, []⟩,
  ⟨"all_lots", top 16, ["groups"], ["groups", "found", "group", "many", "lot"], [], [], false, []⟩,
  ⟨"explanations", top 17, ["tree", "log"], ["tree", "log", "wanted", "lot", "own", "group"], [], [], false, []⟩,
  ⟨"how_many_explanations", top 18, ["tree", "log"], ["tree", "log"], [], [], false, []⟩,
  ⟨"fewest_limits", top 19, ["tree", "log"], ["tree", "log"], [], [], false, []⟩,
  ⟨"some_fewest", top 20, ["tree", "log"], ["tree", "log"], [], [], false, []⟩,
  ⟨"is_fewest", top 21, ["tree", "log", "thing"], ["tree", "log", "thing", "rows", "lot"], [], [], false, []⟩,
  ⟨"_law_box", top 23, ["_law_script", "_law_k"], ["_law_script", "_law_k", "_law_cell"], [], [], true, []⟩,
  ⟨"_law_take", top 24, ["_law_urn", "_law_low_so"], ["_law_urn", "_law_low_so", "_law_once", "_law_far", "_law_twice", "_law_drawn"], ["_law_urn"], [], false, []⟩,
  ⟨"_law_cells", top 25, ["_law_script", "_law_top"], ["_law_script", "_law_top", "_law_cells_here", "_law_k", "_law_cell", "_law_at_so"], ["_law_cells_here"], [], false, []⟩,
  ⟨"_law_of", top 26, ["_law_urn", "_law_some_so"], ["_law_urn", "_law_some_so"], ["_law_urn"], [], false, []⟩,
  ⟨"_law_same", top 27, ["_law_got", "_law_goal"], ["_law_got", "_law_goal", "_law_mine_so", "_law_own"], [], [], false, []⟩,
  ⟨"_law_lists", top 28, ["_law_matter"], ["_law_matter", "_law_bit"], [], [], false, []⟩,
  ⟨"_law_pick", top 29, ["_law_urn", "_law_pool", "_law_size_so"], ["_law_urn", "_law_pool", "_law_size_so", "_law_turn", "_law_rest", "_law_found"], ["_law_found", "_law_rest", "_law_urn"], [], false, []⟩,
  ⟨"_law_kin", top 30, ["_law_urn", "_law_size_so"], ["_law_urn", "_law_size_so"], ["_law_urn"], [], false, []⟩,
  ⟨"_law_nest", top 31, ["_law_urn", "_law_kin_so", "_law_most_so"], ["_law_urn", "_law_kin_so", "_law_most_so", "_law_found", "_law_edge_so", "_law_lot", "_law_k"], ["_law_edge_so", "_law_found", "_law_urn"], [], false, []⟩,
  ⟨"_law_bars", top 32, ["_law_urn", "_law_lots_so", "_law_top_so"], ["_law_urn", "_law_lots_so", "_law_top_so", "_law_lot"], ["_law_urn"], [], false, []⟩,
  ⟨"_law_deeds", top 33, ["_law_urn", "_law_kin_so", "_law_size_so"], ["_law_urn", "_law_kin_so", "_law_size_so", "_law_turn", "_law_found", "_law_came_so"], ["_law_found", "_law_urn"], [], false, []⟩,
  ⟨"_law_in_lot", top 34, ["_law_here", "_law_lot"], ["_law_here", "_law_lot", "_law_own"], [], [], false, []⟩,
  ⟨"_law_walk", top 35, ["_law_bars_so", "_law_row_so"], ["_law_bars_so", "_law_row_so", "_law_here", "_law_job_so", "_law_found", "_law_word", "_law_what", "_law_later", "_law_stops", "_law_own", "_law_lot", "_law_much"], ["_law_found"], [], false, []⟩,
  ⟨"_law_told", top 36, ["_law_bars_so", "_law_row_so"], ["_law_bars_so", "_law_row_so", "_law_found", "_law_k", "_law_one"], ["_law_found"], [], false, []⟩,
  ⟨"_law_subsets", top 37, ["_law_some"], ["_law_some", "_law_found", "_law_own", "_law_part"], [], [], false, []⟩,
  ⟨"_law_lots", top 38, ["_law_lots_so", "_law_log_so"], ["_law_lots_so", "_law_log_so", "_law_row_so", "_law_here", "_law_job_so", "_law_high", "_law_word", "_law_what", "_law_lot", "_law_part", "_law_own"], ["_law_high"], [], false, []⟩,
  ⟨"_law_case_right", top 39, ["_law_lots_so", "_law_log_so"], ["_law_lots_so", "_law_log_so", "_law_few_so", "_law_got", "_law_told_here", "_law_every", "_law_odd", "_law_due", "_law_fine", "_law_soft", "_law_mild", "_law_own"], ["_law_odd"], [], false, []⟩,
  ⟨"_law_by_hand_right", top 40, [], ["_law_got", "_law_due", "_law_three_so", "_law_row_so", "_law_lots_so", "_law_more_so", "_law_tags", "_law_wide", "_law_full_so", "_law_every", "_law_log_so", "_law_k", "_law_tag", "_law_own"], [], [], false, []⟩,
  ⟨"_law_right", top 41, ["_law_urn"], ["_law_urn", "_law_turn", "_law_kin_so", "_law_lots_so"], ["_law_urn"], [], false, []⟩,
  ⟨"law", top 42, ["_law_script"], ["_law_script", "_law_cells_here", "_law_k"], [], [], false, []⟩]
def kws : List ((Str × Nat × List Str) × (Nat × List Nat)) := [(("how_many_explanations", 0, ["log", "tree"]), (10, [1, 0])), (("fewest_limits", 0, ["log", "tree"]), (11, [1, 0])), (("is_fewest", 0, ["thing", "log", "tree"]), (13, [2, 1, 0])), (("some_fewest", 0, ["log", "tree"]), (12, [1, 0]))]
def F0 : FI := ⟨1, 2, false, (.seq (.ret (.ife (.tru (.isi (.var 0) ["list", "tuple"] false)) (.bi false .tuple (.cons (.comp false [1] (.n 1) .seq (.cons (.var 0) .nil) (.cst (.bl true)) (.frz (.call 0 (.cons (.var 1) .nil)))) .nil)) (.var 0))) .nil)⟩
def F1 : FI := ⟨2, 3, false, (.seq (.ret (.bi false .len (.cons (.comp false [2] (.n 2) .seq (.cons (.var 0) .nil) (.cmp .In (.idx (.var 0) (.var 2)) (.var 1)) (.var 2)) .nil))) .nil)⟩
def F2 : FI := ⟨1, 8, false, (.seq (.par [1, 2, 3] (.cons (.lst true .nil) (.cons (.dct false false) (.cons (.cst (.int 0)) .nil)))) (.seq (.for_ (.cons (.n 4) (.cons (.n 5) .nil)) .seq (.cons (.var 0) .nil) (.seq (.drop (.mth "append" (.var 1) (.cons (.var 2) .nil))) (.seq (.ite (.cmp .Eq (.var 4) (.cst (.str "go"))) (.seq (.asg (.n 2) (.dcm false [6, 7] (.cons (.n 6) (.cons (.n 7) .nil)) .items (.cons (.var 2) .nil) (.cmp .NotEq (.var 6) (.var 5)) (.var 6) (.var 7))) .nil) (.seq (.asg (.n 2) (.ife (.cmp .Eq (.var 4) (.cst (.str "in"))) (.dsp false (.var 2) (.var 3) (.var 5)) (.var 2))) (.seq (.aug 3 .Add (.cst (.int 1))) .nil))) .nil))) (.seq (.ret (.tup (.spl (.frz (.var 1)) (.cons (.var 2) .nil)))) .nil)))⟩
def F3 : FI := ⟨2, 5, false, (.seq (.asg (.n 2) (.call 2 (.cons (.var 1) .nil))) (.seq (.ret (.bi false .tuple (.cons (.comp false [3] (.n 3) .seq (.cons (.call 0 (.cons (.var 0) .nil)) .nil) (.cst (.bl true)) (.tup (.cons (.var 3) (.cons (.frz (.bi false .maxL (.cons (.comp false [4] (.n 4) .seq (.cons (.var 2) .nil) (.cst (.bl true)) (.frz (.call 1 (.cons (.var 4) (.cons (.var 3) .nil))))) .nil))) .nil)))) .nil))) .nil))⟩
def F4 : FI := ⟨2, 9, true, (.seq (.par [2, 3] (.cons (.call 3 (.cons (.var 0) (.cons (.var 1) .nil))) (.cons (.lst true .nil) .nil))) (.seq (.for_ (.cons (.n 4) (.cons (.cons (.n 5) (.cons (.n 6) .nil)) .nil)) .zip (.cons (.call 2 (.cons (.var 1) .nil)) (.cons (.var 1) .nil)) (.seq (.ite (.cmp .Eq (.var 5) (.cst (.str "out"))) (.seq (.drop (.mth "append" (.var 3) (.cons (.frz (.bi false .tuple (.cons (.comp false [7, 8] (.cons (.n 7) (.cons (.n 8) .nil)) .seq (.cons (.var 2) .nil) (.andV (.cmp .In (.var 6) (.var 7)) (.cmp .Eq (.call 1 (.cons (.var 4) (.cons (.var 7) .nil))) (.var 8))) (.var 7)) .nil))) .nil))) .nil) .nil) .nil)) (.seq (.ret (.var 3)) .nil)))⟩
def F5 : FI := ⟨2, 2, false, (.seq (.ret (.cmp .Is (.call 6 (.cons (.var 0) (.cons (.var 1) .nil))) (.cst .non))) .nil)⟩
def F6 : FI := ⟨2, 5, false, (.seq (.asg (.n 2) (.comp false [3, 4] (.cons (.n 3) (.cons (.n 4) .nil)) .enum (.cons (.call 4 (.cons (.var 0) (.cons (.var 1) .nil))) .nil) (.cmp .Eq (.bi false .len (.cons (.var 4) .nil)) (.cst (.int 0))) (.var 3))) (.seq (.ret (.ife (.cmp .Gt (.bi false .len (.cons (.var 2) .nil)) (.cst (.int 0))) (.idx (.var 2) (.cst (.int 0))) (.cst .non))) .nil))⟩
def F7 : FI := ⟨2, 2, false, (.seq (.ite (.notV (.tru (.call 5 (.cons (.var 0) (.cons (.var 1) .nil))))) (.seq .never .nil) .nil) .nil)⟩
def F8 : FI := ⟨1, 5, false, (.seq (.asg (.n 1) (.lst false (.cons (.tup .nil) .nil))) (.seq (.for_ (.n 2) .seq (.cons (.var 0) .nil) (.seq (.asg (.n 1) (.lst false (.spl (.var 1) (.spl (.comp false [4] (.n 4) .seq (.cons (.var 1) .nil) (.cst (.bl true)) (.tup (.spl (.var 4) (.cons (.var 2) .nil)))) .nil)))) .nil)) (.seq (.ret (.comp false [3, 4] (.cons (.n 3) (.cons (.n 4) .nil)) .seq (.cons (.bi false .sorted (.cons (.comp false [4] (.n 4) .seq (.cons (.var 1) .nil) (.cst (.bl true)) (.tup (.cons (.frz (.bi false .len (.cons (.var 4) .nil))) (.cons (.var 4) .nil)))) .nil)) .nil) (.cst (.bl true)) (.var 4))) .nil)))⟩
def F9 : FI := ⟨2, 6, false, (.seq (.drop (.call 7 (.cons (.var 0) (.cons (.var 1) .nil)))) (.seq (.asg (.n 2) (.call 4 (.cons (.var 0) (.cons (.var 1) .nil)))) (.seq (.ret (.comp false [3] (.n 3) .seq (.cons (.call 8 (.cons (.call 0 (.cons (.var 0) .nil)) .nil)) .nil) (.tru (.bi false .all (.cons (.comp false [4] (.n 4) .seq (.cons (.var 2) .nil) (.cst (.bl true)) (.frz (.bi false .any (.cons (.comp false [5] (.n 5) .seq (.cons (.var 4) .nil) (.cst (.bl true)) (.cmp .In (.var 5) (.var 3))) .nil)))) .nil))) (.var 3))) .nil)))⟩
def F10 : FI := ⟨2, 2, false, (.seq (.ret (.bi false .len (.cons (.call 9 (.cons (.var 0) (.cons (.var 1) .nil))) .nil))) .nil)⟩
def F11 : FI := ⟨2, 2, false, (.seq (.ret (.bi false .len (.cons (.idx (.call 9 (.cons (.var 0) (.cons (.var 1) .nil))) (.cst (.int 0))) .nil))) .nil)⟩
def F12 : FI := ⟨2, 2, false, (.seq (.ret (.idx (.call 9 (.cons (.var 0) (.cons (.var 1) .nil))) (.cst (.int 0)))) .nil)⟩
def F13 : FI := ⟨3, 5, false, (.seq (.asg (.n 3) (.ife (.tru (.call 5 (.cons (.var 0) (.cons (.var 1) .nil)))) (.call 9 (.cons (.var 0) (.cons (.var 1) .nil))) (.lst false .nil))) (.seq (.ret (.cmp .In (.var 2) (.comp false [4] (.n 4) .seq (.cons (.var 3) .nil) (.cmp .Eq (.bi false .len (.cons (.var 4) .nil)) (.bi false .len (.cons (.idx (.var 3) (.cst (.int 0))) .nil))) (.var 4)))) .nil))⟩
def F14 : FI := ⟨2, 3, true, (.seq (.asg (.n 2) (.ife (.cmp .Lt (.var 1) (.bi false .len (.cons (.var 0) .nil))) (.idx (.var 0) (.var 1)) (.cst (.int 0)))) (.seq (.ret (.lst true (.cons (.bin false .Mult (.bi false .abs (.cons (.var 2) .nil)) (.bi false .int (.cons (.cmp .GtE (.bi false .abs (.cons (.var 2) .nil)) (.bin false .Pow (.cst (.int 10)) (.cst (.int 18)))) .nil))) (.cons (.bin false .Add (.bin false .Add (.bin false .Mod (.bi false .int (.cons (.var 2) .nil)) (.cst (.int 2305843009213693951))) (.bin false .Mult (.cst (.int 39373)) (.var 1))) (.cst (.int 1050177))) (.cons (.cst (.int 0)) .nil))))) .nil))⟩
def F15 : FI := ⟨2, 6, false, (.seq (.ite (.cmp .Gt (.idx (.var 0) (.cst (.int 0))) (.cst (.int 0))) (.seq (.asg (.n 5) (.bin false .Mod (.bi false .int (.cons (.idx (.var 0) (.cst (.int 0))) .nil)) (.var 1))) (.seq (.setI (.var 0) (.cst (.int 0)) (.bin false .FloorDiv (.idx (.var 0) (.cst (.int 0))) (.var 1))) (.seq (.ret (.var 5)) .nil))) .nil) (.seq (.setI (.var 0) (.cst (.int 2)) (.bin false .Add (.idx (.var 0) (.cst (.int 2))) (.cst (.int 1)))) (.seq (.asg (.n 2) (.bin false .Mod (.bi false .int (.cons (.bin false .Mult (.bin false .Add (.idx (.var 0) (.cst (.int 1))) (.bin false .Mult (.cst (.int 48271)) (.idx (.var 0) (.cst (.int 2))))) (.bin false .Add (.cst (.int 39373)) (.idx (.var 0) (.cst (.int 2))))) .nil)) (.cst (.int 2147483647)))) (.seq (.asg (.n 3) (.bin false .Add (.bin false .Mod (.bi false .int (.cons (.var 2) .nil)) (.cst (.int 40009))) (.cst (.int 7)))) (.seq (.asg (.n 4) (.bin false .Mod (.bi false .int (.cons (.bin false .Mult (.bin false .Add (.bin false .Add (.var 2) (.idx (.var 0) (.cst (.int 2)))) (.bin false .FloorDiv (.idx (.var 0) (.cst (.int 1))) (.cst (.int 1000003)))) (.var 3)) .nil)) (.cst (.int 2147483629)))) (.seq (.ret (.bin false .Mod (.bi false .int (.cons (.bin false .FloorDiv (.bin false .Mod (.bi false .int (.cons (.bin false .Add (.bin false .Mult (.var 4) (.cst (.int 48271))) (.var 2)) .nil)) (.cst (.int 2147483587))) (.cst (.int 64))) .nil)) (.var 1))) .nil))))))⟩
def F16 : FI := ⟨2, 6, false, (.seq (.asg (.n 2) (.orV (.bi true .list (.cons (.sl false (.var 0) none (some ()) .nil (.var 1)) .nil)) (.lst true (.cons (.cst (.int 0)) .nil)))) (.seq (.for_ (.cons (.n 3) (.cons (.n 4) .nil)) .enum (.cons (.sl false (.var 0) (some ()) (some ()) (.var 1) (.cst (.int 63))) .nil) (.seq (.asg (.n 5) (.bin false .Mod (.bi false .int (.cons (.var 3) .nil)) (.var 1))) (.seq (.setI (.var 2) (.var 5) (.bin false .Add (.idx (.var 2) (.var 5)) (.bin false .Mult (.var 4) (.bin false .Add (.var 3) (.cst (.int 2)))))) .nil))) (.seq (.ret (.var 2)) .nil)))⟩
def F17 : FI := ⟨2, 2, false, (.seq (.ret (.idx (.var 1) (.call 15 (.cons (.var 0) (.cons (.bi false .len (.cons (.var 1) .nil)) .nil))))) .nil)⟩
def F18 : FI := ⟨2, 4, false, (.seq (.ite (.tru (.isi (.var 1) ["list", "tuple"] false)) (.seq (.ite (.orV (.cmp .NotEq (.isi (.var 0) ["list"] true) (.isi (.var 1) ["list"] true)) (.cmp .NotEq (.isi (.var 0) ["tuple"] true) (.isi (.var 1) ["tuple"] true))) (.seq (.ret (.cst (.bl false))) .nil) .nil) (.seq (.ret (.andV (.cmp .Eq (.bi false .len (.cons (.var 0) .nil)) (.bi false .len (.cons (.var 1) .nil))) (.bi false .all (.cons (.comp false [2, 3] (.cons (.n 2) (.cons (.n 3) .nil)) .zip (.cons (.var 0) (.cons (.var 1) .nil)) (.cst (.bl true)) (.frz (.call 18 (.cons (.var 2) (.cons (.var 3) .nil))))) .nil)))) .nil)) .nil) (.seq (.ite (.orV (.cmp .Is (.var 1) (.cst .non)) (.tru (.isi (.var 1) ["bool", "str"] false))) (.seq (.ret (.andV (.cmp .Eq (.var 0) (.var 1)) (.andV (.cmp .Eq (.isi (.var 0) ["bool"] true) (.isi (.var 1) ["bool"] true)) (.cmp .Eq (.cmp .Is (.var 0) (.cst .non)) (.cmp .Is (.var 1) (.cst .non)))))) .nil) .nil) (.seq (.ret (.andV (.isi (.var 0) ["int"] true) (.andV (.notV (.isi (.var 0) ["bool"] true)) (.cmp .Eq (.var 0) (.var 1))))) .nil)))⟩
def F19 : FI := ⟨1, 2, false, (.seq (.ret (.ife (.tru (.isi (.var 0) ["list", "tuple"] false)) (.comp false [1] (.n 1) .seq (.cons (.var 0) .nil) (.cst (.bl true)) (.frz (.call 19 (.cons (.var 1) .nil)))) (.var 0))) .nil)⟩
def F20 : FI := ⟨3, 6, false, (.seq (.par [4, 5] (.cons (.bi true .list (.cons (.var 1) .nil)) (.cons (.lst true .nil) .nil))) (.seq (.for_ (.n 3) .r1 (.cons (.bi false .min2 (.cons (.var 2) (.cons (.bi false .len (.cons (.var 4) .nil)) .nil))) .nil) (.seq (.drop (.mth "append" (.var 5) (.cons (.frz (.mth "pop" (.var 4) (.cons (.frz (.call 15 (.cons (.var 0) (.cons (.bi false .len (.cons (.var 4) .nil)) .nil)))) .nil))) .nil))) .nil)) (.seq (.ret (.var 5)) .nil)))⟩
def F21 : FI := ⟨2, 2, false, (.seq (.ret (.bi false .tuple (.cons (.bi false .sorted (.cons (.call 20 (.cons (.var 0) (.cons (.lst false (.cons (.cst (.str "a")) (.cons (.cst (.str "b")) (.cons (.cst (.str "c")) (.cons (.cst (.str "ab")) (.cons (.cst (.str "ba")) (.cons (.cst (.str "abcdefgh")) (.cons (.cst (.str "x")) (.cons (.cst (.str "zz")) .nil))))))))) (.cons (.var 1) .nil)))) .nil)) .nil))) .nil)⟩
def F22 : FI := ⟨3, 7, false, (.seq (.par [3, 4] (.cons (.lst true .nil) (.cons (.lst true (.cons (.frz (.call 20 (.cons (.var 0) (.cons (.var 1) (.cons (.bi false .len (.cons (.var 1) .nil)) .nil))))) .nil)) .nil))) (.seq (.whl (.cmp .NotEq (.var 4) (.lst false .nil)) (.seq (.asg (.n 5) (.mth "pop" (.var 4) .nil)) (.seq (.ite (.cmp .Gt (.call 15 (.cons (.var 0) (.cons (.cst (.int 3)) .nil))) (.cst (.int 0))) (.seq (.drop (.mth "append" (.var 3) (.cons (.frz (.bi false .tuple (.cons (.bi false .sorted (.cons (.var 5) .nil)) .nil))) .nil))) .nil) .nil) (.seq (.ite (.cmp .Gt (.bi false .len (.cons (.var 5) .nil)) (.cst (.int 1))) (.seq (.asg (.n 6) (.bin false .Add (.cst (.int 1)) (.call 15 (.cons (.var 0) (.cons (.bin false .Sub (.bi false .len (.cons (.var 5) .nil)) (.cst (.int 1))) .nil))))) (.seq (.asg (.n 4) (.bin true .Add (.var 4) (.lst false (.cons (.sl false (.var 5) none (some ()) .nil (.var 6)) (.cons (.sl false (.var 5) (some ()) none (.var 6) .nil) .nil))))) .nil)) .nil) .nil)))) (.seq (.ret (.bi false .tuple (.cons (.bi false .sorted (.cons (.call 20 (.cons (.var 0) (.cons (.frz (.var 3)) (.cons (.var 2) .nil)))) .nil)) .nil))) .nil)))⟩
def F23 : FI := ⟨3, 4, false, (.seq (.ret (.bi false .tuple (.cons (.comp false [3] (.n 3) .seq (.cons (.var 1) .nil) (.cst (.bl true)) (.tup (.cons (.var 3) (.cons (.frz (.call 15 (.cons (.var 0) (.cons (.bin false .Add (.var 2) (.cst (.int 1))) .nil)))) .nil)))) .nil))) .nil)⟩
def F24 : FI := ⟨3, 6, false, (.seq (.par [4, 5] (.cons (.lst true .nil) (.cons (.cst (.int 0)) .nil))) (.seq (.for_ (.n 3) .r1 (.cons (.var 2) .nil) (.seq (.ite (.orV (.cmp .Gt (.call 15 (.cons (.var 0) (.cons (.cst (.int 3)) .nil))) (.cst (.int 0))) (.cmp .Eq (.var 5) (.cst (.int 0)))) (.seq (.drop (.mth "append" (.var 4) (.cons (.tup (.cons (.cst (.str "come")) (.cons (.frz (.call 17 (.cons (.var 0) (.cons (.var 1) .nil)))) .nil))) .nil))) (.seq (.asg (.n 5) (.bin false .Add (.var 5) (.cst (.int 1)))) .nil)) (.seq (.drop (.mth "append" (.var 4) (.cons (.tup (.cons (.cst (.str "go")) (.cons (.frz (.call 15 (.cons (.var 0) (.cons (.bin false .Add (.var 5) (.cst (.int 2))) .nil)))) .nil))) .nil))) .nil)) .nil)) (.seq (.ret (.bi false .tuple (.cons (.frz (.var 4)) .nil))) .nil)))⟩
def F25 : FI := ⟨2, 3, false, (.seq (.ret (.bi false .len (.cons (.comp false [2] (.n 2) .seq (.cons (.var 0) .nil) (.cmp .In (.idx (.var 2) (.cst (.int 1))) (.var 1)) (.var 2)) .nil))) .nil)⟩
def F26 : FI := ⟨2, 12, false, (.seq (.par [2, 3, 4] (.cons (.lst false .nil) (.cons (.cst (.int 0)) (.cons (.lst true .nil) .nil)))) (.seq (.for_ (.cons (.n 5) (.cons (.n 6) .nil)) .seq (.cons (.var 1) .nil) (.seq (.ite (.cmp .Eq (.var 5) (.cst (.str "go"))) (.seq (.asg (.n 7) (.comp false [9] (.n 9) .seq (.cons (.var 2) .nil) (.cmp .NotEq (.idx (.var 9) (.cst (.int 0))) (.var 6)) (.var 9))) (.seq (.drop (.mth "append" (.var 4) (.cons (.tup (.cons (.ife (.cmp .Lt (.bi false .len (.cons (.var 7) .nil)) (.bi false .len (.cons (.var 2) .nil))) (.cst (.str "gone")) (.cst (.str "none"))) (.cons (.var 2) (.cons (.var 7) .nil)))) .nil))) .nil)) (.seq (.asg (.n 8) (.comp false [10, 11] (.cons (.n 10) (.cons (.n 11) .nil)) .seq (.cons (.var 0) .nil) (.andV (.cmp .In (.var 6) (.var 10)) (.cmp .GtE (.call 25 (.cons (.var 2) (.cons (.var 10) .nil))) (.var 11))) (.var 10))) (.seq (.asg (.n 7) (.ife (.cmp .Eq (.var 8) (.lst false .nil)) (.bin false .Add (.var 2) (.lst false (.cons (.tup (.cons (.var 3) (.cons (.var 6) .nil))) .nil))) (.var 2))) (.seq (.drop (.mth "append" (.var 4) (.cons (.tup (.cons (.ife (.cmp .Eq (.var 8) (.lst false .nil)) (.cst (.str "in")) (.cst (.str "out"))) (.cons (.var 2) (.cons (.var 7) .nil)))) .nil))) (.seq (.asg (.n 3) (.bin false .Add (.var 3) (.cst (.int 1)))) .nil))))) (.seq (.asg (.n 2) (.var 7)) .nil))) (.seq (.ret (.var 4)) .nil)))⟩
def F27 : FI := ⟨2, 5, false, (.seq (.asg (.n 2) (.lst true .nil)) (.seq (.for_ (.cons (.n 3) (.cons (.n 4) .nil)) .enum (.cons (.call 26 (.cons (.var 0) (.cons (.var 1) .nil))) .nil) (.seq (.drop (.mth "append" (.var 2) (.cons (.ife (.cmp .Eq (.idx (.idx (.var 1) (.var 3)) (.cst (.int 0))) (.cst (.str "go"))) (.idx (.var 1) (.var 3)) (.tup (.cons (.idx (.var 4) (.cst (.int 0))) (.cons (.idx (.idx (.var 1) (.var 3)) (.cst (.int 1))) .nil)))) .nil))) .nil)) (.seq (.ret (.bi false .tuple (.cons (.frz (.var 2)) .nil))) .nil)))⟩
def F28 : FI := ⟨1, 4, false, (.seq (.asg (.n 1) (.lst false (.cons (.tup .nil) .nil))) (.seq (.for_ (.n 2) .seq (.cons (.var 0) .nil) (.seq (.asg (.n 1) (.bin false .Add (.var 1) (.comp false [3] (.n 3) .seq (.cons (.var 1) .nil) (.cst (.bl true)) (.bin false .Add (.var 3) (.tup (.cons (.var 2) .nil)))))) .nil)) (.seq (.ret (.var 1)) .nil)))⟩
def F29 : FI := ⟨2, 11, false, (.seq (.par [3, 4, 5] (.cons (.lst false .nil) (.cons (.cst (.int 0)) (.cons (.bi true .dict (.cons (.comp false [8] (.n 8) .seq (.cons (.var 0) .nil) (.cst (.bl true)) (.tup (.cons (.var 8) (.cons (.cst (.int 0)) .nil)))) .nil)) .nil)))) (.seq (.for_ (.cons (.n 6) (.cons (.n 7) .nil)) .seq (.cons (.var 1) .nil) (.seq (.ite (.cmp .Eq (.var 6) (.cst (.str "go"))) (.seq (.asg (.n 3) (.comp false [10] (.n 10) .seq (.cons (.var 3) .nil) (.cmp .NotEq (.idx (.var 10) (.cst (.int 0))) (.var 7)) (.var 10))) .nil) (.seq (.asg (.n 3) (.ife (.cmp .Eq (.var 6) (.cst (.str "in"))) (.bin false .Add (.var 3) (.lst false (.cons (.tup (.cons (.var 4) (.cons (.var 7) .nil))) .nil))) (.var 3))) (.seq (.asg (.n 4) (.bin false .Add (.var 4) (.cst (.int 1)))) .nil))) (.seq (.for_ (.n 8) .seq (.cons (.var 0) .nil) (.seq (.setI (.var 5) (.var 8) (.bi false .max2 (.cons (.idx (.var 5) (.var 8)) (.cons (.call 25 (.cons (.var 3) (.cons (.var 8) .nil))) .nil)))) .nil)) .nil))) (.seq (.asg (.n 2) (.bi false .tuple (.cons (.comp false [10] (.n 10) .seq (.cons (.var 1) .nil) (.cst (.bl true)) (.ife (.cmp .Eq (.idx (.var 10) (.cst (.int 0))) (.cst (.str "go"))) (.var 10) (.tup (.cons (.cst (.str "come")) (.cons (.idx (.var 10) (.cst (.int 1))) .nil))))) .nil))) (.seq (.ret (.comp false [9] (.n 9) .seq (.cons (.call 28 (.cons (.var 0) .nil)) .nil) (.cmp .Eq (.call 27 (.cons (.bi false .tuple (.cons (.comp false [8] (.n 8) .seq (.cons (.var 9) .nil) (.cst (.bl true)) (.tup (.cons (.var 8) (.cons (.idx (.frz (.var 5)) (.var 8)) .nil)))) .nil)) (.cons (.var 2) .nil))) (.bi false .tuple (.cons (.var 1) .nil))) (.var 9))) .nil))))⟩
def F30 : FI := ⟨2, 12, false, (.seq (.par [8, 9, 10] (.cons (.call 29 (.cons (.var 0) (.cons (.var 1) .nil))) (.cons (.call 19 (.cons (.var 1) .nil)) (.cons (.call 19 (.cons (.var 0) .nil)) .nil)))) (.seq (.asg (.n 2) (.bi false .minL (.cons (.comp false [11] (.n 11) .seq (.cons (.var 8) .nil) (.cst (.bl true)) (.frz (.bi false .len (.cons (.var 11) .nil)))) .nil))) (.seq (.asg (.n 3) (.lst false (.cons (.frz (.call 10 (.cons (.var 0) (.cons (.var 1) .nil)))) (.cons (.frz (.call 11 (.cons (.var 0) (.cons (.var 1) .nil)))) .nil)))) (.seq (.asg (.n 3) (.bin false .Add (.var 3) (.lst false (.cons (.frz (.callk 10 0 .nil (.cons (.var 9) (.cons (.var 10) .nil)))) (.cons (.frz (.callk 11 1 .nil (.cons (.var 9) (.cons (.var 10) .nil)))) .nil))))) (.seq (.asg (.n 4) (.call 12 (.cons (.var 0) (.cons (.var 1) .nil)))) (.seq (.ite (.orV (.notV (.tru (.call 18 (.cons (.var 3) (.cons (.bin false .Mult (.lst false (.cons (.frz (.bi false .len (.cons (.var 8) .nil))) (.cons (.var 2) .nil))) (.cst (.int 2))) .nil))))) (.cmp .NotIn (.var 4) (.var 8))) (.seq (.ret (.cst (.bl false))) .nil) .nil) (.seq (.ite (.orV (.cmp .NotEq (.bi false .len (.cons (.var 4) .nil)) (.var 2)) (.notV (.tru (.isi (.var 4) ["tuple"] true)))) (.seq (.ret (.cst (.bl false))) .nil) .nil) (.seq (.ite (.notV (.tru (.call 18 (.cons (.lst false (.cons (.frz (.call 12 (.cons (.var 10) (.cons (.var 9) .nil)))) (.cons (.frz (.callk 12 3 .nil (.cons (.var 9) (.cons (.var 10) .nil)))) .nil))) (.cons (.bin false .Mult (.lst false (.cons (.var 4) .nil)) (.cst (.int 2))) .nil))))) (.seq (.ret (.cst (.bl false))) .nil) .nil) (.seq (.asg (.n 5) (.call 28 (.cons (.var 0) .nil))) (.seq (.asg (.n 6) (.lst true (.cons (.frz (.bi false .list (.cons (.var 4) .nil))) (.cons (.bin false .Add (.var 4) (.tup (.cons (.tup (.cons (.cst (.str "zzz")) .nil)) .nil))) (.cons (.ife (.cmp .NotEq (.var 4) (.tup .nil)) (.bin false .Add (.var 4) (.sl false (.var 4) none (some ()) .nil (.cst (.int 1)))) (.cst .non)) (.cons (.cst .non) (.cons (.cst (.int 0)) (.cons (.cst (.str "ab")) (.cons (.tup (.cons (.cst .non) .nil)) .nil))))))))) (.seq (.ite (.cmp .Gt (.bi false .len (.cons (.var 4) .nil)) (.cst (.int 1))) (.seq (.drop (.mth "append" (.var 6) (.cons (.rev (.var 4)) .nil))) .nil) .nil) (.seq (.asg (.n 3) (.bin false .Add (.comp false [11] (.n 11) .seq (.cons (.bin false .Add (.var 5) (.var 6)) .nil) (.cst (.bl true)) (.frz (.call 13 (.cons (.var 0) (.cons (.var 1) (.cons (.var 11) .nil)))))) (.lst false (.cons (.frz (.callk 13 2 .nil (.cons (.var 4) (.cons (.var 9) (.cons (.var 10) .nil))))) .nil)))) (.seq (.asg (.n 7) (.bin false .Add (.bin false .Add (.comp false [11] (.n 11) .seq (.cons (.var 5) .nil) (.cst (.bl true)) (.andV (.cmp .In (.var 11) (.var 8)) (.cmp .Eq (.bi false .len (.cons (.var 11) .nil)) (.var 2)))) (.bin false .Mult (.lst false (.cons (.cst (.bl false)) .nil)) (.bi false .len (.cons (.var 6) .nil)))) (.lst false (.cons (.cst (.bl true)) .nil)))) (.seq (.ret (.andV (.call 18 (.cons (.var 3) (.cons (.var 7) .nil))) (.cmp .Eq (.lst false (.cons (.var 9) (.cons (.var 10) .nil))) (.lst false (.cons (.frz (.call 19 (.cons (.var 1) .nil))) (.cons (.frz (.call 19 (.cons (.var 0) .nil))) .nil)))))) .nil))))))))))))))⟩
def F31 : FI := ⟨0, 14, false, (.seq (.par [4, 10] (.cons (.tup (.cons (.tup (.cons (.cst (.str "a")) .nil)) (.cons (.tup (.cons (.cst (.str "a")) (.cons (.cst (.str "b")) .nil))) .nil))) (.cons (.tup (.cons (.tup (.cons (.cst (.str "in")) (.cons (.cst (.str "a")) .nil))) (.cons (.tup (.cons (.cst (.str "out")) (.cons (.cst (.str "a")) .nil))) (.cons (.tup (.cons (.cst (.str "in")) (.cons (.cst (.str "b")) .nil))) (.cons (.tup (.cons (.cst (.str "go")) (.cons (.cst (.int 0)) .nil))) (.cons (.tup (.cons (.cst (.str "in")) (.cons (.cst (.str "b")) .nil))) .nil)))))) .nil))) (.seq (.asg (.n 0) (.bin false .Add (.comp false [11] (.n 11) .r1 (.cons (.cst (.int 6)) .nil) (.cst (.bl true)) (.frz (.call 10 (.cons (.var 4) (.cons (.sl false (.var 10) none (some ()) .nil (.var 11)) .nil))))) (.comp false [11] (.n 11) .r1 (.cons (.cst (.int 6)) .nil) (.cst (.bl true)) (.frz (.call 11 (.cons (.var 4) (.cons (.sl false (.var 10) none (some ()) .nil (.var 11)) .nil))))))) (.seq (.asg (.n 1) (.lst false (.cons (.cst (.int 4)) (.cons (.cst (.int 4)) (.cons (.cst (.int 3)) (.cons (.cst (.int 2)) (.cons (.cst (.int 2)) (.cons (.cst (.int 2)) (.cons (.cst (.int 0)) (.cons (.cst (.int 0)) (.cons (.cst (.int 1)) (.cons (.cst (.int 1)) (.cons (.cst (.int 1)) (.cons (.cst (.int 1)) .nil)))))))))))))) (.seq (.asg (.n 0) (.bin false .Add (.var 0) (.lst false (.cons (.frz (.call 12 (.cons (.var 4) (.cons (.var 10) .nil)))) (.cons (.comp false [13] (.n 13) .seq (.cons (.tup (.cons (.tup .nil) (.cons (.tup (.cons (.tup (.cons (.cst (.str "a")) .nil)) .nil)) (.cons (.tup (.cons (.tup (.cons (.cst (.str "a")) (.cons (.cst (.str "b")) .nil))) .nil)) (.cons (.var 4) .nil))))) .nil) (.cst (.bl true)) (.frz (.call 13 (.cons (.var 4) (.cons (.sl false (.var 10) none (some ()) .nil (.cst (.int 2))) (.cons (.var 13) .nil)))))) (.cons (.frz (.call 12 (.cons (.tup .nil) (.cons (.tup .nil) .nil)))) (.cons (.frz (.call 10 (.cons (.tup .nil) (.cons (.tup (.cons (.tup (.cons (.cst (.str "in")) (.cons (.cst (.str "a")) .nil))) .nil)) .nil)))) .nil))))))) (.seq (.asg (.n 1) (.bin false .Add (.var 1) (.lst false (.cons (.tup (.cons (.tup (.cons (.cst (.str "a")) .nil)) .nil)) (.cons (.lst false (.cons (.cst (.bl false)) (.cons (.cst (.bl true)) (.cons (.cst (.bl true)) (.cons (.cst (.bl false)) .nil))))) (.cons (.tup .nil) (.cons (.cst (.int 1)) .nil))))))) (.seq (.asg (.n 2) (.tup (.cons (.tup (.cons (.cst (.str "a")) .nil)) (.cons (.tup (.cons (.cst (.str "b")) .nil)) (.cons (.tup (.cons (.cst (.str "c")) .nil)) (.cons (.tup (.cons (.cst (.str "a")) (.cons (.cst (.str "b")) (.cons (.cst (.str "c")) .nil)))) .nil)))))) (.seq (.asg (.n 3) (.tup (.cons (.tup (.cons (.cst (.str "in")) (.cons (.cst (.str "a")) .nil))) (.cons (.tup (.cons (.cst (.str "in")) (.cons (.cst (.str "b")) .nil))) (.cons (.tup (.cons (.cst (.str "in")) (.cons (.cst (.str "c")) .nil))) (.cons (.tup (.cons (.cst (.str "out")) (.cons (.cst (.str "a")) .nil))) (.cons (.tup (.cons (.cst (.str "out")) (.cons (.cst (.str "b")) .nil))) (.cons (.tup (.cons (.cst (.str "out")) (.cons (.cst (.str "c")) .nil))) .nil)))))))) (.seq (.asg (.n 4) (.bi false .tuple (.cons (.bi false .sorted (.cons (.var 2) .nil)) .nil))) (.seq (.asg (.n 0) (.bin false .Add (.var 0) (.lst false (.cons (.frz (.call 11 (.cons (.var 4) (.cons (.var 3) .nil)))) (.cons (.frz (.call 12 (.cons (.var 4) (.cons (.var 3) .nil)))) (.cons (.frz (.call 10 (.cons (.var 4) (.cons (.var 3) .nil)))) (.cons (.frz (.call 11 (.cons (.var 4) (.cons (.bin false .Add (.var 3) (.tup (.cons (.tup (.cons (.cst (.str "go")) (.cons (.cst (.int 0)) .nil))) (.cons (.tup (.cons (.cst (.str "in")) (.cons (.cst (.str "d")) .nil))) .nil)))) .nil)))) (.cons (.frz (.call 11 (.cons (.bi false .tuple (.cons (.bi false .sorted (.cons (.sl false (.var 2) none (some ()) .nil (.cst (.int 3))) .nil)) .nil)) (.cons (.var 3) .nil)))) .nil)))))))) (.seq (.asg (.n 1) (.bin false .Add (.var 1) (.lst false (.cons (.cst (.int 1)) (.cons (.tup (.cons (.tup (.cons (.cst (.str "a")) (.cons (.cst (.str "b")) (.cons (.cst (.str "c")) .nil)))) .nil)) (.cons (.cst (.int 9)) (.cons (.cst (.int 1)) (.cons (.cst (.int 3)) .nil)))))))) (.seq (.asg (.n 5) (.tup (.cons (.tup (.cons (.cst (.str "in")) (.cons (.cst (.str "a")) .nil))) (.cons (.tup (.cons (.cst (.str "out")) (.cons (.cst (.str "a")) .nil))) (.cons (.tup (.cons (.cst (.str "in")) (.cons (.cst (.str "b")) .nil))) (.cons (.tup (.cons (.cst (.str "out")) (.cons (.cst (.str "b")) .nil))) (.cons (.tup (.cons (.cst (.str "in")) (.cons (.cst (.str "c")) .nil))) (.cons (.tup (.cons (.cst (.str "out")) (.cons (.cst (.str "c")) .nil))) .nil)))))))) (.seq (.asg (.n 0) (.bin false .Add (.var 0) (.lst false (.cons (.frz (.call 11 (.cons (.var 4) (.cons (.var 5) .nil)))) (.cons (.frz (.call 12 (.cons (.var 4) (.cons (.sl false (.var 5) none (some ()) .nil (.cst (.int 5))) .nil)))) (.cons (.frz (.call 10 (.cons (.var 4) (.cons (.var 5) .nil)))) .nil)))))) (.seq (.asg (.n 1) (.bin false .Add (.var 1) (.lst false (.cons (.cst (.int 3)) (.cons (.tup (.cons (.tup (.cons (.cst (.str "a")) .nil)) (.cons (.tup (.cons (.cst (.str "b")) .nil)) .nil))) (.cons (.cst (.int 3)) .nil)))))) (.seq (.asg (.n 6) (.bi false .tuple (.cons (.cst (.str "abcdefgh")) .nil))) (.seq (.asg (.n 7) (.bi false .tuple (.cons (.comp false [11] (.n 11) .r1 (.cons (.cst (.int 8)) .nil) (.cst (.bl true)) (.sl false (.var 6) none (some ()) .nil (.bin false .Add (.var 11) (.cst (.int 1))))) .nil))) (.seq (.asg (.n 8) (.bi false .tuple (.cons (.comp false [12] (.n 12) .seq (.cons (.var 6) .nil) (.cst (.bl true)) (.tup (.cons (.cst (.str "in")) (.cons (.var 12) .nil)))) .nil))) (.seq (.asg (.n 9) (.bin false .Add (.var 8) (.bi false .tuple (.cons (.comp false [12] (.n 12) .seq (.cons (.var 6) .nil) (.cst (.bl true)) (.tup (.cons (.cst (.str "out")) (.cons (.var 12) .nil)))) .nil)))) (.seq (.asg (.n 0) (.bin false .Add (.var 0) (.lst false (.cons (.frz (.call 10 (.cons (.var 7) (.cons (.bin false .Add (.var 8) (.tup (.cons (.tup (.cons (.cst (.str "out")) (.cons (.cst (.str "a")) .nil))) .nil))) .nil)))) (.cons (.frz (.call 10 (.cons (.var 7) (.cons (.bin false .Add (.var 8) (.tup (.cons (.tup (.cons (.cst (.str "out")) (.cons (.cst (.str "h")) .nil))) .nil))) .nil)))) .nil))))) (.seq (.asg (.n 0) (.bin false .Add (.var 0) (.lst false (.cons (.frz (.call 11 (.cons (.var 7) (.cons (.var 9) .nil)))) (.cons (.frz (.call 10 (.cons (.var 7) (.cons (.var 9) .nil)))) .nil))))) (.seq (.ret (.call 18 (.cons (.var 0) (.cons (.bin false .Add (.var 1) (.lst false (.cons (.cst (.int 255)) (.cons (.cst (.int 128)) (.cons (.cst (.int 1)) (.cons (.cst (.int 128)) .nil)))))) .nil)))) .nil))))))))))))))))))))⟩
def F32 : FI := ⟨1, 4, false, (.seq (.for_ (.n 1) .r1 (.cons (.cst (.int 5)) .nil) (.seq (.asg (.n 2) (.call 21 (.cons (.var 0) (.cons (.bin false .Add (.cst (.int 1)) (.call 15 (.cons (.var 0) (.cons (.cst (.int 4)) .nil)))) .nil)))) (.seq (.asg (.n 3) (.call 22 (.cons (.var 0) (.cons (.var 2) (.cons (.cst (.int 4)) .nil))))) (.seq (.ite (.notV (.tru (.call 30 (.cons (.var 3) (.cons (.call 27 (.cons (.call 23 (.cons (.var 0) (.cons (.var 3) (.cons (.cst (.int 2)) .nil)))) (.cons (.call 24 (.cons (.var 0) (.cons (.var 2) (.cons (.call 15 (.cons (.var 0) (.cons (.cst (.int 11)) .nil))) .nil)))) .nil))) .nil))))) (.seq (.ret (.cst (.bl false))) .nil) .nil) .nil)))) (.seq (.ret (.cst (.bl true))) .nil))⟩
def F33 : FI := ⟨1, 3, false, (.seq (.ite (.notV (.tru (.call 31 .nil))) (.seq (.ret (.cst (.bl false))) .nil) .nil) (.seq (.asg (.n 1) (.call 16 (.cons (.var 0) (.cons (.cst (.int 3)) .nil)))) (.seq (.ret (.bi false .all (.cons (.comp false [2] (.n 2) .r1 (.cons (.bi false .len (.cons (.var 1) .nil)) .nil) (.cst (.bl true)) (.frz (.call 32 (.cons (.call 14 (.cons (.var 1) (.cons (.var 2) .nil))) .nil)))) .nil))) .nil)))⟩
def fs : List FI := [F0, F1, F2, F3, F4, F5, F6, F7, F8, F9, F10, F11, F12, F13, F14, F15, F16, F17, F18, F19, F20, F21, F22, F23, F24, F25, F26, F27, F28, F29, F30, F31, F32, F33]
theorem tr_ok : dfs.map (fun d => d.tr (fnsOf dfs) kws) = fs.map some := by kernel_rfl!
theorem sc_ok : dfs.all (fun d => scopeB d.N d.ps (defScope d.st)) = true := by kernel_rfl!
end Q77

set_option maxHeartbeats 1000000
namespace Qq.N77
open PySem L2 Q77 Qq.Lw
theorem ix : Ix77 fs 0 1 2 3 4 5 6 7 8 9 10 11 12 13 := ⟨rfl, rfl, rfl, rfl, rfl, rfl, rfl, rfl, rfl, rfl, rfl, rfl, rfl, rfl⟩
theorem right_ok : RightOk (callF fs 300 (pmT kws) 12) 32 := by
  refine right4_of (n := 11) (m := 5) (by decide) (p := rt77 21 15 22 23 24 27 30) rfl ?_
  intro k j d x1 x2 x3 hj
  exact turn77_ok ix (iLo := 29) (iL := 19) (iSm := 18) (iSu := 28) (iI := 25) (iTo := 27) (iWa := 26) (iK := 21) (iP := 20) (iN := 22) (iB := 23) (iD := 24) (iO := 17) (iTk := 15) (iC := 30) (cA := 39373) rfl rfl rfl rfl rfl rfl rfl rfl rfl rfl (by decide) rfl rfl rfl rfl rfl (fun _ _ => rfl) (fun _ _ => rfl) (fun _ _ _ => rfl) (fun _ _ => rfl) 0 hj d x1 x2 x3
end Qq.N77

set_option maxHeartbeats 1000000
namespace Qq.N77
open PySem L2 Q77 Qq.Lw
def unS : List T → Option (List Str)
  | [] => some []
  | .str x :: r => (unS r).map (x :: ·)
  | _ => none
def unL : List T → Option (List (List Str))
  | [] => some []
  | .tup g :: r => match unS g, unL r with
    | some a, some b => some (a :: b)
    | _, _ => none
  | _ => none
def unE : T → Option En
  | .tup [.str w, .str x] => if w = "in" then some (.inn x) else if w = "out" then some (.out x) else none
  | .tup [.str w, .int i] => if w = "go" then some (.go i) else none
  | _ => none
def unLog : List T → Option (List En)
  | [] => some []
  | t :: r => match unE t, unLog r with
    | some a, some b => some (a :: b)
    | _, _ => none
theorem unS_eq : ∀ {ts : List T} {g : List Str}, unS ts = some g → ts = g.map T.str
  | [], g, h => by cases h; rfl
  | .str x :: r, g, h => by
    unfold unS at h
    cases hr : unS r with
    | none => rw [hr] at h; cases h
    | some g' => rw [hr] at h; cases h; rw [unS_eq hr]; rfl
  | .non :: _, _, h => by cases h
  | .bl _ :: _, _, h => by cases h
  | .int _ :: _, _, h => by cases h
  | .scr _ :: _, _, h => by cases h
  | .tup _ :: _, _, h => by cases h
  | .lst _ :: _, _, h => by cases h
  | .dK _ :: _, _, h => by cases h
  | .dT _ :: _, _, h => by cases h
theorem unL_eq {x : List T} {L : List (List Str)} (h : unL x = some L) : .tup x = lotsS true L := by
  have : ∀ {x : List T} {L : List (List Str)}, unL x = some L → x = L.map fun g => sq true (g.map T.str) := by
    intro x
    induction x with
    | nil => intro L h; cases h; rfl
    | cons t r ih =>
      intro L h
      unfold unL at h
      split at h
      · cases h; rename_i e; cases e
      · rename_i g r' e
        cases e
        split at h
        · rename_i a b ha hb
          cases h
          rw [ih hb, unS_eq ha]; rfl
        · cases h
      · cases h
  rw [this h]; rfl
theorem unE_eq {t : T} {e : En} (h : unE t = some e) : t = enT true e := by
  unfold unE at h
  split at h
  · split at h
    · rename_i hw; subst hw; cases h; rfl
    · split at h
      · rename_i hw; subst hw; cases h; rfl
      · cases h
  · split at h
    · rename_i hw; subst hw; cases h; rfl
    · cases h
  · cases h
theorem unLog_eq {x : List T} {l : List En} (h : unLog x = some l) : .tup x = logT true l := by
  have : ∀ {x : List T} {l : List En}, unLog x = some l → x = l.map (enT true) := by
    intro x
    induction x with
    | nil => intro l h; cases h; rfl
    | cons t r ih =>
      intro l h
      unfold unLog at h
      split at h
      · rename_i a b ha hb
        cases h
        rw [List.map_cons, ← unE_eq ha, ← ih hb]
      · cases h
  rw [this h]; rfl
def isK (w : Str) : Bool := w == "a" || w == "b" || w == "c" || w == "d" || w == "e" || w == "f" || w == "g" || w == "h"
theorem isK_ok {w : Str} (h : isK w = true) : PyData.strOk w = true := by
  unfold isK at h
  simp only [Bool.or_eq_true, beq_iff_eq] at h
  rcases h with ((((((rfl | rfl) | rfl) | rfl) | rfl) | rfl) | rfl) | rfl <;> decide +kernel
def lotsOk (L : List (List Str)) : Bool := decide (L.length ≤ 8) && L.all fun g => decide (g.length ≤ 1000) && g.all isK
def enOk : En → Bool
  | .inn w => isK w
  | .out w => isK w
  | .go _ => true
def logOk (l : List En) : Bool := decide (l.length < 1000000) && l.all enOk
theorem lotsOk_ok {L : List (List Str)} (h : lotsOk L = true) : LOk L ∧ L.length ≤ 8 := by
  unfold lotsOk at h
  rw [Bool.and_eq_true] at h
  have h8 := of_decide_eq_true h.1
  refine ⟨⟨by omega, fun g hg => ?_⟩, h8⟩
  have := List.all_eq_true.mp h.2 g hg
  rw [Bool.and_eq_true] at this
  exact ⟨of_decide_eq_true this.1, fun x hx => isK_ok (List.all_eq_true.mp this.2 x hx)⟩
theorem logOk_ok {l : List En} (h : logOk l = true) : (∀ e ∈ l, EnOk e) ∧ l.length < 1000000 := by
  unfold logOk at h
  rw [Bool.and_eq_true] at h
  refine ⟨fun e he => ?_, of_decide_eq_true h.1⟩
  have := List.all_eq_true.mp h.2 e he
  cases e with
  | inn w => exact isK_ok this
  | out w => exact isK_ok this
  | go i => trivial
def whyN (L : List (List Str)) (l : List En) : List (List (List Str)) := whys (rows l) L l [] 0
def two (x y : T) : Option (List (List Str) × List En) := match x, y with
  | .tup x, .tup y => (match unL x, unLog y with
    | some L, some l => if lotsOk L && logOk l && (whyN L l).all (fun ws => !ws.isEmpty) then some (L, l) else none
    | _, _ => none)
  | _, _ => none
theorem two_ok {x y : T} {p : List (List Str) × List En} (h : two x y = some p) : x = lotsS true p.1 ∧ y = logT true p.2 ∧ (LOk p.1 ∧ p.1.length ≤ 8) ∧ (∀ e ∈ p.2, EnOk e) ∧ p.2.length < 1000000 ∧ ∀ ws ∈ whys (rows p.2) p.1 p.2 [] 0, ws ≠ [] := by
  unfold two at h
  split at h
  · split at h
    · rename_i hL hl
      split at h
      · rename_i hb
        rw [Bool.and_eq_true, Bool.and_eq_true] at hb
        cases h
        obtain ⟨q1, q2⟩ := logOk_ok hb.1.2
        refine ⟨unL_eq hL, unLog_eq hl, lotsOk_ok hb.1.1, q1, q2, fun ws hw e => ?_⟩
        have := List.all_eq_true.mp hb.2 ws hw
        rw [e] at this
        cases this
      · cases h
    · cases h
  · cases h
def fineN (p : List (List Str) × List En) : List (List (List Str)) := (subs p.1).filter (okLot (whyN p.1 p.2))
def expN (p : List (List Str) × List En) : List (List (List Str)) := (srtT (fun a b => leT (pairT a) (pairT b)) (subs p.1)).filter (okLot (whyN p.1 p.2))
theorem srt_at {L : List (List Str)} (h8 : L.length ≤ 8) : sortT ((subs L).map pairT) = some ((srtT (fun a b => leT (pairT a) (pairT b)) (subs L)).map pairT) ∧ (srtT (fun a b => leT (pairT a) (pairT b)) (subs L)).Perm (subs L) ∧ (srtT (fun a b => leT (pairT a) (pairT b)) (subs L)).Pairwise fun a b => a.length ≤ b.length := by
  obtain ⟨A, e, _, _⟩ := sort_lots (ps := subs L) (by have := subs_len h8; unfold line; omega)
  refine ⟨?_, srtT_perm _ _, ?_⟩
  · unfold sortT at e ⊢
    split at e
    · rename_i ps hps
      split at e
      · rename_i hc
        rw [if_pos hc, srt_map]
      · cases e
    · cases e
  · have := srtT_sorted (fun a b : List (List Str) => leT (pairT a) (pairT b)) (fun x y => leT_tot (pairT x) (pairT y)) (fun x y z h1 h2 => leT_tr (pairT x) (pairT y) (pairT z) h1 h2) (subs L)
    exact this.imp fun h => le_pair h
def minN (ls : List Nat) : Nat := ls.foldl min 1000
theorem minN_eq {m : Nat} : ∀ {ls : List Nat} {a : Nat}, m ≤ a → (∀ x ∈ ls, m ≤ x) → (m = a ∨ m ∈ ls) → ls.foldl min a = m
  | [], a, h1, h2, h3 => by
    rcases h3 with rfl | h3
    · rfl
    · cases h3
  | x :: ls, a, h1, h2, h3 => by
    rw [List.foldl_cons]
    have hx := h2 x List.mem_cons_self
    refine minN_eq (by omega) (fun y hy => h2 y (List.mem_cons_of_mem _ hy)) ?_
    rcases h3 with rfl | h3
    · exact .inl (by omega)
    · rcases List.mem_cons.mp h3 with rfl | h3
      · exact .inl (by omega)
      · exact .inr h3
def clM (f : Nat) (ds : List D) (S : Sto) : R D := match f, ds with
  | 10, [.t x, .t y] => (match two x y with
    | some p => .ok (.t (.int ((fineN p).length : Nat))) S
    | none => .bad)
  | 11, [.t x, .t y] => (match two x y with
    | some p => (match fineN p with
      | [] => .bad
      | q :: r => .ok (.t (.int (minN ((q :: r).map List.length) : Nat))) S)
    | none => .bad)
  | 12, [.t x, .t y] => (match two x y with
    | some p => (match expN p with
      | [] => .bad
      | q :: _ => .ok (.t (lotT q)) S)
    | none => .bad)
  | 13, [.t x, .t y, .t z] => (match two x y with
    | some p => (match expN p with
      | [] => .bad
      | q :: r => (match inT z ((fews q r).map lotT) with
        | some b => .ok (.t (.bl b)) S
        | none => .bad))
    | none => .bad)
  | 18, [.t g, .t d] => (match smq 4 g d with
    | true => .ok (.t (.bl true)) S
    | false => .bad)
  | _, _ => .bad
theorem clM_le : Le clM (callF fs 300 (pmT kws) 11) := by
  intro f ds S
  have key : ∀ {x y : T} {p : List (List Str) × List En}, two x y = some p → x = lotsS true p.1 ∧ y = logT true p.2 ∧ (∀ S : Sto, callF fs 300 (pmT kws) 10 9 [.t (lotsS true p.1), .t (logT true p.2)] S = .ok (.t (.lst ((expN p).map lotT))) S) ∧ (∀ S : Sto, callF fs 300 (pmT kws) 10 5 [.t (lotsS true p.1), .t (logT true p.2)] S = .ok (.t (.bl true)) S) ∧ (expN p).Perm (fineN p) ∧ ((expN p).Pairwise fun a b => a.length ≤ b.length) ∧ (expN p).length ≤ 256 ∧ ∀ q ∈ expN p, q.length ≤ 8 := by
    intro x y p hp
    obtain ⟨q1, q2, ⟨q3, q4⟩, q5, q6, q7⟩ := two_ok hp
    obtain ⟨s1, s2, s3⟩ := srt_at q4
    refine ⟨q1, q2, fun S => expl_at (pm := pmT kws) ix q3 q4 q5 q6 q7 s1 s2 1 true S, fun S => fits_at (pm := pmT kws) ix q3 q4 q5 q6 q7 s1 s2 3 true S, s2.filter _, s3.sublist List.filter_sublist, ?_, fun q hq => ?_⟩
    · refine Nat.le_trans (List.length_filter_le _ _) ?_
      rw [s2.length_eq]; exact subs_len q4
    · have := (subs_mem (s2.mem_iff.mp (List.mem_filter.mp hq).1)).length_le
      omega
  unfold clM
  split
  · split
    · rename_i p hp
      obtain ⟨rfl, rfl, k1, k2, k3, k4, k5, k6⟩ := key hp
      have := how_ok (wf := 300) (pm := pmT kws) ix.h k1 S
      rw [k3.length_eq] at this
      exact .inr this.symm
    · exact .inl rfl
  · split
    · rename_i p hp
      obtain ⟨rfl, rfl, k1, k2, k3, k4, k5, k6⟩ := key hp
      split
      · exact .inl rfl
      · rename_i q r hq
        rw [← hq]
        cases he : expN p with
        | nil => rw [he, hq] at k3; exact absurd k3.length_eq (by simp)
        | cons q' r' =>
          rw [he] at k1 k4 k6
          have hm : minN ((fineN p).map List.length) = q'.length := by
            refine minN_eq ?_ (fun x hx => ?_) (.inr ?_)
            · have := k6 q' List.mem_cons_self; omega
            · obtain ⟨z, hz, rfl⟩ := List.mem_map.mp hx
              have hz := k3.mem_iff.mpr hz
              rw [he] at hz
              rcases List.mem_cons.mp hz with rfl | hz
              · exact Nat.le_refl _
              · exact (List.pairwise_cons.mp k4).1 z hz
            · exact List.mem_map.mpr ⟨q', k3.mem_iff.mp (by rw [he]; exact List.mem_cons_self), rfl⟩
          rw [hm]
          exact .inr (few_ok (wf := 300) (pm := pmT kws) ix.fe k1 S).symm
    · exact .inl rfl
  · split
    · rename_i p hp
      obtain ⟨rfl, rfl, k1, k2, k3, k4, k5, k6⟩ := key hp
      split
      · exact .inl rfl
      · rename_i q r hq
        rw [hq] at k1
        exact .inr (some_ok (wf := 300) (pm := pmT kws) ix.so k1 S).symm
    · exact .inl rfl
  · split
    · rename_i p hp
      obtain ⟨rfl, rfl, k1, k2, k3, k4, k5, k6⟩ := key hp
      split
      · exact .inl rfl
      · rename_i q r hq
        rw [hq] at k1 k5
        split
        · rename_i b hb
          exact .inr (is_ok (wf := 300) (pm := pmT kws) ix.is (by rw [List.length_cons] at k5; unfold line; omega) k2 k1 hb S).symm
        · exact .inl rfl
    · exact .inl rfl
  · split
    · rename_i h; exact .inr (smq_ok (k := 4) (n := 6) rfl S h).symm
    · exact .inl rfl
  · exact .inl rfl
end Qq.N77

set_option maxHeartbeats 1000000
namespace Qq.N77
open PySem L2 Q77 Qq.Lw
theorem hand_body : isTru (bodyF 300 clM (pmT kws) F31 [] []) = true := by decide +kernel
theorem hand_ok : callF fs 300 (pmT kws) 12 31 [] [] = .ok (.t (.bl true)) [] := callF_of (F := F31) rfl rfl clM_le (isTru_ok hand_body)
theorem law_true (ns : List Int) (h1 : ns.length ≤ 63) (h2 : ∀ z ∈ ns, Builtin.Int.intBits z ≤ 1048576) : ∃ S, callF fs 300 (pmT kws) 13 33 [.t (.scr ns)] [] = .ok (.t (.bl true)) S :=
  ⟨[], lawH_ok (n := 11) (m := 3) (iH := 31) (iC := 16) (iB := 14) (iR := 32) (cA := 39373) (cB := 1050177) rfl rfl rfl (by decide) (by decide) (by decide) hand_ok right_ok ns h2⟩
end Qq.N77

set_option autoImplicit true
set_option maxHeartbeats 400000
namespace Q77
open PySem L2 Qq
theorem law_true (ns : List Int) (h1 : ns.length ≤ 63) (h2 : ∀ z ∈ ns, Builtin.Int.intBits z ≤ 1048576) : ∃ S, callF fs 300 (pmT kws) 13 33 [.t (.scr ns)] [] = .ok (.t (.bl true)) S := Qq.N77.law_true ns h1 h2
theorem bd0 (kV doc pm : Value) (an : Option Addr) (cdv ct : Value) (us : List Value) (hl : us.length = (["value"] : List Str).length) : bindArgs (PySem.W.fnOf "tupled" "tupled" (defArgs (top 3)) (defBody (top 3)) (defScope (top 3)) .none kV doc pm an cdv ct) ⟨us, []⟩ = pure ((["value"] : List Str).zip us) :=
  match us, hl with | [_], _ => rfl
theorem bd1 (kV doc pm : Value) (an : Option Addr) (cdv ct : Value) (us : List Value) (hl : us.length = (["held", "group"] : List Str).length) : bindArgs (PySem.W.fnOf "many_of" "many_of" (defArgs (top 6)) (defBody (top 6)) (defScope (top 6)) .none kV doc pm an cdv ct) ⟨us, []⟩ = pure ((["held", "group"] : List Str).zip us) :=
  match us, hl with | [_, _], _ => rfl
theorem bd2 (kV doc pm : Value) (an : Option Addr) (cdv ct : Value) (us : List Value) (hl : us.length = (["log"] : List Str).length) : bindArgs (PySem.W.fnOf "walked_log" "walked_log" (defArgs (top 10)) (defBody (top 10)) (defScope (top 10)) .none kV doc pm an cdv ct) ⟨us, []⟩ = pure ((["log"] : List Str).zip us) :=
  match us, hl with | [_], _ => rfl
theorem bd3 (kV doc pm : Value) (an : Option Addr) (cdv ct : Value) (us : List Value) (hl : us.length = (["tree", "log"] : List Str).length) : bindArgs (PySem.W.fnOf "seen_most" "seen_most" (defArgs (top 11)) (defBody (top 11)) (defScope (top 11)) .none kV doc pm an cdv ct) ⟨us, []⟩ = pure ((["tree", "log"] : List Str).zip us) :=
  match us, hl with | [_, _], _ => rfl
theorem bd4 (kV doc pm : Value) (an : Option Addr) (cdv ct : Value) (us : List Value) (hl : us.length = (["tree", "log"] : List Str).length) : bindArgs (PySem.W.fnOf "reasons_of" "reasons_of" (defArgs (top 12)) (defBody (top 12)) (defScope (top 12)) .none kV doc pm an cdv ct) ⟨us, []⟩ = pure ((["tree", "log"] : List Str).zip us) :=
  match us, hl with | [_, _], _ => rfl
theorem bd5 (kV doc pm : Value) (an : Option Addr) (cdv ct : Value) (us : List Value) (hl : us.length = (["tree", "log"] : List Str).length) : bindArgs (PySem.W.fnOf "fits_log" "fits_log" (defArgs (top 13)) (defBody (top 13)) (defScope (top 13)) .none kV doc pm an cdv ct) ⟨us, []⟩ = pure ((["tree", "log"] : List Str).zip us) :=
  match us, hl with | [_, _], _ => rfl
theorem bd6 (kV doc pm : Value) (an : Option Addr) (cdv ct : Value) (us : List Value) (hl : us.length = (["tree", "log"] : List Str).length) : bindArgs (PySem.W.fnOf "first_unfit" "first_unfit" (defArgs (top 14)) (defBody (top 14)) (defScope (top 14)) .none kV doc pm an cdv ct) ⟨us, []⟩ = pure ((["tree", "log"] : List Str).zip us) :=
  match us, hl with | [_, _], _ => rfl
theorem bd7 (kV doc pm : Value) (an : Option Addr) (cdv ct : Value) (us : List Value) (hl : us.length = (["tree", "log"] : List Str).length) : bindArgs (PySem.W.fnOf "check_fits" "check_fits" (defArgs (top 15)) (defBody (top 15)) (defScope (top 15)) .none kV doc pm an cdv ct) ⟨us, []⟩ = pure ((["tree", "log"] : List Str).zip us) :=
  match us, hl with | [_, _], _ => rfl
theorem bd8 (kV doc pm : Value) (an : Option Addr) (cdv ct : Value) (us : List Value) (hl : us.length = (["groups"] : List Str).length) : bindArgs (PySem.W.fnOf "all_lots" "all_lots" (defArgs (top 16)) (defBody (top 16)) (defScope (top 16)) .none kV doc pm an cdv ct) ⟨us, []⟩ = pure ((["groups"] : List Str).zip us) :=
  match us, hl with | [_], _ => rfl
theorem bd9 (kV doc pm : Value) (an : Option Addr) (cdv ct : Value) (us : List Value) (hl : us.length = (["tree", "log"] : List Str).length) : bindArgs (PySem.W.fnOf "explanations" "explanations" (defArgs (top 17)) (defBody (top 17)) (defScope (top 17)) .none kV doc pm an cdv ct) ⟨us, []⟩ = pure ((["tree", "log"] : List Str).zip us) :=
  match us, hl with | [_, _], _ => rfl
theorem bd10 (kV doc pm : Value) (an : Option Addr) (cdv ct : Value) (us : List Value) (hl : us.length = (["tree", "log"] : List Str).length) : bindArgs (PySem.W.fnOf "how_many_explanations" "how_many_explanations" (defArgs (top 18)) (defBody (top 18)) (defScope (top 18)) .none kV doc pm an cdv ct) ⟨us, []⟩ = pure ((["tree", "log"] : List Str).zip us) :=
  match us, hl with | [_, _], _ => rfl
theorem bd11 (kV doc pm : Value) (an : Option Addr) (cdv ct : Value) (us : List Value) (hl : us.length = (["tree", "log"] : List Str).length) : bindArgs (PySem.W.fnOf "fewest_limits" "fewest_limits" (defArgs (top 19)) (defBody (top 19)) (defScope (top 19)) .none kV doc pm an cdv ct) ⟨us, []⟩ = pure ((["tree", "log"] : List Str).zip us) :=
  match us, hl with | [_, _], _ => rfl
theorem bd12 (kV doc pm : Value) (an : Option Addr) (cdv ct : Value) (us : List Value) (hl : us.length = (["tree", "log"] : List Str).length) : bindArgs (PySem.W.fnOf "some_fewest" "some_fewest" (defArgs (top 20)) (defBody (top 20)) (defScope (top 20)) .none kV doc pm an cdv ct) ⟨us, []⟩ = pure ((["tree", "log"] : List Str).zip us) :=
  match us, hl with | [_, _], _ => rfl
theorem bd13 (kV doc pm : Value) (an : Option Addr) (cdv ct : Value) (us : List Value) (hl : us.length = (["tree", "log", "thing"] : List Str).length) : bindArgs (PySem.W.fnOf "is_fewest" "is_fewest" (defArgs (top 21)) (defBody (top 21)) (defScope (top 21)) .none kV doc pm an cdv ct) ⟨us, []⟩ = pure ((["tree", "log", "thing"] : List Str).zip us) :=
  match us, hl with | [_, _, _], _ => rfl
theorem bd14 (kV doc pm : Value) (an : Option Addr) (cdv ct : Value) (us : List Value) (hl : us.length = (["_law_script", "_law_k"] : List Str).length) : bindArgs (PySem.W.fnOf "_law_box" "_law_box" (defArgs (top 23)) (defBody (top 23)) (defScope (top 23)) .none kV doc pm an cdv ct) ⟨us, []⟩ = pure ((["_law_script", "_law_k"] : List Str).zip us) :=
  match us, hl with | [_, _], _ => rfl
theorem bd15 (kV doc pm : Value) (an : Option Addr) (cdv ct : Value) (us : List Value) (hl : us.length = (["_law_urn", "_law_low_so"] : List Str).length) : bindArgs (PySem.W.fnOf "_law_take" "_law_take" (defArgs (top 24)) (defBody (top 24)) (defScope (top 24)) .none kV doc pm an cdv ct) ⟨us, []⟩ = pure ((["_law_urn", "_law_low_so"] : List Str).zip us) :=
  match us, hl with | [_, _], _ => rfl
theorem bd16 (kV doc pm : Value) (an : Option Addr) (cdv ct : Value) (us : List Value) (hl : us.length = (["_law_script", "_law_top"] : List Str).length) : bindArgs (PySem.W.fnOf "_law_cells" "_law_cells" (defArgs (top 25)) (defBody (top 25)) (defScope (top 25)) .none kV doc pm an cdv ct) ⟨us, []⟩ = pure ((["_law_script", "_law_top"] : List Str).zip us) :=
  match us, hl with | [_, _], _ => rfl
theorem bd17 (kV doc pm : Value) (an : Option Addr) (cdv ct : Value) (us : List Value) (hl : us.length = (["_law_urn", "_law_some_so"] : List Str).length) : bindArgs (PySem.W.fnOf "_law_of" "_law_of" (defArgs (top 26)) (defBody (top 26)) (defScope (top 26)) .none kV doc pm an cdv ct) ⟨us, []⟩ = pure ((["_law_urn", "_law_some_so"] : List Str).zip us) :=
  match us, hl with | [_, _], _ => rfl
theorem bd18 (kV doc pm : Value) (an : Option Addr) (cdv ct : Value) (us : List Value) (hl : us.length = (["_law_got", "_law_goal"] : List Str).length) : bindArgs (PySem.W.fnOf "_law_same" "_law_same" (defArgs (top 27)) (defBody (top 27)) (defScope (top 27)) .none kV doc pm an cdv ct) ⟨us, []⟩ = pure ((["_law_got", "_law_goal"] : List Str).zip us) :=
  match us, hl with | [_, _], _ => rfl
theorem bd19 (kV doc pm : Value) (an : Option Addr) (cdv ct : Value) (us : List Value) (hl : us.length = (["_law_matter"] : List Str).length) : bindArgs (PySem.W.fnOf "_law_lists" "_law_lists" (defArgs (top 28)) (defBody (top 28)) (defScope (top 28)) .none kV doc pm an cdv ct) ⟨us, []⟩ = pure ((["_law_matter"] : List Str).zip us) :=
  match us, hl with | [_], _ => rfl
theorem bd20 (kV doc pm : Value) (an : Option Addr) (cdv ct : Value) (us : List Value) (hl : us.length = (["_law_urn", "_law_pool", "_law_size_so"] : List Str).length) : bindArgs (PySem.W.fnOf "_law_pick" "_law_pick" (defArgs (top 29)) (defBody (top 29)) (defScope (top 29)) .none kV doc pm an cdv ct) ⟨us, []⟩ = pure ((["_law_urn", "_law_pool", "_law_size_so"] : List Str).zip us) :=
  match us, hl with | [_, _, _], _ => rfl
theorem bd21 (kV doc pm : Value) (an : Option Addr) (cdv ct : Value) (us : List Value) (hl : us.length = (["_law_urn", "_law_size_so"] : List Str).length) : bindArgs (PySem.W.fnOf "_law_kin" "_law_kin" (defArgs (top 30)) (defBody (top 30)) (defScope (top 30)) .none kV doc pm an cdv ct) ⟨us, []⟩ = pure ((["_law_urn", "_law_size_so"] : List Str).zip us) :=
  match us, hl with | [_, _], _ => rfl
theorem bd22 (kV doc pm : Value) (an : Option Addr) (cdv ct : Value) (us : List Value) (hl : us.length = (["_law_urn", "_law_kin_so", "_law_most_so"] : List Str).length) : bindArgs (PySem.W.fnOf "_law_nest" "_law_nest" (defArgs (top 31)) (defBody (top 31)) (defScope (top 31)) .none kV doc pm an cdv ct) ⟨us, []⟩ = pure ((["_law_urn", "_law_kin_so", "_law_most_so"] : List Str).zip us) :=
  match us, hl with | [_, _, _], _ => rfl
theorem bd23 (kV doc pm : Value) (an : Option Addr) (cdv ct : Value) (us : List Value) (hl : us.length = (["_law_urn", "_law_lots_so", "_law_top_so"] : List Str).length) : bindArgs (PySem.W.fnOf "_law_bars" "_law_bars" (defArgs (top 32)) (defBody (top 32)) (defScope (top 32)) .none kV doc pm an cdv ct) ⟨us, []⟩ = pure ((["_law_urn", "_law_lots_so", "_law_top_so"] : List Str).zip us) :=
  match us, hl with | [_, _, _], _ => rfl
theorem bd24 (kV doc pm : Value) (an : Option Addr) (cdv ct : Value) (us : List Value) (hl : us.length = (["_law_urn", "_law_kin_so", "_law_size_so"] : List Str).length) : bindArgs (PySem.W.fnOf "_law_deeds" "_law_deeds" (defArgs (top 33)) (defBody (top 33)) (defScope (top 33)) .none kV doc pm an cdv ct) ⟨us, []⟩ = pure ((["_law_urn", "_law_kin_so", "_law_size_so"] : List Str).zip us) :=
  match us, hl with | [_, _, _], _ => rfl
theorem bd25 (kV doc pm : Value) (an : Option Addr) (cdv ct : Value) (us : List Value) (hl : us.length = (["_law_here", "_law_lot"] : List Str).length) : bindArgs (PySem.W.fnOf "_law_in_lot" "_law_in_lot" (defArgs (top 34)) (defBody (top 34)) (defScope (top 34)) .none kV doc pm an cdv ct) ⟨us, []⟩ = pure ((["_law_here", "_law_lot"] : List Str).zip us) :=
  match us, hl with | [_, _], _ => rfl
theorem bd26 (kV doc pm : Value) (an : Option Addr) (cdv ct : Value) (us : List Value) (hl : us.length = (["_law_bars_so", "_law_row_so"] : List Str).length) : bindArgs (PySem.W.fnOf "_law_walk" "_law_walk" (defArgs (top 35)) (defBody (top 35)) (defScope (top 35)) .none kV doc pm an cdv ct) ⟨us, []⟩ = pure ((["_law_bars_so", "_law_row_so"] : List Str).zip us) :=
  match us, hl with | [_, _], _ => rfl
theorem bd27 (kV doc pm : Value) (an : Option Addr) (cdv ct : Value) (us : List Value) (hl : us.length = (["_law_bars_so", "_law_row_so"] : List Str).length) : bindArgs (PySem.W.fnOf "_law_told" "_law_told" (defArgs (top 36)) (defBody (top 36)) (defScope (top 36)) .none kV doc pm an cdv ct) ⟨us, []⟩ = pure ((["_law_bars_so", "_law_row_so"] : List Str).zip us) :=
  match us, hl with | [_, _], _ => rfl
theorem bd28 (kV doc pm : Value) (an : Option Addr) (cdv ct : Value) (us : List Value) (hl : us.length = (["_law_some"] : List Str).length) : bindArgs (PySem.W.fnOf "_law_subsets" "_law_subsets" (defArgs (top 37)) (defBody (top 37)) (defScope (top 37)) .none kV doc pm an cdv ct) ⟨us, []⟩ = pure ((["_law_some"] : List Str).zip us) :=
  match us, hl with | [_], _ => rfl
theorem bd29 (kV doc pm : Value) (an : Option Addr) (cdv ct : Value) (us : List Value) (hl : us.length = (["_law_lots_so", "_law_log_so"] : List Str).length) : bindArgs (PySem.W.fnOf "_law_lots" "_law_lots" (defArgs (top 38)) (defBody (top 38)) (defScope (top 38)) .none kV doc pm an cdv ct) ⟨us, []⟩ = pure ((["_law_lots_so", "_law_log_so"] : List Str).zip us) :=
  match us, hl with | [_, _], _ => rfl
theorem bd30 (kV doc pm : Value) (an : Option Addr) (cdv ct : Value) (us : List Value) (hl : us.length = (["_law_lots_so", "_law_log_so"] : List Str).length) : bindArgs (PySem.W.fnOf "_law_case_right" "_law_case_right" (defArgs (top 39)) (defBody (top 39)) (defScope (top 39)) .none kV doc pm an cdv ct) ⟨us, []⟩ = pure ((["_law_lots_so", "_law_log_so"] : List Str).zip us) :=
  match us, hl with | [_, _], _ => rfl
theorem bd31 (kV doc pm : Value) (an : Option Addr) (cdv ct : Value) (us : List Value) (hl : us.length = ([] : List Str).length) : bindArgs (PySem.W.fnOf "_law_by_hand_right" "_law_by_hand_right" (defArgs (top 40)) (defBody (top 40)) (defScope (top 40)) .none kV doc pm an cdv ct) ⟨us, []⟩ = pure (([] : List Str).zip us) :=
  match us, hl with | [], _ => rfl
theorem bd32 (kV doc pm : Value) (an : Option Addr) (cdv ct : Value) (us : List Value) (hl : us.length = (["_law_urn"] : List Str).length) : bindArgs (PySem.W.fnOf "_law_right" "_law_right" (defArgs (top 41)) (defBody (top 41)) (defScope (top 41)) .none kV doc pm an cdv ct) ⟨us, []⟩ = pure ((["_law_urn"] : List Str).zip us) :=
  match us, hl with | [_], _ => rfl
theorem bd33 (kV doc pm : Value) (an : Option Addr) (cdv ct : Value) (us : List Value) (hl : us.length = (["_law_script"] : List Str).length) : bindArgs (PySem.W.fnOf "law" "law" (defArgs (top 42)) (defBody (top 42)) (defScope (top 42)) .none kV doc pm an cdv ct) ⟨us, []⟩ = pure ((["_law_script"] : List Str).zip us) :=
  match us, hl with | [_], _ => rfl
theorem kw0 (kV doc pm : Value) (an : Option Addr) (cdv ct : Value) (us ws : List Value) (h1 : us.length = 0) (h2 : ws.length = (["log", "tree"] : List Str).length) : bindArgs (PySem.W.fnOf "how_many_explanations" "how_many_explanations" (defArgs (top 18)) (defBody (top 18)) (defScope (top 18)) .none kV doc pm an cdv ct) ⟨us, (["log", "tree"] : List Str).zip ws⟩ = pure ((["tree", "log"] : List Str).zip (([1, 0] : List Nat).map fun j => (us ++ ws).getD j .none)) :=
  match us, h1, ws, h2 with | [], _, [_, _], _ => rfl
theorem kw1 (kV doc pm : Value) (an : Option Addr) (cdv ct : Value) (us ws : List Value) (h1 : us.length = 0) (h2 : ws.length = (["log", "tree"] : List Str).length) : bindArgs (PySem.W.fnOf "fewest_limits" "fewest_limits" (defArgs (top 19)) (defBody (top 19)) (defScope (top 19)) .none kV doc pm an cdv ct) ⟨us, (["log", "tree"] : List Str).zip ws⟩ = pure ((["tree", "log"] : List Str).zip (([1, 0] : List Nat).map fun j => (us ++ ws).getD j .none)) :=
  match us, h1, ws, h2 with | [], _, [_, _], _ => rfl
theorem kw2 (kV doc pm : Value) (an : Option Addr) (cdv ct : Value) (us ws : List Value) (h1 : us.length = 0) (h2 : ws.length = (["thing", "log", "tree"] : List Str).length) : bindArgs (PySem.W.fnOf "is_fewest" "is_fewest" (defArgs (top 21)) (defBody (top 21)) (defScope (top 21)) .none kV doc pm an cdv ct) ⟨us, (["thing", "log", "tree"] : List Str).zip ws⟩ = pure ((["tree", "log", "thing"] : List Str).zip (([2, 1, 0] : List Nat).map fun j => (us ++ ws).getD j .none)) :=
  match us, h1, ws, h2 with | [], _, [_, _, _], _ => rfl
theorem kw3 (kV doc pm : Value) (an : Option Addr) (cdv ct : Value) (us ws : List Value) (h1 : us.length = 0) (h2 : ws.length = (["log", "tree"] : List Str).length) : bindArgs (PySem.W.fnOf "some_fewest" "some_fewest" (defArgs (top 20)) (defBody (top 20)) (defScope (top 20)) .none kV doc pm an cdv ct) ⟨us, (["log", "tree"] : List Str).zip ws⟩ = pure ((["tree", "log"] : List Str).zip (([1, 0] : List Nat).map fun j => (us ++ ws).getD j .none)) :=
  match us, h1, ws, h2 with | [], _, [_, _], _ => rfl
theorem mk {l : PySem.W.OpenLaw} {w : World} {K : PySem.W.Frag} {h : Heap} {mg : Str → Option Value} {fa f0 f1 f2 f3 f4 f5 f6 f7 f8 f9 f10 f11 f12 f13 f14 f15 f16 f17 f18 f19 f20 f21 f22 f23 f24 f25 f26 f27 f28 f29 f30 f31 f32 f33 : Addr} {od0 an0 od1 an1 od2 an2 od3 an3 od4 an4 od5 an5 od6 an6 od7 an7 od8 an8 od9 an9 od10 an10 od11 an11 od12 an12 od13 an13 od14 an14 od15 an15 od16 an16 od17 an17 od18 an18 od19 an19 od20 an20 od21 an21 od22 an22 od23 an23 od24 an24 od25 an25 od26 an26 od27 an27 od28 an28 od29 an29 od30 an30 od31 an31 od32 an32 od33 an33 : Option Addr} {sl0 sl1 sl2 sl3 sl4 sl5 sl6 sl7 sl8 sl9 sl10 sl11 sl12 sl13 sl14 sl15 sl16 sl17 sl18 sl19 sl20 sl21 sl22 sl23 sl24 sl25 sl26 sl27 sl28 sl29 sl30 sl31 sl32 sl33 : Array (Option Value)} {oc0 kV0 dc0 pm0 cd0 ct0 oc1 kV1 dc1 pm1 cd1 ct1 oc2 kV2 dc2 pm2 cd2 ct2 oc3 kV3 dc3 pm3 cd3 ct3 oc4 kV4 dc4 pm4 cd4 ct4 oc5 kV5 dc5 pm5 cd5 ct5 oc6 kV6 dc6 pm6 cd6 ct6 oc7 kV7 dc7 pm7 cd7 ct7 oc8 kV8 dc8 pm8 cd8 ct8 oc9 kV9 dc9 pm9 cd9 ct9 oc10 kV10 dc10 pm10 cd10 ct10 oc11 kV11 dc11 pm11 cd11 ct11 oc12 kV12 dc12 pm12 cd12 ct12 oc13 kV13 dc13 pm13 cd13 ct13 oc14 kV14 dc14 pm14 cd14 ct14 oc15 kV15 dc15 pm15 cd15 ct15 oc16 kV16 dc16 pm16 cd16 ct16 oc17 kV17 dc17 pm17 cd17 ct17 oc18 kV18 dc18 pm18 cd18 ct18 oc19 kV19 dc19 pm19 cd19 ct19 oc20 kV20 dc20 pm20 cd20 ct20 oc21 kV21 dc21 pm21 cd21 ct21 oc22 kV22 dc22 pm22 cd22 ct22 oc23 kV23 dc23 pm23 cd23 ct23 oc24 kV24 dc24 pm24 cd24 ct24 oc25 kV25 dc25 pm25 cd25 ct25 oc26 kV26 dc26 pm26 cd26 ct26 oc27 kV27 dc27 pm27 cd27 ct27 oc28 kV28 dc28 pm28 cd28 ct28 oc29 kV29 dc29 pm29 cd29 ct29 oc30 kV30 dc30 pm30 cd30 ct30 oc31 kV31 dc31 pm31 cd31 ct31 oc32 kV32 dc32 pm32 cd32 ct32 oc33 kV33 dc33 pm33 cd33 ct33 : Value} (X : K.In h) (G : h.Ns mainGlobals mg) (hfa : mg "law" = some (.ref fa))
    (a0 : PySem.W.nsIn K mainGlobals "tupled" = some (some (.ref f0))) (l0 : K.lookup f0 = some ⟨oc0, od0, .func (PySem.W.fnOf "tupled" "tupled" (defArgs (top 3)) (defBody (top 3)) (defScope (top 3)) .none kV0 dc0 pm0 an0 cd0 ct0), sl0⟩) (c0 : PySem.W.codeIn K cd0 "tupled" = true) (k0 : PySem.W.keepIn K (.ref f0) = true)
    (a1 : PySem.W.nsIn K mainGlobals "many_of" = some (some (.ref f1))) (l1 : K.lookup f1 = some ⟨oc1, od1, .func (PySem.W.fnOf "many_of" "many_of" (defArgs (top 6)) (defBody (top 6)) (defScope (top 6)) .none kV1 dc1 pm1 an1 cd1 ct1), sl1⟩) (c1 : PySem.W.codeIn K cd1 "many_of" = true) (k1 : PySem.W.keepIn K (.ref f1) = true)
    (a2 : PySem.W.nsIn K mainGlobals "walked_log" = some (some (.ref f2))) (l2 : K.lookup f2 = some ⟨oc2, od2, .func (PySem.W.fnOf "walked_log" "walked_log" (defArgs (top 10)) (defBody (top 10)) (defScope (top 10)) .none kV2 dc2 pm2 an2 cd2 ct2), sl2⟩) (c2 : PySem.W.codeIn K cd2 "walked_log" = true) (k2 : PySem.W.keepIn K (.ref f2) = true)
    (a3 : PySem.W.nsIn K mainGlobals "seen_most" = some (some (.ref f3))) (l3 : K.lookup f3 = some ⟨oc3, od3, .func (PySem.W.fnOf "seen_most" "seen_most" (defArgs (top 11)) (defBody (top 11)) (defScope (top 11)) .none kV3 dc3 pm3 an3 cd3 ct3), sl3⟩) (c3 : PySem.W.codeIn K cd3 "seen_most" = true) (k3 : PySem.W.keepIn K (.ref f3) = true)
    (a4 : PySem.W.nsIn K mainGlobals "reasons_of" = some (some (.ref f4))) (l4 : K.lookup f4 = some ⟨oc4, od4, .func (PySem.W.fnOf "reasons_of" "reasons_of" (defArgs (top 12)) (defBody (top 12)) (defScope (top 12)) .none kV4 dc4 pm4 an4 cd4 ct4), sl4⟩) (c4 : PySem.W.codeIn K cd4 "reasons_of" = true) (k4 : PySem.W.keepIn K (.ref f4) = true)
    (a5 : PySem.W.nsIn K mainGlobals "fits_log" = some (some (.ref f5))) (l5 : K.lookup f5 = some ⟨oc5, od5, .func (PySem.W.fnOf "fits_log" "fits_log" (defArgs (top 13)) (defBody (top 13)) (defScope (top 13)) .none kV5 dc5 pm5 an5 cd5 ct5), sl5⟩) (c5 : PySem.W.codeIn K cd5 "fits_log" = true) (k5 : PySem.W.keepIn K (.ref f5) = true)
    (a6 : PySem.W.nsIn K mainGlobals "first_unfit" = some (some (.ref f6))) (l6 : K.lookup f6 = some ⟨oc6, od6, .func (PySem.W.fnOf "first_unfit" "first_unfit" (defArgs (top 14)) (defBody (top 14)) (defScope (top 14)) .none kV6 dc6 pm6 an6 cd6 ct6), sl6⟩) (c6 : PySem.W.codeIn K cd6 "first_unfit" = true) (k6 : PySem.W.keepIn K (.ref f6) = true)
    (a7 : PySem.W.nsIn K mainGlobals "check_fits" = some (some (.ref f7))) (l7 : K.lookup f7 = some ⟨oc7, od7, .func (PySem.W.fnOf "check_fits" "check_fits" (defArgs (top 15)) (defBody (top 15)) (defScope (top 15)) .none kV7 dc7 pm7 an7 cd7 ct7), sl7⟩) (c7 : PySem.W.codeIn K cd7 "check_fits" = true) (k7 : PySem.W.keepIn K (.ref f7) = true)
    (a8 : PySem.W.nsIn K mainGlobals "all_lots" = some (some (.ref f8))) (l8 : K.lookup f8 = some ⟨oc8, od8, .func (PySem.W.fnOf "all_lots" "all_lots" (defArgs (top 16)) (defBody (top 16)) (defScope (top 16)) .none kV8 dc8 pm8 an8 cd8 ct8), sl8⟩) (c8 : PySem.W.codeIn K cd8 "all_lots" = true) (k8 : PySem.W.keepIn K (.ref f8) = true)
    (a9 : PySem.W.nsIn K mainGlobals "explanations" = some (some (.ref f9))) (l9 : K.lookup f9 = some ⟨oc9, od9, .func (PySem.W.fnOf "explanations" "explanations" (defArgs (top 17)) (defBody (top 17)) (defScope (top 17)) .none kV9 dc9 pm9 an9 cd9 ct9), sl9⟩) (c9 : PySem.W.codeIn K cd9 "explanations" = true) (k9 : PySem.W.keepIn K (.ref f9) = true)
    (a10 : PySem.W.nsIn K mainGlobals "how_many_explanations" = some (some (.ref f10))) (l10 : K.lookup f10 = some ⟨oc10, od10, .func (PySem.W.fnOf "how_many_explanations" "how_many_explanations" (defArgs (top 18)) (defBody (top 18)) (defScope (top 18)) .none kV10 dc10 pm10 an10 cd10 ct10), sl10⟩) (c10 : PySem.W.codeIn K cd10 "how_many_explanations" = true) (k10 : PySem.W.keepIn K (.ref f10) = true)
    (a11 : PySem.W.nsIn K mainGlobals "fewest_limits" = some (some (.ref f11))) (l11 : K.lookup f11 = some ⟨oc11, od11, .func (PySem.W.fnOf "fewest_limits" "fewest_limits" (defArgs (top 19)) (defBody (top 19)) (defScope (top 19)) .none kV11 dc11 pm11 an11 cd11 ct11), sl11⟩) (c11 : PySem.W.codeIn K cd11 "fewest_limits" = true) (k11 : PySem.W.keepIn K (.ref f11) = true)
    (a12 : PySem.W.nsIn K mainGlobals "some_fewest" = some (some (.ref f12))) (l12 : K.lookup f12 = some ⟨oc12, od12, .func (PySem.W.fnOf "some_fewest" "some_fewest" (defArgs (top 20)) (defBody (top 20)) (defScope (top 20)) .none kV12 dc12 pm12 an12 cd12 ct12), sl12⟩) (c12 : PySem.W.codeIn K cd12 "some_fewest" = true) (k12 : PySem.W.keepIn K (.ref f12) = true)
    (a13 : PySem.W.nsIn K mainGlobals "is_fewest" = some (some (.ref f13))) (l13 : K.lookup f13 = some ⟨oc13, od13, .func (PySem.W.fnOf "is_fewest" "is_fewest" (defArgs (top 21)) (defBody (top 21)) (defScope (top 21)) .none kV13 dc13 pm13 an13 cd13 ct13), sl13⟩) (c13 : PySem.W.codeIn K cd13 "is_fewest" = true) (k13 : PySem.W.keepIn K (.ref f13) = true)
    (a14 : PySem.W.nsIn K mainGlobals "_law_box" = some (some (.ref f14))) (l14 : K.lookup f14 = some ⟨oc14, od14, .func (PySem.W.fnOf "_law_box" "_law_box" (defArgs (top 23)) (defBody (top 23)) (defScope (top 23)) .none kV14 dc14 pm14 an14 cd14 ct14), sl14⟩) (c14 : PySem.W.codeIn K cd14 "_law_box" = true) (k14 : PySem.W.keepIn K (.ref f14) = true)
    (a15 : PySem.W.nsIn K mainGlobals "_law_take" = some (some (.ref f15))) (l15 : K.lookup f15 = some ⟨oc15, od15, .func (PySem.W.fnOf "_law_take" "_law_take" (defArgs (top 24)) (defBody (top 24)) (defScope (top 24)) .none kV15 dc15 pm15 an15 cd15 ct15), sl15⟩) (c15 : PySem.W.codeIn K cd15 "_law_take" = true) (k15 : PySem.W.keepIn K (.ref f15) = true)
    (a16 : PySem.W.nsIn K mainGlobals "_law_cells" = some (some (.ref f16))) (l16 : K.lookup f16 = some ⟨oc16, od16, .func (PySem.W.fnOf "_law_cells" "_law_cells" (defArgs (top 25)) (defBody (top 25)) (defScope (top 25)) .none kV16 dc16 pm16 an16 cd16 ct16), sl16⟩) (c16 : PySem.W.codeIn K cd16 "_law_cells" = true) (k16 : PySem.W.keepIn K (.ref f16) = true)
    (a17 : PySem.W.nsIn K mainGlobals "_law_of" = some (some (.ref f17))) (l17 : K.lookup f17 = some ⟨oc17, od17, .func (PySem.W.fnOf "_law_of" "_law_of" (defArgs (top 26)) (defBody (top 26)) (defScope (top 26)) .none kV17 dc17 pm17 an17 cd17 ct17), sl17⟩) (c17 : PySem.W.codeIn K cd17 "_law_of" = true) (k17 : PySem.W.keepIn K (.ref f17) = true)
    (a18 : PySem.W.nsIn K mainGlobals "_law_same" = some (some (.ref f18))) (l18 : K.lookup f18 = some ⟨oc18, od18, .func (PySem.W.fnOf "_law_same" "_law_same" (defArgs (top 27)) (defBody (top 27)) (defScope (top 27)) .none kV18 dc18 pm18 an18 cd18 ct18), sl18⟩) (c18 : PySem.W.codeIn K cd18 "_law_same" = true) (k18 : PySem.W.keepIn K (.ref f18) = true)
    (a19 : PySem.W.nsIn K mainGlobals "_law_lists" = some (some (.ref f19))) (l19 : K.lookup f19 = some ⟨oc19, od19, .func (PySem.W.fnOf "_law_lists" "_law_lists" (defArgs (top 28)) (defBody (top 28)) (defScope (top 28)) .none kV19 dc19 pm19 an19 cd19 ct19), sl19⟩) (c19 : PySem.W.codeIn K cd19 "_law_lists" = true) (k19 : PySem.W.keepIn K (.ref f19) = true)
    (a20 : PySem.W.nsIn K mainGlobals "_law_pick" = some (some (.ref f20))) (l20 : K.lookup f20 = some ⟨oc20, od20, .func (PySem.W.fnOf "_law_pick" "_law_pick" (defArgs (top 29)) (defBody (top 29)) (defScope (top 29)) .none kV20 dc20 pm20 an20 cd20 ct20), sl20⟩) (c20 : PySem.W.codeIn K cd20 "_law_pick" = true) (k20 : PySem.W.keepIn K (.ref f20) = true)
    (a21 : PySem.W.nsIn K mainGlobals "_law_kin" = some (some (.ref f21))) (l21 : K.lookup f21 = some ⟨oc21, od21, .func (PySem.W.fnOf "_law_kin" "_law_kin" (defArgs (top 30)) (defBody (top 30)) (defScope (top 30)) .none kV21 dc21 pm21 an21 cd21 ct21), sl21⟩) (c21 : PySem.W.codeIn K cd21 "_law_kin" = true) (k21 : PySem.W.keepIn K (.ref f21) = true)
    (a22 : PySem.W.nsIn K mainGlobals "_law_nest" = some (some (.ref f22))) (l22 : K.lookup f22 = some ⟨oc22, od22, .func (PySem.W.fnOf "_law_nest" "_law_nest" (defArgs (top 31)) (defBody (top 31)) (defScope (top 31)) .none kV22 dc22 pm22 an22 cd22 ct22), sl22⟩) (c22 : PySem.W.codeIn K cd22 "_law_nest" = true) (k22 : PySem.W.keepIn K (.ref f22) = true)
    (a23 : PySem.W.nsIn K mainGlobals "_law_bars" = some (some (.ref f23))) (l23 : K.lookup f23 = some ⟨oc23, od23, .func (PySem.W.fnOf "_law_bars" "_law_bars" (defArgs (top 32)) (defBody (top 32)) (defScope (top 32)) .none kV23 dc23 pm23 an23 cd23 ct23), sl23⟩) (c23 : PySem.W.codeIn K cd23 "_law_bars" = true) (k23 : PySem.W.keepIn K (.ref f23) = true)
    (a24 : PySem.W.nsIn K mainGlobals "_law_deeds" = some (some (.ref f24))) (l24 : K.lookup f24 = some ⟨oc24, od24, .func (PySem.W.fnOf "_law_deeds" "_law_deeds" (defArgs (top 33)) (defBody (top 33)) (defScope (top 33)) .none kV24 dc24 pm24 an24 cd24 ct24), sl24⟩) (c24 : PySem.W.codeIn K cd24 "_law_deeds" = true) (k24 : PySem.W.keepIn K (.ref f24) = true)
    (a25 : PySem.W.nsIn K mainGlobals "_law_in_lot" = some (some (.ref f25))) (l25 : K.lookup f25 = some ⟨oc25, od25, .func (PySem.W.fnOf "_law_in_lot" "_law_in_lot" (defArgs (top 34)) (defBody (top 34)) (defScope (top 34)) .none kV25 dc25 pm25 an25 cd25 ct25), sl25⟩) (c25 : PySem.W.codeIn K cd25 "_law_in_lot" = true) (k25 : PySem.W.keepIn K (.ref f25) = true)
    (a26 : PySem.W.nsIn K mainGlobals "_law_walk" = some (some (.ref f26))) (l26 : K.lookup f26 = some ⟨oc26, od26, .func (PySem.W.fnOf "_law_walk" "_law_walk" (defArgs (top 35)) (defBody (top 35)) (defScope (top 35)) .none kV26 dc26 pm26 an26 cd26 ct26), sl26⟩) (c26 : PySem.W.codeIn K cd26 "_law_walk" = true) (k26 : PySem.W.keepIn K (.ref f26) = true)
    (a27 : PySem.W.nsIn K mainGlobals "_law_told" = some (some (.ref f27))) (l27 : K.lookup f27 = some ⟨oc27, od27, .func (PySem.W.fnOf "_law_told" "_law_told" (defArgs (top 36)) (defBody (top 36)) (defScope (top 36)) .none kV27 dc27 pm27 an27 cd27 ct27), sl27⟩) (c27 : PySem.W.codeIn K cd27 "_law_told" = true) (k27 : PySem.W.keepIn K (.ref f27) = true)
    (a28 : PySem.W.nsIn K mainGlobals "_law_subsets" = some (some (.ref f28))) (l28 : K.lookup f28 = some ⟨oc28, od28, .func (PySem.W.fnOf "_law_subsets" "_law_subsets" (defArgs (top 37)) (defBody (top 37)) (defScope (top 37)) .none kV28 dc28 pm28 an28 cd28 ct28), sl28⟩) (c28 : PySem.W.codeIn K cd28 "_law_subsets" = true) (k28 : PySem.W.keepIn K (.ref f28) = true)
    (a29 : PySem.W.nsIn K mainGlobals "_law_lots" = some (some (.ref f29))) (l29 : K.lookup f29 = some ⟨oc29, od29, .func (PySem.W.fnOf "_law_lots" "_law_lots" (defArgs (top 38)) (defBody (top 38)) (defScope (top 38)) .none kV29 dc29 pm29 an29 cd29 ct29), sl29⟩) (c29 : PySem.W.codeIn K cd29 "_law_lots" = true) (k29 : PySem.W.keepIn K (.ref f29) = true)
    (a30 : PySem.W.nsIn K mainGlobals "_law_case_right" = some (some (.ref f30))) (l30 : K.lookup f30 = some ⟨oc30, od30, .func (PySem.W.fnOf "_law_case_right" "_law_case_right" (defArgs (top 39)) (defBody (top 39)) (defScope (top 39)) .none kV30 dc30 pm30 an30 cd30 ct30), sl30⟩) (c30 : PySem.W.codeIn K cd30 "_law_case_right" = true) (k30 : PySem.W.keepIn K (.ref f30) = true)
    (a31 : PySem.W.nsIn K mainGlobals "_law_by_hand_right" = some (some (.ref f31))) (l31 : K.lookup f31 = some ⟨oc31, od31, .func (PySem.W.fnOf "_law_by_hand_right" "_law_by_hand_right" (defArgs (top 40)) (defBody (top 40)) (defScope (top 40)) .none kV31 dc31 pm31 an31 cd31 ct31), sl31⟩) (c31 : PySem.W.codeIn K cd31 "_law_by_hand_right" = true) (k31 : PySem.W.keepIn K (.ref f31) = true)
    (a32 : PySem.W.nsIn K mainGlobals "_law_right" = some (some (.ref f32))) (l32 : K.lookup f32 = some ⟨oc32, od32, .func (PySem.W.fnOf "_law_right" "_law_right" (defArgs (top 41)) (defBody (top 41)) (defScope (top 41)) .none kV32 dc32 pm32 an32 cd32 ct32), sl32⟩) (c32 : PySem.W.codeIn K cd32 "_law_right" = true) (k32 : PySem.W.keepIn K (.ref f32) = true)
    (a33 : PySem.W.nsIn K mainGlobals "law" = some (some (.ref f33))) (l33 : K.lookup f33 = some ⟨oc33, od33, .func (PySem.W.fnOf "law" "law" (defArgs (top 42)) (defBody (top 42)) (defScope (top 42)) .none kV33 dc33 pm33 an33 cd33 ct33), sl33⟩) (c33 : PySem.W.codeIn K cd33 "law" = true) (k33 : PySem.W.keepIn K (.ref f33) = true)
    (z0 : PySem.W.nsIn K mainGlobals "len" = some none)
    (z1 : PySem.W.nsIn K mainGlobals "abs" = some none)
    (z2 : PySem.W.nsIn K mainGlobals "int" = some none)
    (z3 : PySem.W.nsIn K mainGlobals "str" = some none)
    (z4 : PySem.W.nsIn K mainGlobals "min" = some none)
    (z5 : PySem.W.nsIn K mainGlobals "max" = some none)
    (z6 : PySem.W.nsIn K mainGlobals "all" = some none)
    (z7 : PySem.W.nsIn K mainGlobals "any" = some none)
    (z8 : PySem.W.nsIn K mainGlobals "sum" = some none)
    (z9 : PySem.W.nsIn K mainGlobals "list" = some none)
    (z10 : PySem.W.nsIn K mainGlobals "tuple" = some none)
    (z11 : PySem.W.nsIn K mainGlobals "sorted" = some none)
    (z12 : PySem.W.nsIn K mainGlobals "range" = some none)
    (z13 : PySem.W.nsIn K mainGlobals "enumerate" = some none)
    (z14 : PySem.W.nsIn K mainGlobals "zip" = some none)
    (z15 : PySem.W.nsIn K mainGlobals "isinstance" = some none)
    (z16 : PySem.W.nsIn K mainGlobals "bool" = some none)
    (z17 : PySem.W.nsIn K mainGlobals "dict" = some none)
    (z18 : PySem.W.nsIn K mainGlobals "set" = some none)
    {g0t : Tok} (cq0 : PySem.W.nsIn K mainGlobals "GO" = some (some (.str "go" g0t)))
    {g1t : Tok} (cq1 : PySem.W.nsIn K mainGlobals "IN" = some (some (.str "in" g1t)))
    {g2t : Tok} (cq2 : PySem.W.nsIn K mainGlobals "OUT" = some (some (.str "out" g2t))) :
    ∃ fd : FuncData, (∀ (s : Shared) (v : Value), BindsTo s fd ⟨[v], []⟩ [("_law_script", v)]) ∧ ∀ base : Heap, K.In base → base.Ns mainGlobals mg → FnOk l.prog w K mg base (L2.CX l.prog w) 13 fa fd ["_law_script"] (spF K (callF fs 300 (pmT kws) 13) 33 1) := by
  have e := hfa.symm.trans (PySem.W.mg_of X G a33)
  cases e
  have hD : ∀ d ∈ dfs, DfAt K mg d := by
    intro d hd
    unfold dfs at hd
    simp only [List.mem_cons, List.not_mem_nil, or_false] at hd
    rcases hd with rfl | rfl | rfl | rfl | rfl | rfl | rfl | rfl | rfl | rfl | rfl | rfl | rfl | rfl | rfl | rfl | rfl | rfl | rfl | rfl | rfl | rfl | rfl | rfl | rfl | rfl | rfl | rfl | rfl | rfl | rfl | rfl | rfl | rfl
    · exact dfAt X G a0 l0 c0 k0 bd0 cs_nil
    · exact dfAt X G a1 l1 c1 k1 bd1 cs_nil
    · exact dfAt X G a2 l2 c2 k2 bd2 (cs_str X G cq0 (cs_str X G cq1 cs_nil))
    · exact dfAt X G a3 l3 c3 k3 bd3 cs_nil
    · exact dfAt X G a4 l4 c4 k4 bd4 (cs_str X G cq2 cs_nil)
    · exact dfAt X G a5 l5 c5 k5 bd5 cs_nil
    · exact dfAt X G a6 l6 c6 k6 bd6 cs_nil
    · exact dfAt X G a7 l7 c7 k7 bd7 cs_nil
    · exact dfAt X G a8 l8 c8 k8 bd8 cs_nil
    · exact dfAt X G a9 l9 c9 k9 bd9 cs_nil
    · exact dfAt X G a10 l10 c10 k10 bd10 cs_nil
    · exact dfAt X G a11 l11 c11 k11 bd11 cs_nil
    · exact dfAt X G a12 l12 c12 k12 bd12 cs_nil
    · exact dfAt X G a13 l13 c13 k13 bd13 cs_nil
    · exact dfAt X G a14 l14 c14 k14 bd14 cs_nil
    · exact dfAt X G a15 l15 c15 k15 bd15 cs_nil
    · exact dfAt X G a16 l16 c16 k16 bd16 cs_nil
    · exact dfAt X G a17 l17 c17 k17 bd17 cs_nil
    · exact dfAt X G a18 l18 c18 k18 bd18 cs_nil
    · exact dfAt X G a19 l19 c19 k19 bd19 cs_nil
    · exact dfAt X G a20 l20 c20 k20 bd20 cs_nil
    · exact dfAt X G a21 l21 c21 k21 bd21 cs_nil
    · exact dfAt X G a22 l22 c22 k22 bd22 cs_nil
    · exact dfAt X G a23 l23 c23 k23 bd23 cs_nil
    · exact dfAt X G a24 l24 c24 k24 bd24 cs_nil
    · exact dfAt X G a25 l25 c25 k25 bd25 cs_nil
    · exact dfAt X G a26 l26 c26 k26 bd26 cs_nil
    · exact dfAt X G a27 l27 c27 k27 bd27 cs_nil
    · exact dfAt X G a28 l28 c28 k28 bd28 cs_nil
    · exact dfAt X G a29 l29 c29 k29 bd29 cs_nil
    · exact dfAt X G a30 l30 c30 k30 bd30 cs_nil
    · exact dfAt X G a31 l31 c31 k31 bd31 cs_nil
    · exact dfAt X G a32 l32 c32 k32 bd32 cs_nil
    · exact dfAt X G a33 l33 c33 k33 bd33 cs_nil
  have hb : ∀ x, bltOnes.contains x = true → mg x = none := fun x hx => by
    have hx : x ∈ bltOnes := by simpa using hx
    unfold bltOnes at hx
    simp only [List.mem_cons, List.not_mem_nil, or_false] at hx
    rcases hx with rfl | rfl | rfl | rfl | rfl | rfl | rfl | rfl | rfl | rfl | rfl | rfl | rfl | rfl | rfl | rfl | rfl | rfl | rfl
    · exact PySem.W.mg_none_of X G z0
    · exact PySem.W.mg_none_of X G z1
    · exact PySem.W.mg_none_of X G z2
    · exact PySem.W.mg_none_of X G z3
    · exact PySem.W.mg_none_of X G z4
    · exact PySem.W.mg_none_of X G z5
    · exact PySem.W.mg_none_of X G z6
    · exact PySem.W.mg_none_of X G z7
    · exact PySem.W.mg_none_of X G z8
    · exact PySem.W.mg_none_of X G z9
    · exact PySem.W.mg_none_of X G z10
    · exact PySem.W.mg_none_of X G z11
    · exact PySem.W.mg_none_of X G z12
    · exact PySem.W.mg_none_of X G z13
    · exact PySem.W.mg_none_of X G z14
    · exact PySem.W.mg_none_of X G z15
    · exact PySem.W.mg_none_of X G z16
    · exact PySem.W.mg_none_of X G z17
    · exact PySem.W.mg_none_of X G z18
  have hk : ∀ q ∈ kws, KwOk dfs q := fun q hq => by
    unfold kws at hq
    simp only [List.mem_cons, List.not_mem_nil, or_false] at hq
    rcases hq with rfl | rfl | rfl | rfl
    · exact ⟨⟨_, rfl, rfl, rfl, kw0⟩, by simp⟩
    · exact ⟨⟨_, rfl, rfl, rfl, kw1⟩, by simp⟩
    · exact ⟨⟨_, rfl, rfl, rfl, kw2⟩, by simp⟩
    · exact ⟨⟨_, rfl, rfl, rfl, kw3⟩, by simp⟩
  refine ⟨PySem.W.fnOf "law" "law" (defArgs (top 42)) (defBody (top 42)) (defScope (top 42)) .none kV33 dc33 pm33 an33 cd33 ct33, fun s v => .of_eq rfl, fun base _ _ => ?_⟩
  exact all_ok (ds := dfs) (fun i d hi => hD d (List.mem_of_getElem? hi)) (ht_of tr_ok sc_ok) hk hb 13 33 _ rfl _ _ (PySem.W.mg_of X G a33) (fun_mk l33 c33 k33)
end Q77
open PySem PySem.W PyProof.Rows
set_option maxRecDepth 100000 in
set_option maxHeartbeats 0 in
theorem PySem.Challenge.cw_raisedlimits_k77_lots_that_explain_holds : PySem.Challenge.rw_raisedlimits_k77_lots_that_explain.Holds := by
  w_on; o_law; k_head; (case hw => w_witness2)
  k_fill
  refine Qq.walkQ (l := PySem.Challenge.rw_raisedlimits_k77_lots_that_explain) (fs := Q77.fs) (pm := Qq.pmT Q77.kws) (wf := 300) (n := 13) (f := 33) (x := "_law_script") rfl rfl ⟨rfl, by decide, by decide⟩ (fun w h Y => PySem.W.kIn_of Y) ?F Q77.law_true
  case F =>
    intro w mg fa h KX G hmg
    refine' Q77.mk KX G hmg ?a0 ?l0 ?c0 ?k0 ?a1 ?l1 ?c1 ?k1 ?a2 ?l2 ?c2 ?k2 ?a3 ?l3 ?c3 ?k3 ?a4 ?l4 ?c4 ?k4 ?a5 ?l5 ?c5 ?k5 ?a6 ?l6 ?c6 ?k6 ?a7 ?l7 ?c7 ?k7 ?a8 ?l8 ?c8 ?k8 ?a9 ?l9 ?c9 ?k9 ?a10 ?l10 ?c10 ?k10 ?a11 ?l11 ?c11 ?k11 ?a12 ?l12 ?c12 ?k12 ?a13 ?l13 ?c13 ?k13 ?a14 ?l14 ?c14 ?k14 ?a15 ?l15 ?c15 ?k15 ?a16 ?l16 ?c16 ?k16 ?a17 ?l17 ?c17 ?k17 ?a18 ?l18 ?c18 ?k18 ?a19 ?l19 ?c19 ?k19 ?a20 ?l20 ?c20 ?k20 ?a21 ?l21 ?c21 ?k21 ?a22 ?l22 ?c22 ?k22 ?a23 ?l23 ?c23 ?k23 ?a24 ?l24 ?c24 ?k24 ?a25 ?l25 ?c25 ?k25 ?a26 ?l26 ?c26 ?k26 ?a27 ?l27 ?c27 ?k27 ?a28 ?l28 ?c28 ?k28 ?a29 ?l29 ?c29 ?k29 ?a30 ?l30 ?c30 ?k30 ?a31 ?l31 ?c31 ?k31 ?a32 ?l32 ?c32 ?k32 ?a33 ?l33 ?c33 ?k33 ?z0 ?z1 ?z2 ?z3 ?z4 ?z5 ?z6 ?z7 ?z8 ?z9 ?z10 ?z11 ?z12 ?z13 ?z14 ?z15 ?z16 ?z17 ?z18 ?cq0 ?cq1 ?cq2
    (case a0 => k_is)
    (case l0 => k_is)
    (case c0 => k_is)
    (case k0 => k_is)
    (case a1 => k_is)
    (case l1 => k_is)
    (case c1 => k_is)
    (case k1 => k_is)
    (case a2 => k_is)
    (case l2 => k_is)
    (case c2 => k_is)
    (case k2 => k_is)
    (case a3 => k_is)
    (case l3 => k_is)
    (case c3 => k_is)
    (case k3 => k_is)
    (case a4 => k_is)
    (case l4 => k_is)
    (case c4 => k_is)
    (case k4 => k_is)
    (case a5 => k_is)
    (case l5 => k_is)
    (case c5 => k_is)
    (case k5 => k_is)
    (case a6 => k_is)
    (case l6 => k_is)
    (case c6 => k_is)
    (case k6 => k_is)
    (case a7 => k_is)
    (case l7 => k_is)
    (case c7 => k_is)
    (case k7 => k_is)
    (case a8 => k_is)
    (case l8 => k_is)
    (case c8 => k_is)
    (case k8 => k_is)
    (case a9 => k_is)
    (case l9 => k_is)
    (case c9 => k_is)
    (case k9 => k_is)
    (case a10 => k_is)
    (case l10 => k_is)
    (case c10 => k_is)
    (case k10 => k_is)
    (case a11 => k_is)
    (case l11 => k_is)
    (case c11 => k_is)
    (case k11 => k_is)
    (case a12 => k_is)
    (case l12 => k_is)
    (case c12 => k_is)
    (case k12 => k_is)
    (case a13 => k_is)
    (case l13 => k_is)
    (case c13 => k_is)
    (case k13 => k_is)
    (case a14 => k_is)
    (case l14 => k_is)
    (case c14 => k_is)
    (case k14 => k_is)
    (case a15 => k_is)
    (case l15 => k_is)
    (case c15 => k_is)
    (case k15 => k_is)
    (case a16 => k_is)
    (case l16 => k_is)
    (case c16 => k_is)
    (case k16 => k_is)
    (case a17 => k_is)
    (case l17 => k_is)
    (case c17 => k_is)
    (case k17 => k_is)
    (case a18 => k_is)
    (case l18 => k_is)
    (case c18 => k_is)
    (case k18 => k_is)
    (case a19 => k_is)
    (case l19 => k_is)
    (case c19 => k_is)
    (case k19 => k_is)
    (case a20 => k_is)
    (case l20 => k_is)
    (case c20 => k_is)
    (case k20 => k_is)
    (case a21 => k_is)
    (case l21 => k_is)
    (case c21 => k_is)
    (case k21 => k_is)
    (case a22 => k_is)
    (case l22 => k_is)
    (case c22 => k_is)
    (case k22 => k_is)
    (case a23 => k_is)
    (case l23 => k_is)
    (case c23 => k_is)
    (case k23 => k_is)
    (case a24 => k_is)
    (case l24 => k_is)
    (case c24 => k_is)
    (case k24 => k_is)
    (case a25 => k_is)
    (case l25 => k_is)
    (case c25 => k_is)
    (case k25 => k_is)
    (case a26 => k_is)
    (case l26 => k_is)
    (case c26 => k_is)
    (case k26 => k_is)
    (case a27 => k_is)
    (case l27 => k_is)
    (case c27 => k_is)
    (case k27 => k_is)
    (case a28 => k_is)
    (case l28 => k_is)
    (case c28 => k_is)
    (case k28 => k_is)
    (case a29 => k_is)
    (case l29 => k_is)
    (case c29 => k_is)
    (case k29 => k_is)
    (case a30 => k_is)
    (case l30 => k_is)
    (case c30 => k_is)
    (case k30 => k_is)
    (case a31 => k_is)
    (case l31 => k_is)
    (case c31 => k_is)
    (case k31 => k_is)
    (case a32 => k_is)
    (case l32 => k_is)
    (case c32 => k_is)
    (case k32 => k_is)
    (case a33 => k_is)
    (case l33 => k_is)
    (case c33 => k_is)
    (case k33 => k_is)
    (case z0 => k_is)
    (case z1 => k_is)
    (case z2 => k_is)
    (case z3 => k_is)
    (case z4 => k_is)
    (case z5 => k_is)
    (case z6 => k_is)
    (case z7 => k_is)
    (case z8 => k_is)
    (case z9 => k_is)
    (case z10 => k_is)
    (case z11 => k_is)
    (case z12 => k_is)
    (case z13 => k_is)
    (case z14 => k_is)
    (case z15 => k_is)
    (case z16 => k_is)
    (case z17 => k_is)
    (case z18 => k_is)
    (case cq0 => k_is)
    (case cq1 => k_is)
    (case cq2 => k_is)
