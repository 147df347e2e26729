import PyProof.Rows.All
import Wide.All
import OpenK.AllK
import Wide.FinOn
import HandS.ForMost
import HandS.Walk
import HandS.Zip
import HandS.IsInst
import HandS.Flow
import HandS.Deep
import HandS.Wide
import HandS.EndBits
import HandS.Exc
import HandS.WideBits
import HandS.TupAny
import HandS.Text
import HandS.Style
import HandS.Conv
import HandS.CallSlots
import HandS.WordsExc
import PySem.Challenge.RW_raisedlimits_k58_the_least_number_to_be
set_option Elab.async false
set_option linter.all false
set_option maxRecDepth 100000
set_option autoImplicit false
/-! Q1: values as trees, the state of a walk, what stands for what. -/
namespace Qq
open PySem PySem.Spec PyProof.Rows L2

/-- a value as a tree -/
inductive T where
  | non | bl (b : Bool) | int (i : Int) | str (x : Str)
  | tup (xs : List T) | lst (xs : List T)
  | dK (kvs : List (Key × T)) | dT (kvs : List (List Key × T))
  | scr (ns : List Int)

/-- a value of a name: a tree, or a thing that may change, by its number -/
inductive D where
  | t (d : T) | o (i : Nat) | l (ds : List D)

/-- a thing that may change -/
inductive Cl where
  | lst (xs : List T) | dK (kvs : List (Key × T)) | dT (kvs : List (List Key × T))
  /-- it may be read, not changed, while a loop goes through it -/
  | lck (c : Cl)

abbrev Sto := List Cl
abbrev Env := List (Option D)

/-- an exception: its class by number, its fields -/
structure Xc where
  c : Nat
  fs : List T

inductive R (α : Type) where
  | ok (a : α) (S : Sto) | exc (x : Xc) (S : Sto) | bad

def R.bind {α β : Type} (r : R α) (f : α → Sto → R β) : R β := match r with
  | .ok a S => f a S
  | .exc x S => .exc x S
  | .bad => .bad
theorem R.bind_ok {α β : Type} (a : α) (S : Sto) (f : α → Sto → R β) : R.bind (.ok a S) f = f a S := rfl
theorem R.bind_exc {α β : Type} (x : Xc) (S : Sto) (f : α → Sto → R β) : R.bind (.exc x S) f = .exc x S := rfl
theorem R.bind_bad {α β : Type} (f : α → Sto → R β) : R.bind (.bad : R α) f = .bad := rfl
/-- a value that may be missing -/
def R.opt {α : Type} (o : Option α) (S : Sto) : R α := match o with
  | some a => .ok a S
  | none => .bad
theorem R.opt_some {α : Type} (a : α) (S : Sto) : R.opt (some a) S = .ok a S := rfl
theorem R.opt_none {α : Type} (S : Sto) : R.opt (none : Option α) S = .bad := rfl

/-! ### what stands for a tree -/
mutual
inductive Rp (K : PySem.W.Frag) (G : Hp) : V → T → Prop
  | non : Rp K G .non .non
  | bl (b : Bool) : Rp K G (.bl b) (.bl b)
  | int (i : Int) : Rp K G (.int i) (.int i)
  | str (x : Str) : Rp K G (.str x) (.str x)
  | scr {a : Addr} {ns : List Int} : SqL K G a (ns.map V.int) → Rp K G (.ref a) (.scr ns)
  | lst {a : Addr} {xs : List V} {ds : List T} : Rd G a (.lst xs) → RpL K G xs ds → Rp K G (.ref a) (.lst ds)
  | tup {a : Addr} {xs : List V} {ds : List T} : G a = some (.tup xs) → RpL K G xs ds → Rp K G (.ref a) (.tup ds)
  | dK {a : Addr} {xs : List (Key × V)} {ds : List (Key × T)} : Rd G a (.dK xs) → RpK K G xs ds → Rp K G (.ref a) (.dK ds)
  | dT {a : Addr} {xs : List (List Key × V)} {ds : List (List Key × T)} : Rd G a (.dT xs) → RpQ K G xs ds → Rp K G (.ref a) (.dT ds)
inductive RpL (K : PySem.W.Frag) (G : Hp) : List V → List T → Prop
  | nil : RpL K G [] []
  | cons {v : V} {vs : List V} {d : T} {ds : List T} : Rp K G v d → RpL K G vs ds → RpL K G (v :: vs) (d :: ds)
inductive RpK (K : PySem.W.Frag) (G : Hp) : List (Key × V) → List (Key × T) → Prop
  | nil : RpK K G [] []
  | cons {k : Key} {v : V} {vs : List (Key × V)} {d : T} {ds : List (Key × T)} : Rp K G v d → RpK K G vs ds → RpK K G ((k, v) :: vs) ((k, d) :: ds)
inductive RpQ (K : PySem.W.Frag) (G : Hp) : List (List Key × V) → List (List Key × T) → Prop
  | nil : RpQ K G [] []
  | cons {k : List Key} {v : V} {vs : List (List Key × V)} {d : T} {ds : List (List Key × T)} : Rp K G v d → RpQ K G vs ds → RpQ K G ((k, v) :: vs) ((k, d) :: ds)
end

/-- what may be read of G may be read of H -/
structure Fz (G H : Hp) : Prop where
  rd : ∀ a u, Rd G a u → Rd H a u
  tp : ∀ a xs, G a = some (.tup xs) → H a = some (.tup xs)
theorem Fz.refl (G : Hp) : Fz G G := ⟨fun _ _ h => h, fun _ _ h => h⟩
theorem Fz.trans {G H J : Hp} (a : Fz G H) (b : Fz H J) : Fz G J := ⟨fun c u h => b.rd c u (a.rd c u h), fun c u h => b.tp c u (a.tp c u h)⟩
theorem Fz.seq {K : PySem.W.Frag} {G H : Hp} (f : Fz G H) {a : Addr} {xs : List V} (h : SqL K G a xs) : SqL K H a xs := h.elim (fun z => .inl (f.rd _ _ z)) .inr
theorem Fz.none' {G H : Hp} (f : Fz G H) {a : Addr} (h : H a = none) : G a = none := by
  cases e : G a with
  | none => rfl
  | some o =>
    exfalso
    rcases f.rd a o (.inl e) with z | ⟨ob, z⟩ <;> rw [h] at z <;> cases z

mutual
theorem Rp.mono {K : PySem.W.Frag} {G H : Hp} (f : Fz G H) : ∀ {v : V} {d : T}, Rp K G v d → Rp K H v d
  | _, _, .non => .non
  | _, _, .bl b => .bl b
  | _, _, .int i => .int i
  | _, _, .str x => .str x
  | _, _, .scr h => .scr (f.seq h)
  | _, _, .lst h q => .lst (f.rd _ _ h) (RpL.mono f q)
  | _, _, .tup h q => .tup (f.tp _ _ h) (RpL.mono f q)
  | _, _, .dK h q => .dK (f.rd _ _ h) (RpK.mono f q)
  | _, _, .dT h q => .dT (f.rd _ _ h) (RpQ.mono f q)
theorem RpL.mono {K : PySem.W.Frag} {G H : Hp} (f : Fz G H) : ∀ {v : List V} {d : List T}, RpL K G v d → RpL K H v d
  | _, _, .nil => .nil
  | _, _, .cons h q => .cons (Rp.mono f h) (RpL.mono f q)
theorem RpK.mono {K : PySem.W.Frag} {G H : Hp} (f : Fz G H) : ∀ {v : List (Key × V)} {d : List (Key × T)}, RpK K G v d → RpK K H v d
  | _, _, .nil => .nil
  | _, _, .cons h q => .cons (Rp.mono f h) (RpK.mono f q)
theorem RpQ.mono {K : PySem.W.Frag} {G H : Hp} (f : Fz G H) : ∀ {v : List (List Key × V)} {d : List (List Key × T)}, RpQ K G v d → RpQ K H v d
  | _, _, .nil => .nil
  | _, _, .cons h q => .cons (Rp.mono f h) (RpQ.mono f q)
end

section
variable {K : PySem.W.Frag} {G : Hp}
theorem RpL.length : ∀ {vs : List V} {ds : List T}, RpL K G vs ds → vs.length = ds.length
  | _, _, .nil => rfl
  | _, _, .cons _ q => by rw [List.length_cons, List.length_cons, RpL.length q]
theorem RpL.append : ∀ {vs ws : List V} {ds es : List T}, RpL K G vs ds → RpL K G ws es → RpL K G (vs ++ ws) (ds ++ es)
  | _, _, _, _, .nil, s => s
  | _, _, _, _, .cons r t, s => .cons r (RpL.append t s)
theorem RpL.get : ∀ {vs : List V} {ds : List T} {i : Nat} {d : T}, RpL K G vs ds → ds[i]? = some d → ∃ v, vs[i]? = some v ∧ Rp K G v d
  | _, _, _, _, .nil, e => by simp at e
  | _, _, 0, _, .cons r _, e => by simp at e; subst e; exact ⟨_, rfl, r⟩
  | _, _, i + 1, d, .cons _ t, e => by
    obtain ⟨u, h1, h2⟩ := RpL.get (i := i) (d := d) t (by simpa using e)
    exact ⟨u, by simpa using h1, h2⟩
theorem RpL.set {v : V} {d : T} (r : Rp K G v d) : ∀ {vs : List V} {ds : List T} (i : Nat), RpL K G vs ds → RpL K G (vs.set i v) (ds.set i d)
  | _, _, _, .nil => .nil
  | _, _, 0, .cons _ t => .cons r t
  | _, _, i + 1, .cons q t => .cons q (RpL.set r i t)
theorem RpL.take : ∀ {vs : List V} {ds : List T} (n : Nat), RpL K G vs ds → RpL K G (vs.take n) (ds.take n)
  | _, _, 0, _ => by simp only [List.take_zero]; exact .nil
  | _, _, _ + 1, .nil => .nil
  | _, _, n + 1, .cons r t => .cons r (RpL.take n t)
theorem RpL.drop : ∀ {vs : List V} {ds : List T} (n : Nat), RpL K G vs ds → RpL K G (vs.drop n) (ds.drop n)
  | _, _, 0, r => r
  | _, _, _ + 1, .nil => .nil
  | _, _, n + 1, .cons _ t => RpL.drop n t
theorem RpL.eraseIdx : ∀ {vs : List V} {ds : List T} (n : Nat), RpL K G vs ds → RpL K G (vs.eraseIdx n) (ds.eraseIdx n)
  | _, _, _, .nil => .nil
  | _, _, 0, .cons _ t => t
  | _, _, n + 1, .cons r t => .cons r (RpL.eraseIdx n t)
theorem RpL.rep {vs : List V} {ds : List T} (h : RpL K G vs ds) : ∀ k : Nat, RpL K G (List.replicate k vs).flatten (List.replicate k ds).flatten
  | 0 => .nil
  | k + 1 => by rw [List.replicate_succ, List.replicate_succ, List.flatten_cons, List.flatten_cons]; exact h.append (RpL.rep h k)
theorem RpL.ints : ∀ (ns : List Int), RpL K G (ns.map V.int) (ns.map T.int)
  | [] => .nil
  | n :: ns => .cons (.int n) (RpL.ints ns)
theorem RpL.ints_inv : ∀ {ns : List Int} {vs : List V}, RpL K G vs (ns.map T.int) → vs = ns.map V.int
  | [], _, .nil => rfl
  | n :: ns, _, .cons r t => by cases r; rw [RpL.ints_inv t]; rfl
theorem RpL.strs : ∀ (ns : List Str), RpL K G (ns.map V.str) (ns.map T.str)
  | [] => .nil
  | n :: ns => .cons (.str n) (RpL.strs ns)
theorem RpL.strs_inv : ∀ {ns : List Str} {vs : List V}, RpL K G vs (ns.map T.str) → vs = ns.map V.str
  | [], _, .nil => rfl
  | n :: ns, _, .cons r t => by cases r; rw [RpL.strs_inv t]; rfl
theorem RpL.bls_inv : ∀ {ns : List Bool} {vs : List V}, RpL K G vs (ns.map T.bl) → vs = ns.map V.bl
  | [], _, .nil => rfl
  | n :: ns, _, .cons r t => by cases r; rw [RpL.bls_inv t]; rfl
theorem RpK.length : ∀ {vs : List (Key × V)} {ds : List (Key × T)}, RpK K G vs ds → vs.length = ds.length
  | _, _, .nil => rfl
  | _, _, .cons _ q => by rw [List.length_cons, List.length_cons, RpK.length q]
theorem RpQ.length : ∀ {vs : List (List Key × V)} {ds : List (List Key × T)}, RpQ K G vs ds → vs.length = ds.length
  | _, _, .nil => rfl
  | _, _, .cons _ q => by rw [List.length_cons, List.length_cons, RpQ.length q]
end

/-! ### dicts of trees -/
section
variable {κ : Type} [DecidableEq κ]
def valT : List (κ × T) → κ → Option T
  | [], _ => none
  | (j, d) :: r, k => if j = k then some d else valT r k
def putT (kvs : List (κ × T)) (k : κ) (d : T) : List (κ × T) := if kvs.any (fun kv => decide (kv.1 = k)) then kvs.map (fun kv => if kv.1 = k then (kv.1, d) else kv) else kvs ++ [(k, d)]
def dropT : List (κ × T) → κ → List (κ × T)
  | [], _ => []
  | (j, e) :: r, k => if j = k then dropT r k else (j, e) :: dropT r k
end

section
variable {K : PySem.W.Frag} {G : Hp}
theorem RpK.val : ∀ {vs : List (Key × V)} {ds : List (Key × T)} (k : Key), RpK K G vs ds → (valT ds k = none ∧ valV vs k = none) ∨ ∃ v d, valT ds k = some d ∧ valV vs k = some v ∧ Rp K G v d
  | _, _, k, .nil => .inl ⟨rfl, rfl⟩
  | _, _, k, .cons (k := j) (v := v) (d := d) r q => by
    unfold valT
    by_cases e : j = k
    · rw [if_pos e, valV_pos (p := (j, v)) e]
      exact .inr ⟨v, d, rfl, rfl, r⟩
    · rw [if_neg e, valV_neg (p := (j, v)) e]
      exact RpK.val k q
theorem RpQ.val : ∀ {vs : List (List Key × V)} {ds : List (List Key × T)} (k : List Key), RpQ K G vs ds → (valT ds k = none ∧ valV vs k = none) ∨ ∃ v d, valT ds k = some d ∧ valV vs k = some v ∧ Rp K G v d
  | _, _, k, .nil => .inl ⟨rfl, rfl⟩
  | _, _, k, .cons (k := j) (v := v) (d := d) r q => by
    unfold valT
    by_cases e : j = k
    · rw [if_pos e, valV_pos (p := (j, v)) e]
      exact .inr ⟨v, d, rfl, rfl, r⟩
    · rw [if_neg e, valV_neg (p := (j, v)) e]
      exact RpQ.val k q
end

/-! ### names of things that may change; the state -/
inductive RpD (K : PySem.W.Frag) (G : Hp) (m : List Addr) : D → V → Prop
  | t {d : T} {v : V} : Rp K G v d → RpD K G m (.t d) v
  | o {i : Nat} {a : Addr} : m[i]? = some a → RpD K G m (.o i) (.ref a)
inductive RpDs (K : PySem.W.Frag) (G : Hp) (m : List Addr) : List D → List V → Prop
  | nil : RpDs K G m [] []
  | cons {d : D} {v : V} {ds : List D} {vs : List V} : RpD K G m d v → RpDs K G m ds vs → RpDs K G m (d :: ds) (v :: vs)
theorem getElem?_pre {α : Type} {m m' : List α} (h : m <+: m') {i : Nat} {a : α} (e : m[i]? = some a) : m'[i]? = some a := by
  obtain ⟨r, rfl⟩ := h
  have hi : i < m.length := (List.getElem?_eq_some_iff.mp e).1
  rw [List.getElem?_append_left hi]; exact e
theorem RpD.mono {K : PySem.W.Frag} {G G' : Hp} {m m' : List Addr} (f : Fz G G') (h : m <+: m') {d : D} {v : V} (r : RpD K G m d v) : RpD K G' m' d v := by
  cases r with
  | t r => exact .t (r.mono f)
  | o e => exact .o (getElem?_pre h e)
theorem RpDs.mono {K : PySem.W.Frag} {G G' : Hp} {m m' : List Addr} (f : Fz G G') (h : m <+: m') : ∀ {d : List D} {v : List V}, RpDs K G m d v → RpDs K G' m' d v
  | _, _, .nil => .nil
  | _, _, .cons r q => .cons (r.mono f h) (RpDs.mono f h q)
theorem RpDs.length {K : PySem.W.Frag} {G : Hp} {m : List Addr} : ∀ {d : List D} {v : List V}, RpDs K G m d v → d.length = v.length
  | _, _, .nil => rfl
  | _, _, .cons r q => by rw [List.length_cons, List.length_cons, RpDs.length q]

inductive CellOk (K : PySem.W.Frag) (G : Hp) : Cl → HO → Prop
  | lst {xs : List V} {ds : List T} : RpL K G xs ds → CellOk K G (.lst ds) (.lst xs)
  | dK {xs : List (Key × V)} {ds : List (Key × T)} : RpK K G xs ds → CellOk K G (.dK ds) (.dK xs)
  | dT {xs : List (List Key × V)} {ds : List (List Key × T)} : RpQ K G xs ds → CellOk K G (.dT ds) (.dT xs)
  | lck {c : Cl} {o : HO} : CellOk K G c o → CellOk K G (.lck c) o
theorem CellOk.mono {K : PySem.W.Frag} {G H : Hp} (f : Fz G H) {c : Cl} {o : HO} (h : CellOk K G c o) : CellOk K H c o := by
  induction h with
  | lst q => exact .lst (q.mono f)
  | dK q => exact .dK (q.mono f)
  | dT q => exact .dT (q.mono f)
  | lck q ih => exact .lck ih

/-- the things that may change stand in H, apart from what is frozen -/
structure Pre (K : PySem.W.Frag) (B G : Hp) (m : List Addr) (S : Sto) (H : Hp) : Prop where
  hid : ∀ a o, B a = some o → H a = some o ∧ G a = none ∧ ∀ (j : Nat), m[j]? = some a → ∃ c, S[j]? = some (.lck c)
  fz : Fz G H
  len : m.length = S.length
  nd : m.Nodup
  cells : ∀ (i : Nat) c a, S[i]? = some c → m[i]? = some a → G a = none ∧ ∃ o, H a = some o ∧ CellOk K G c o

/-- the names -/
structure RelE (K : PySem.W.Frag) (G : Hp) (m : List Addr) (r : Env) (s : L2.St) : Prop where
  len : r.length = s.length
  at_ : ∀ (i : Nat) d, r[i]? = some (some d) → ∃ v, s[i]? = some (some v) ∧ RpD K G m d v
theorem RelE.mono {K : PySem.W.Frag} {G G' : Hp} {m m' : List Addr} {r : Env} {s : L2.St} (f : Fz G G') (h : m <+: m') (e : RelE K G m r s) : RelE K G' m' r s :=
  ⟨e.len, fun i d q => let ⟨v, h1, h2⟩ := e.at_ i d q; ⟨v, h1, h2.mono f h⟩⟩
theorem RelE.set {K : PySem.W.Frag} {G : Hp} {m : List Addr} {r : Env} {s : L2.St} (e : RelE K G m r s) {d : D} {v : V} (q : RpD K G m d v) (i : Nat) : RelE K G m (r.set i (some d)) (s.set i (some v)) := by
  refine ⟨by rw [List.length_set, List.length_set]; exact e.len, fun j d' h => ?_⟩
  by_cases hj : i = j
  · subst hj
    have hi : i < r.length := by
      have := (List.getElem?_eq_some_iff.mp h).1
      simpa using this
    rw [List.getElem?_set_self hi] at h
    cases h
    exact ⟨v, List.getElem?_set_self (by rw [← e.len]; exact hi), q⟩
  · rw [List.getElem?_set_ne hj] at h
    obtain ⟨v', h1, h2⟩ := e.at_ j d' h
    exact ⟨v', by rw [List.getElem?_set_ne hj]; exact h1, h2⟩
/-- the block's own slots, forgotten -/
def wip (r : Env) : List Nat → Env
  | [] => r
  | v :: vs => (wip r vs).set v none
theorem RelE.wipe {K : PySem.W.Frag} {G : Hp} {m : List Addr} {r : Env} {s : L2.St} (e : RelE K G m r s) : ∀ vs : List Nat, RelE K G m (wip r vs) (wipe s vs)
  | [] => e
  | v :: vs => by
    have ih := RelE.wipe e vs
    refine ⟨by unfold wip L2.wipe; rw [List.length_set, List.length_set]; exact ih.len, fun j d' h => ?_⟩
    unfold wip at h
    unfold L2.wipe
    by_cases hj : v = j
    · subst hj
      by_cases hv : v < (wip r vs).length
      · rw [List.getElem?_set_self hv] at h; cases h
      · rw [List.getElem?_eq_none (by simpa using hv)] at h; cases h
    · rw [List.getElem?_set_ne hj] at h
      obtain ⟨v', h1, h2⟩ := ih.at_ j d' h
      exact ⟨v', by rw [List.getElem?_set_ne hj]; exact h1, h2⟩

/-- a thing is laid anew, nothing else happens -/
structure Al (G H G' H' : Hp) : Prop where
  same : Same H H'
  fz : Fz G G'
  fz' : Fz G' H'
  new : ∀ a o, H a = some o → G' a = G a
theorem Al.refl {G H : Hp} (f : Fz G H) : Al G H G H := ⟨Same.refl H, Fz.refl G, f, fun _ _ _ => rfl⟩
theorem Al.trans {G H G1 H1 G2 H2 : Hp} (a : Al G H G1 H1) (b : Al G1 H1 G2 H2) : Al G H G2 H2 :=
  ⟨a.same.trans b.same, a.fz.trans b.fz, b.fz', fun c o h => (b.new c o (a.same c o h)).trans (a.new c o h)⟩
theorem Al.lay {G H : Hp} (f : Fz G H) {p : Addr} {o : HO} (hp : H p = none) (ho : ∀ ob u, o ≠ .frz ob u) : Al G H (upd G p o) (upd H p o) := by
  have gp : G p = none := f.none' hp
  refine ⟨fun b u e => ?_, ⟨fun b u e => ?_, fun b u e => ?_⟩, ⟨fun b u e => ?_, fun b u e => ?_⟩, fun b u e => ?_⟩
  · rw [upd_ne (ne_of_none e hp)]; exact e
  · have hb : b ≠ p := by
      rintro rfl
      rcases e with z | ⟨ob, z⟩ <;> rw [gp] at z <;> cases z
    rcases e with z | ⟨ob, z⟩
    · exact .inl (by rw [upd_ne hb]; exact z)
    · exact .inr ⟨ob, by rw [upd_ne hb]; exact z⟩
  · rw [upd_ne (ne_of_none e gp)]; exact e
  · by_cases hb : b = p
    · subst hb
      rcases e with z | ⟨ob, z⟩
      · rw [upd_same] at z; cases z; exact .inl upd_same
      · rw [upd_same] at z; cases z; exact absurd rfl (ho ob u)
    · have e' : Rd G b u := by
        rcases e with z | ⟨ob, z⟩
        · exact .inl (by rw [upd_ne hb] at z; exact z)
        · exact .inr ⟨ob, by rw [upd_ne hb] at z; exact z⟩
      rcases f.rd b u e' with z | ⟨ob, z⟩
      · exact .inl (by rw [upd_ne hb]; exact z)
      · exact .inr ⟨ob, by rw [upd_ne hb]; exact z⟩
  · by_cases hb : b = p
    · subst hb; rw [upd_same] at e ⊢; exact e
    · rw [upd_ne hb] at e ⊢; exact f.tp _ _ e
  · rw [upd_ne (ne_of_none e hp)]
theorem Al.pre {K : PySem.W.Frag} {B G H G' H' : Hp} {m : List Addr} {S : Sto} (a : Al G H G' H') (p : Pre K B G m S H) : Pre K B G' m S H' :=
  ⟨fun b o h => let ⟨x, y, z⟩ := p.hid b o h; ⟨a.same b o x, (a.new b o x).trans y, z⟩, a.fz', p.len, p.nd, fun i c b h1 h2 => let ⟨g, o, h, q⟩ := p.cells i c b h1 h2; ⟨(a.new b o h).trans g, o, a.same b o h, q.mono a.fz⟩⟩

/-- a new thing that may change -/
theorem Pre.own {K : PySem.W.Frag} {B G H : Hp} {m : List Addr} {S : Sto} (p : Pre K B G m S H) {a : Addr} {o : HO} {c : Cl} (ha : H a = none) (hc : CellOk K G c o) : Pre K B G (m ++ [a]) (S ++ [c]) (upd H a o) := by
  have ga := p.fz.none' ha
  have hm : ∀ (i : Nat) b, m[i]? = some b → b ≠ a := fun i b e z => by
    have hi : i < S.length := by rw [← p.len]; exact (List.getElem?_eq_some_iff.mp e).1
    obtain ⟨_, o', h', _⟩ := p.cells i (S[i]) b (by simp [hi]) e
    rw [z, ha] at h'; cases h'
  refine ⟨fun b u e => ?_, ⟨fun b u e => ?_, fun b u e => ?_⟩, by rw [List.length_append, List.length_append, p.len]; rfl, ?_, fun i d b h1 h2 => ?_⟩
  · obtain ⟨x, y, z⟩ := p.hid b u e
    have hb : b ≠ a := ne_of_none x ha
    refine ⟨by rw [upd_ne hb]; exact x, y, fun j hj => ?_⟩
    by_cases hl : j < m.length
    · rw [List.getElem?_append_left hl] at hj
      obtain ⟨c, hc⟩ := z j hj
      exact ⟨c, by rw [List.getElem?_append_left (by rw [← p.len]; exact hl)]; exact hc⟩
    · rw [List.getElem?_append_right (by omega)] at hj
      have := List.mem_of_getElem? hj
      exact absurd (by simpa using this) hb
  · have hb : b ≠ a := by
      rintro rfl
      rcases e with z | ⟨ob, z⟩ <;> rw [ga] at z <;> cases z
    rcases p.fz.rd b u e with z | ⟨ob, z⟩
    · exact .inl (by rw [upd_ne hb]; exact z)
    · exact .inr ⟨ob, by rw [upd_ne hb]; exact z⟩
  · rw [upd_ne (ne_of_none e ga)]; exact p.fz.tp _ _ e
  · refine List.nodup_append.mpr ⟨p.nd, by simp, fun x hx y hy => ?_⟩
    obtain ⟨i, hi⟩ := List.getElem?_of_mem hx
    have ey : y = a := by simpa using hy
    rw [ey]
    exact hm i x hi
  · by_cases hi : i < m.length
    · rw [List.getElem?_append_left (by rw [← p.len]; exact hi)] at h1
      rw [List.getElem?_append_left hi] at h2
      obtain ⟨g, o', h', q⟩ := p.cells i d b h1 h2
      exact ⟨g, o', by rw [upd_ne (hm i b h2)]; exact h', q⟩
    · rw [List.getElem?_append_right (by rw [← p.len]; omega)] at h1
      rw [List.getElem?_append_right (by omega)] at h2
      have e1 : i - m.length = 0 := by
        have := (List.getElem?_eq_some_iff.mp h2).1
        simp at this; omega
      rw [e1] at h2
      rw [← p.len, e1] at h1
      cases h1; cases h2
      exact ⟨ga, o, upd_same, hc⟩
/-- a thing that may change, changed -/
theorem Pre.put {K : PySem.W.Frag} {B G H : Hp} {m : List Addr} {S : Sto} (p : Pre K B G m S H) {i : Nat} {a : Addr} {o : HO} {c c' : Cl} (hc : S[i]? = some c') (hn : ∀ c0, c' ≠ .lck c0) (ha : m[i]? = some a) (h : CellOk K G c o) : Pre K B G m (S.set i c) (upd H a o) := by
  have ga := (p.cells i c' a hc ha).1
  refine ⟨fun b u e => ?_, ⟨fun b u e => ?_, fun b u e => ?_⟩, by rw [List.length_set]; exact p.len, p.nd, fun j d b h1 h2 => ?_⟩
  · obtain ⟨x, y, z⟩ := p.hid b u e
    have hb : b ≠ a := by
      rintro rfl
      obtain ⟨c0, h0⟩ := z i ha
      rw [hc] at h0; cases h0
      exact hn c0 rfl
    refine ⟨by rw [upd_ne hb]; exact x, y, fun j hj => ?_⟩
    obtain ⟨c0, h0⟩ := z j hj
    have hij : i ≠ j := by
      rintro rfl
      rw [ha] at hj; cases hj
      exact hb rfl
    exact ⟨c0, by rw [List.getElem?_set_ne hij]; exact h0⟩
  · have hb : b ≠ a := by
      rintro rfl
      rcases e with z | ⟨ob, z⟩ <;> rw [ga] at z <;> cases z
    rcases p.fz.rd b u e with z | ⟨ob, z⟩
    · exact .inl (by rw [upd_ne hb]; exact z)
    · exact .inr ⟨ob, by rw [upd_ne hb]; exact z⟩
  · rw [upd_ne (ne_of_none e ga)]; exact p.fz.tp _ _ e
  · by_cases hj : i = j
    · subst hj
      rw [ha] at h2; cases h2
      rw [List.getElem?_set_self (List.getElem?_eq_some_iff.mp hc).1] at h1
      cases h1
      exact ⟨ga, o, upd_same, h⟩
    · rw [List.getElem?_set_ne hj] at h1
      obtain ⟨g, o', h', q⟩ := p.cells j d b h1 h2
      refine ⟨g, o', ?_, q⟩
      rw [upd_ne]
      · exact h'
      · rintro rfl
        exact hj ((List.getElem?_inj (List.getElem?_eq_some_iff.mp ha).1 p.nd).mp (ha.trans h2.symm))
/-- fewer things -/
theorem Pre.take {K : PySem.W.Frag} {B G H : Hp} {m : List Addr} {S : Sto} (p : Pre K B G m S H) (n : Nat) : Pre K B G (m.take n) (S.take n) H := by
  refine ⟨fun b u e => let ⟨x, y, z⟩ := p.hid b u e; ⟨x, y, fun j hj => by
    have hi : j < n := by
      have := (List.getElem?_eq_some_iff.mp hj).1
      rw [List.length_take] at this; omega
    rw [List.getElem?_take_of_lt hi] at hj ⊢
    exact z j hj⟩, p.fz, by rw [List.length_take, List.length_take, p.len], p.nd.sublist (List.take_sublist n m), fun i c a h1 h2 => ?_⟩
  have hi : i < n := by
    have := (List.getElem?_eq_some_iff.mp h2).1
    rw [List.length_take] at this; omega
  rw [List.getElem?_take_of_lt hi] at h1 h2
  exact p.cells i c a h1 h2
/-- a thing that may change changes no more; those from n on are forgotten -/
theorem Pre.freeze {K : PySem.W.Frag} {B G H : Hp} {m : List Addr} {S : Sto} (p : Pre K B G m S H) {n i : Nat} {a : Addr} {o : HO} (hi : n ≤ i) {c : Cl} (hc : S[i]? = some c) (hn : ∀ c0, c ≠ .lck c0) (ha : m[i]? = some a) (ho : H a = some o) (ga : G a = none) (hz : ∀ ob u, o ≠ .frz ob u) :
    Fz G (upd G a o) ∧ Pre K B (upd G a o) (m.take n) (S.take n) H := by
  have f1 : Fz G (upd G a o) := by
    refine ⟨fun b u e => ?_, fun b u e => ?_⟩
    · have hb : b ≠ a := by
        rintro rfl
        rcases e with z | ⟨ob, z⟩ <;> rw [ga] at z <;> cases z
      rcases e with z | ⟨ob, z⟩
      · exact .inl (by rw [upd_ne hb]; exact z)
      · exact .inr ⟨ob, by rw [upd_ne hb]; exact z⟩
    · rw [upd_ne (ne_of_none e ga)]; exact e
  have q := p.take n
  refine ⟨f1, ⟨fun b u e => ?_, ⟨fun b u e => ?_, fun b u e => ?_⟩, q.len, q.nd, fun j c b h1 h2 => ?_⟩⟩
  · obtain ⟨x, y, z⟩ := p.hid b u e
    have hb : b ≠ a := by
      rintro rfl
      obtain ⟨c0, h0⟩ := z i ha
      rw [hc] at h0; cases h0
      exact hn c0 rfl
    exact ⟨x, by rw [upd_ne hb]; exact y, (q.hid b u e).2.2⟩
  · by_cases hb : b = a
    · subst hb
      rcases e with z | ⟨ob, z⟩
      · rw [upd_same] at z; cases z; exact .inl ho
      · rw [upd_same] at z; cases z; exact absurd rfl (hz ob u)
    · refine p.fz.rd b u ?_
      rcases e with z | ⟨ob, z⟩
      · exact .inl (by rw [upd_ne hb] at z; exact z)
      · exact .inr ⟨ob, by rw [upd_ne hb] at z; exact z⟩
  · by_cases hb : b = a
    · subst hb; rw [upd_same] at e; cases e; exact ho
    · rw [upd_ne hb] at e; exact p.fz.tp _ _ e
  · obtain ⟨g, o', h', r⟩ := q.cells j c b h1 h2
    have hj : j < n := by
      have := (List.getElem?_eq_some_iff.mp h2).1
      rw [List.length_take] at this; omega
    rw [List.getElem?_take_of_lt hj] at h2
    have hb : b ≠ a := by
      rintro rfl
      have := (List.getElem?_inj (List.getElem?_eq_some_iff.mp ha).1 p.nd).mp (ha.trans h2.symm)
      omega
    exact ⟨by rw [upd_ne hb]; exact g, o', h', r.mono f1⟩

/-- a thing is gone through -/
theorem Pre.lock {K : PySem.W.Frag} {B G H : Hp} {m : List Addr} {S : Sto} (p : Pre K B G m S H) {j : Nat} {a : Addr} {o : HO} {c : Cl} (hc : S[j]? = some c) (ha : m[j]? = some a) (ho : H a = some o) : Pre K (upd B a o) G m (S.set j (.lck c)) H := by
  obtain ⟨ga, o1, h1, q⟩ := p.cells j c a hc ha
  rw [ho] at h1; cases h1
  have hj : j < S.length := (List.getElem?_eq_some_iff.mp hc).1
  refine ⟨fun b u e => ?_, p.fz, by rw [List.length_set]; exact p.len, p.nd, fun i d b h1 h2 => ?_⟩
  · by_cases hb : b = a
    · subst hb
      rw [upd_same] at e; cases e
      refine ⟨ho, ga, fun i hi => ?_⟩
      have := (List.getElem?_inj (List.getElem?_eq_some_iff.mp ha).1 p.nd).mp (ha.trans hi.symm)
      subst this
      exact ⟨c, List.getElem?_set_self hj⟩
    · rw [upd_ne hb] at e
      obtain ⟨x, y, z⟩ := p.hid b u e
      refine ⟨x, y, fun i hi => ?_⟩
      obtain ⟨c0, h0⟩ := z i hi
      by_cases hij : j = i
      · subst hij; exact ⟨c, List.getElem?_set_self hj⟩
      · exact ⟨c0, by rw [List.getElem?_set_ne hij]; exact h0⟩
  · by_cases hij : j = i
    · subst hij
      rw [List.getElem?_set_self hj] at h1; cases h1
      rw [ha] at h2; cases h2
      exact ⟨ga, o, ho, .lck q⟩
    · rw [List.getElem?_set_ne hij] at h1
      exact p.cells i d b h1 h2
/-- .. and no more -/
theorem Pre.unlock {K : PySem.W.Frag} {B G H : Hp} {m : List Addr} {S : Sto} {a : Addr} {o : HO} (p : Pre K (upd B a o) G m S H) {j : Nat} {c : Cl} (ha : m[j]? = some a) (hc : CellOk K G c o) (hB : ∀ o', B a = some o' → o' = o ∧ ∃ c0, c = .lck c0) : Pre K B G m (S.set j c) H := by
  have hj : j < S.length := by rw [← p.len]; exact (List.getElem?_eq_some_iff.mp ha).1
  obtain ⟨x0, y0, z0⟩ := p.hid a o upd_same
  refine ⟨fun b u e => ?_, p.fz, by rw [List.length_set]; exact p.len, p.nd, fun i d b h1 h2 => ?_⟩
  · by_cases hb : b = a
    · subst hb
      obtain ⟨e1, c0, e2⟩ := hB u e
      subst e1
      refine ⟨x0, y0, fun i hi => ?_⟩
      have := (List.getElem?_inj (List.getElem?_eq_some_iff.mp ha).1 p.nd).mp (ha.trans hi.symm)
      subst this
      exact ⟨c0, by rw [List.getElem?_set_self hj, e2]⟩
    · obtain ⟨x, y, z⟩ := p.hid b u (by rw [upd_ne hb]; exact e)
      refine ⟨x, y, fun i hi => ?_⟩
      obtain ⟨c0, h0⟩ := z i hi
      have hij : j ≠ i := by
        rintro rfl
        rw [ha] at hi; cases hi
        exact hb rfl
      exact ⟨c0, by rw [List.getElem?_set_ne hij]; exact h0⟩
  · by_cases hij : j = i
    · subst hij
      rw [List.getElem?_set_self hj] at h1; cases h1
      rw [ha] at h2; cases h2
      exact ⟨y0, o, x0, hc⟩
    · rw [List.getElem?_set_ne hij] at h1
      exact p.cells i d b h1 h2
/-- a thing of one's own, laid and not told -/
theorem Pre.hide {K : PySem.W.Frag} {B G H : Hp} {m : List Addr} {S : Sto} (p : Pre K B G m S H) {a : Addr} {o : HO} (ha : H a = none) : Pre K (upd B a o) G m S (upd H a o) := by
  have ga := p.fz.none' ha
  have hm : ∀ (i : Nat) b, m[i]? = some b → b ≠ a := fun i b e z => by
    have hi : i < S.length := by rw [← p.len]; exact (List.getElem?_eq_some_iff.mp e).1
    obtain ⟨_, o', h', _⟩ := p.cells i (S[i]) b (by simp [hi]) e
    rw [z, ha] at h'; cases h'
  refine ⟨fun b u e => ?_, ⟨fun b u e => ?_, fun b u e => ?_⟩, p.len, p.nd, fun i d b h1 h2 => ?_⟩
  · by_cases hb : b = a
    · subst hb
      rw [upd_same] at e; cases e
      exact ⟨upd_same, ga, fun j hj => absurd rfl (hm j _ hj)⟩
    · rw [upd_ne hb] at e
      obtain ⟨x, y, z⟩ := p.hid b u e
      exact ⟨by rw [upd_ne hb]; exact x, y, z⟩
  · have hb : b ≠ a := by
      rintro rfl
      rcases e with z | ⟨ob, z⟩ <;> rw [ga] at z <;> cases z
    rcases p.fz.rd b u e with z | ⟨ob, z⟩
    · exact .inl (by rw [upd_ne hb]; exact z)
    · exact .inr ⟨ob, by rw [upd_ne hb]; exact z⟩
  · rw [upd_ne (ne_of_none e ga)]; exact p.fz.tp _ _ e
  · obtain ⟨g, o', h', q⟩ := p.cells i d b h1 h2
    exact ⟨g, o', by rw [upd_ne (hm i b h2)]; exact h', q⟩
/-- .. changed -/
theorem Pre.rehide {K : PySem.W.Frag} {B G H : Hp} {m : List Addr} {S : Sto} {a : Addr} {o o' : HO} (p : Pre K (upd B a o) G m S H) (hm : a ∉ m) : Pre K (upd B a o') G m S (upd H a o') := by
  obtain ⟨x0, ga, z0⟩ := p.hid a o upd_same
  refine ⟨fun b u e => ?_, ⟨fun b u e => ?_, fun b u e => ?_⟩, p.len, p.nd, fun i d b h1 h2 => ?_⟩
  · by_cases hb : b = a
    · subst hb
      rw [upd_same] at e; cases e
      exact ⟨upd_same, ga, fun j hj => absurd (List.mem_of_getElem? hj) hm⟩
    · rw [upd_ne hb] at e
      obtain ⟨x, y, z⟩ := p.hid b u (by rw [upd_ne hb]; exact e)
      exact ⟨by rw [upd_ne hb]; exact x, y, z⟩
  · have hb : b ≠ a := by
      rintro rfl
      rcases e with z | ⟨ob, z⟩ <;> rw [ga] at z <;> cases z
    rcases p.fz.rd b u e with z | ⟨ob, z⟩
    · exact .inl (by rw [upd_ne hb]; exact z)
    · exact .inr ⟨ob, by rw [upd_ne hb]; exact z⟩
  · rw [upd_ne (ne_of_none e ga)]; exact p.fz.tp _ _ e
  · obtain ⟨g, o2, h', q⟩ := p.cells i d b h1 h2
    refine ⟨g, o2, ?_, q⟩
    rw [upd_ne]
    · exact h'
    · rintro rfl; exact hm (List.mem_of_getElem? h2)
/-- what was hidden comes out: frozen, or a thing that may change -/
theorem Pre.unhide {K : PySem.W.Frag} {B G H : Hp} {m : List Addr} {S : Sto} {a : Addr} {o : HO} (p : Pre K (upd B a o) G m S H) (hB : B a = none) : Pre K B G m S H :=
  ⟨fun b u e => p.hid b u (by rw [upd_ne (ne_of_none e hB)]; exact e), p.fz, p.len, p.nd, p.cells⟩
theorem Pre.ownAt {K : PySem.W.Frag} {B G H : Hp} {m : List Addr} {S : Sto} (p : Pre K B G m S H) {a : Addr} {o : HO} {c : Cl} (ha : H a = some o) (ga : G a = none) (hm : a ∉ m) (hB : B a = none) (hc : CellOk K G c o) : Pre K B G (m ++ [a]) (S ++ [c]) H := by
  refine ⟨fun b u e => ?_, p.fz, by rw [List.length_append, List.length_append, p.len]; rfl, List.nodup_append.mpr ⟨p.nd, by simp, fun x hx y hy => ?_⟩, fun i d b h1 h2 => ?_⟩
  · obtain ⟨x, y, z⟩ := p.hid b u e
    refine ⟨x, y, fun j hj => ?_⟩
    by_cases hl : j < m.length
    · rw [List.getElem?_append_left hl] at hj
      obtain ⟨c, hc⟩ := z j hj
      exact ⟨c, by rw [List.getElem?_append_left (by rw [← p.len]; exact hl)]; exact hc⟩
    · rw [List.getElem?_append_right (by omega)] at hj
      have := List.mem_of_getElem? hj
      have hb : b = a := by simpa using this
      rw [hb, hB] at e; cases e
  · have ey : y = a := by simpa using hy
    rw [ey]; rintro rfl; exact hm hx
  · by_cases hi : i < m.length
    · rw [List.getElem?_append_left (by rw [← p.len]; exact hi)] at h1
      rw [List.getElem?_append_left hi] at h2
      exact p.cells i d b h1 h2
    · rw [List.getElem?_append_right (by rw [← p.len]; omega)] at h1
      rw [List.getElem?_append_right (by omega)] at h2
      have e1 : i - m.length = 0 := by
        have := (List.getElem?_eq_some_iff.mp h2).1
        simp at this; omega
      rw [e1] at h2
      rw [← p.len, e1] at h1
      cases h1; cases h2
      exact ⟨ga, o, ha, hc⟩
/-- .. frozen -/
theorem Pre.frzAt {K : PySem.W.Frag} {B G H : Hp} {m : List Addr} {S : Sto} (p : Pre K B G m S H) {a : Addr} {o : HO} (ha : H a = some o) (ga : G a = none) (hm : a ∉ m) (hB : B a = none) (hz : ∀ ob u, o ≠ .frz ob u) : Fz G (upd G a o) ∧ Pre K B (upd G a o) m S H := by
  have f1 : Fz G (upd G a o) := by
    refine ⟨fun b u e => ?_, fun b u e => ?_⟩
    · have hb : b ≠ a := by
        rintro rfl
        rcases e with z | ⟨ob, z⟩ <;> rw [ga] at z <;> cases z
      rcases e with z | ⟨ob, z⟩
      · exact .inl (by rw [upd_ne hb]; exact z)
      · exact .inr ⟨ob, by rw [upd_ne hb]; exact z⟩
    · rw [upd_ne (ne_of_none e ga)]; exact e
  refine ⟨f1, ⟨fun b u e => ?_, ⟨fun b u e => ?_, fun b u e => ?_⟩, p.len, p.nd, fun j c b h1 h2 => ?_⟩⟩
  · obtain ⟨x, y, z⟩ := p.hid b u e
    exact ⟨x, by rw [upd_ne (ne_of_none e hB)]; exact y, z⟩
  · by_cases hb : b = a
    · subst hb
      rcases e with z | ⟨ob, z⟩
      · rw [upd_same] at z; cases z; exact .inl ha
      · rw [upd_same] at z; cases z; exact absurd rfl (hz ob u)
    · refine p.fz.rd b u ?_
      rcases e with z | ⟨ob, z⟩
      · exact .inl (by rw [upd_ne hb] at z; exact z)
      · exact .inr ⟨ob, by rw [upd_ne hb] at z; exact z⟩
  · by_cases hb : b = a
    · subst hb; rw [upd_same] at e; cases e; exact ha
    · rw [upd_ne hb] at e; exact p.fz.tp _ _ e
  · obtain ⟨g, o', h', r⟩ := p.cells j c b h1 h2
    have hb : b ≠ a := by
      rintro rfl; exact hm (List.mem_of_getElem? h2)
    exact ⟨by rw [upd_ne hb]; exact g, o', h', r.mono f1⟩

/-- a value read now: a tree, or a thing that may change as it stands -/
inductive Vw (K : PySem.W.Frag) (G H : Hp) : V → T → Prop
  | r {v : V} {d : T} : Rp K G v d → Vw K G H v d
  | lst {a : Addr} {xs : List V} {ds : List T} : H a = some (.lst xs) → RpL K G xs ds → Vw K G H (.ref a) (.lst ds)
  | dK {a : Addr} {xs : List (Key × V)} {ds : List (Key × T)} : H a = some (.dK xs) → RpK K G xs ds → Vw K G H (.ref a) (.dK ds)
  | dT {a : Addr} {xs : List (List Key × V)} {ds : List (List Key × T)} : H a = some (.dT xs) → RpQ K G xs ds → Vw K G H (.ref a) (.dT ds)
def Cl.tr : Cl → T
  | .lst xs => .lst xs
  | .dK kvs => .dK kvs
  | .dT kvs => .dT kvs
  | .lck c => c.tr
def rd (S : Sto) : D → Option T
  | .t d => some d
  | .o i => (S[i]?).map Cl.tr
  | .l _ => none
theorem rd_ok {K : PySem.W.Frag} {B G H : Hp} {m : List Addr} {S : Sto} (p : Pre K B G m S H) {d : D} {v : V} {t : T} (r : RpD K G m d v) (h : rd S d = some t) : Vw K G H v t := by
  cases r with
  | t r => cases h; exact .r r
  | o e =>
    rename_i i a
    replace h : (S[i]?).map Cl.tr = some t := h
    cases hs : S[i]? with
    | none => rw [hs] at h; cases h
    | some c =>
      rw [hs] at h
      cases h
      obtain ⟨_, o, ho, q⟩ := p.cells i c a hs e
      clear hs
      induction q with
      | lst q => exact .lst ho q
      | dK q => exact .dK ho q
      | dT q => exact .dT ho q
      | lck q ih => exact ih ho
section
variable {K : PySem.W.Frag} {G H : Hp}
theorem Vw.lst_inv (f : Fz G H) {v : V} {ds : List T} (h : Vw K G H v (.lst ds)) : ∃ a xs, v = .ref a ∧ Rd H a (.lst xs) ∧ RpL K G xs ds := by
  cases h with
  | r h => cases h with | lst s q => exact ⟨_, _, rfl, f.rd _ _ s, q⟩
  | lst e q => exact ⟨_, _, rfl, .inl e, q⟩
theorem Vw.scr_inv (f : Fz G H) {v : V} {ns : List Int} (h : Vw K G H v (.scr ns)) : ∃ a, v = .ref a ∧ SqL K H a (ns.map V.int) := by
  cases h with
  | r h => cases h with | scr s => exact ⟨_, rfl, f.seq s⟩
theorem Vw.tup_inv (f : Fz G H) {v : V} {ds : List T} (h : Vw K G H v (.tup ds)) : ∃ a xs, v = .ref a ∧ H a = some (.tup xs) ∧ RpL K G xs ds := by
  cases h with
  | r h => cases h with | tup s q => exact ⟨_, _, rfl, f.tp _ _ s, q⟩
theorem Vw.dK_inv (f : Fz G H) {v : V} {ds : List (Key × T)} (h : Vw K G H v (.dK ds)) : ∃ a xs, v = .ref a ∧ Rd H a (.dK xs) ∧ RpK K G xs ds := by
  cases h with
  | r h => cases h with | dK s q => exact ⟨_, _, rfl, f.rd _ _ s, q⟩
  | dK e q => exact ⟨_, _, rfl, .inl e, q⟩
theorem Vw.dT_inv (f : Fz G H) {v : V} {ds : List (List Key × T)} (h : Vw K G H v (.dT ds)) : ∃ a xs, v = .ref a ∧ Rd H a (.dT xs) ∧ RpQ K G xs ds := by
  cases h with
  | r h => cases h with | dT s q => exact ⟨_, _, rfl, f.rd _ _ s, q⟩
  | dT e q => exact ⟨_, _, rfl, .inl e, q⟩
theorem Vw.tup_r {v : V} {ds : List T} (h : Vw K G H v (.tup ds)) : Rp K G v (.tup ds) := by cases h with | r h => exact h
theorem Vw.int_inv {v : V} {i : Int} (h : Vw K G H v (.int i)) : v = .int i := by cases h with | r h => cases h; rfl
theorem Vw.bl_inv {v : V} {i : Bool} (h : Vw K G H v (.bl i)) : v = .bl i := by cases h with | r h => cases h; rfl
theorem Vw.str_inv {v : V} {i : Str} (h : Vw K G H v (.str i)) : v = .str i := by cases h with | r h => cases h; rfl
theorem Vw.non_inv {v : V} (h : Vw K G H v .non) : v = .non := by cases h with | r h => cases h; rfl
theorem Vw.mono {G' H' : Hp} (a : Al G H G' H') {v : V} {d : T} (h : Vw K G H v d) : Vw K G' H' v d := by
  cases h with
  | r h => exact .r (h.mono a.fz)
  | lst e q => exact .lst (a.same _ _ e) (q.mono a.fz)
  | dK e q => exact .dK (a.same _ _ e) (q.mono a.fz)
  | dT e q => exact .dT (a.same _ _ e) (q.mono a.fz)
end

/-! ### the end of a reading -/
/-- an exception's object: told in a later part -/
def RpX (K : PySem.W.Frag) (G : Hp) (x : Xc) (cls : Value) (d : Option Addr) (H : Hp) : Prop := False
section
variable {α β α' β' : Type}
def Post (K : PySem.W.Frag) (B : Hp) (W : WX) (s : L2.St) (G : Hp) (m : List Addr) (Rr : Hp → Hp → List Addr → α → β → Prop) (Q : β → Hp → Prop) : R α → Prop
  | .ok d S' => ∀ v H' G' m', m <+: m' → Fz G G' → Pre K B G' m' S' H' → Rr G' H' m' d v → Q v H'
  | .exc x S' => ∀ c dd H' G' m', m <+: m' → Fz G G' → Pre K B G' m' S' H' → RpX K G' x c dd H' → W c dd s H'
  | .bad => False
variable {K : PySem.W.Frag} {B : Hp} {W : WX} {s : L2.St} {G : Hp} {m : List Addr} {Rr : Hp → Hp → List Addr → α → β → Prop} {Rs : Hp → Hp → List Addr → α' → β' → Prop}
theorem Post.mono {Q Q' : β → Hp → Prop} {r : R α} (h : Post K B W s G m Rr Q r) (hq : ∀ v H', Q v H' → Q' v H') : Post K B W s G m Rr Q' r := by
  cases r with
  | ok d S => exact fun v H' G' m' h1 h2 h3 h4 => hq _ _ (h v H' G' m' h1 h2 h3 h4)
  | exc x S => exact h
  | bad => exact h
theorem Post.bind {Q : β' → Hp → Prop} {r : R α} {f : α → Sto → R α'} (h : Post K B W s G m Rs Q (r.bind f)) :
    Post K B W s G m Rr (fun v H1 => ∃ G1 m1 S1 d, m <+: m1 ∧ Fz G G1 ∧ Pre K B G1 m1 S1 H1 ∧ Rr G1 H1 m1 d v ∧ Post K B W s G1 m1 Rs Q (f d S1)) r := by
  cases r with
  | bad => exact h
  | exc x S => exact h
  | ok d S =>
    intro v H' G' m' h1 h2 h3 h4
    refine ⟨G', m', S, d, h1, h2, h3, h4, ?_⟩
    have h' : Post K B W s G m Rs Q (f d S) := h
    cases hr : f d S with
    | bad => rw [hr] at h'; exact h'
    | exc x S2 => rw [hr] at h'; exact fun c dd H2 G2 m2 a b c' d' => h' c dd H2 G2 m2 (h1.trans a) (h2.trans b) c' d'
    | ok d2 S2 => rw [hr] at h'; exact fun v2 H2 G2 m2 a b c' d' => h' v2 H2 G2 m2 (h1.trans a) (h2.trans b) c' d'
theorem Post.opt {Q : β → Hp → Prop} {o : Option α} {S : Sto} (h : Post K B W s G m Rr Q (R.opt o S)) : ∃ d, o = some d ∧ Post K B W s G m Rr Q (.ok d S) := by
  cases o with
  | none => exact h.elim
  | some d => exact ⟨d, rfl, h⟩
/-- a later state -/
theorem Post.later {Q : β → Hp → Prop} {r : R α} {G1 : Hp} {m1 : List Addr} (h : Post K B W s G m Rr Q r) (hm : m <+: m1) (hg : Fz G G1) : Post K B W s G1 m1 Rr Q r := by
  cases r with
  | bad => exact h
  | exc x S => exact fun c dd H' G' m' a b c' d' => h c dd H' G' m' (hm.trans a) (hg.trans b) c' d'
  | ok d S => exact fun v H' G' m' a b c' d' => h v H' G' m' (hm.trans a) (hg.trans b) c' d'
end
end Qq

set_option maxHeartbeats 4000000
/-! Q2: what operators and built-in functions do with trees; that they do so. -/
namespace Qq
open PySem PySem.Spec PyProof.Rows L2

/-! ### trees as data -/
mutual
def T.pd : T → Option PyData
  | .non => some .none
  | .bl b => some (.bool b)
  | .int i => some (.int i)
  | .str x => some (.str x)
  | .lst xs => match T.pdL xs with
    | some ds => some (.list ds)
    | none => none
  | .tup xs => match T.pdL xs with
    | some ds => some (.tuple ds)
    | none => none
  | .dK _ => none
  | .dT _ => none
  | .scr _ => none
def T.pdL : List T → Option (List PyData)
  | [] => some []
  | d :: r => match T.pd d, T.pdL r with
    | some p, some q => some (p :: q)
    | _, _ => none
end
section
variable {K : PySem.W.Frag} {G H : Hp}
mutual
theorem Rp.dp (f : Fz G H) : ∀ (d : T) (v : V) (p : PyData), Rp K G v d → d.pd = some p → Dp K H v p
  | .non, _, _, h, e => by cases h; unfold T.pd at e; cases e; exact .non
  | .bl b, _, _, h, e => by cases h; unfold T.pd at e; cases e; exact .bl b
  | .int i, _, _, h, e => by cases h; unfold T.pd at e; cases e; exact .int i
  | .str x, _, _, h, e => by cases h; unfold T.pd at e; cases e; exact .str x
  | .lst xs, _, _, h, e => by
    cases h with
    | lst s q =>
      unfold T.pd at e
      cases e2 : T.pdL xs with
      | none => rw [e2] at e; cases e
      | some ds => rw [e2] at e; cases e; exact .lst (.inl (f.rd _ _ s)) (RpL.dp f xs _ _ q e2)
  | .tup xs, _, _, h, e => by
    cases h with
    | tup s q =>
      unfold T.pd at e
      cases e2 : T.pdL xs with
      | none => rw [e2] at e; cases e
      | some ds => rw [e2] at e; cases e; exact .tup (SqT.of (f.tp _ _ s)) (RpL.dp f xs _ _ q e2)
  | .dK _, _, _, _, e => by unfold T.pd at e; cases e
  | .dT _, _, _, _, e => by unfold T.pd at e; cases e
  | .scr _, _, _, _, e => by unfold T.pd at e; cases e
theorem RpL.dp (f : Fz G H) : ∀ (ds : List T) (vs : List V) (ps : List PyData), RpL K G vs ds → T.pdL ds = some ps → DpAll K H vs ps
  | [], _, _, h, e => by cases h; unfold T.pdL at e; cases e; exact .nil
  | d :: r, _, _, h, e => by
    cases h with
    | cons h1 h2 =>
      unfold T.pdL at e
      cases e1 : T.pd d with
      | none => rw [e1] at e; cases e
      | some p =>
        cases e2 : T.pdL r with
        | none => rw [e1, e2] at e; cases e
        | some q => rw [e1, e2] at e; cases e; exact .cons (Rp.dp f d _ _ h1 e1) (RpL.dp f r _ _ h2 e2)
end
theorem Vw.dp (f : Fz G H) {v : V} {d : T} {p : PyData} (h : Vw K G H v d) (e : d.pd = some p) : Dp K H v p := by
  cases h with
  | r h => exact Rp.dp f _ _ _ h e
  | lst s q =>
    rename_i a xs ds
    unfold T.pd at e
    cases e2 : T.pdL ds with
    | none => rw [e2] at e; cases e
    | some ps => rw [e2] at e; cases e; exact .lst (SqL.of s) (RpL.dp f _ _ _ q e2)
  | dK s q => unfold T.pd at e; cases e
  | dT s q => unfold T.pd at e; cases e
end

/-- two trees are equal as Python has it; none where this is not told -/
def eqT (d e : T) : Option Bool := match d.pd, e.pd with
  | some p, some q => if SeqAt.shaped p && SeqAt.shaped q then some (PyData.eqv p q) else none
  | _, _ => none
def inT (d : T) (es : List T) : Option Bool := match d.pd, T.pdL es with
  | some p, some qs => if SeqAt.shaped p && PyData.canLayAll0 qs then some (qs.any fun z => PyData.eqv z p) else none
  | _, _ => none
def keyT : T → Option Key
  | .int i => some (.inl i)
  | .str x => some (.inr x)
  | _ => none
def keysT : List T → Option (List Key)
  | [] => some []
  | d :: r => match keyT d, keysT r with
    | some k, some ks => some (k :: ks)
    | _, _ => none
/-- what a dict holds at a key; none: not told -/
def getT : T → T → Option (Option T)
  | .dK kvs, d => (keyT d).map fun k => valT kvs k
  | .dT kvs, .tup ds => (keysT ds).map fun k => valT kvs k
  | _, _ => none

def line : Nat := 16777216
theorem line_eq : line = sizeLine := sizeLine_eq.symm

def binT : Operator → T → T → Option T
  | .Add, .int i, .int j => some (.int (i + j))
  | .Add, .str x, .str y => if x.length + y.length ≤ line then some (.str (x ++ y)) else none
  | .Add, .lst xs, .lst ys => if xs.length + ys.length ≤ line then some (.lst (xs ++ ys)) else none
  | .Add, .tup xs, .tup ys => if xs.length + ys.length ≤ line then some (.tup (xs ++ ys)) else none
  | .Sub, .int i, .int j => some (.int (i - j))
  | .Mult, .int i, .int j => if i.natAbs.log2 + j.natAbs.log2 < 134000000 then some (.int (i * j)) else none
  | .Mult, .lst xs, .int k => if -(2 ^ 63) ≤ k ∧ k < 2 ^ 63 ∧ xs.length * k.toNat ≤ line then some (.lst (List.replicate k.toNat xs).flatten) else none
  | .FloorDiv, .int i, .int j => if 0 < j ∧ j.natAbs.log2 < 9000 then some (.int (i / j)) else none
  | .Mod, .int i, .int j => if 0 < j then some (.int (i % j)) else none
  | .Pow, .int i, .int j => if 0 ≤ j ∧ j ≤ 1000000 ∧ i.natAbs < 2 ^ 64 then some (.int (i ^ j.toNat)) else none
  | .RShift, .int i, .int j => if 0 ≤ j then some (.int (i / 2 ^ j.toNat)) else none
  | _, _, _ => none

def isNonT : T → Bool
  | .non => true
  | _ => false
def cmpT : CmpOp → T → T → Option Bool
  | .Lt, .int i, .int j => some (decide (i < j))
  | .LtE, .int i, .int j => some (decide (i ≤ j))
  | .Gt, .int i, .int j => some (decide (j < i))
  | .GtE, .int i, .int j => some (decide (j ≤ i))
  | .Lt, .str x, .str y => some (decide (x.cps.toList < y.cps.toList))
  | .Eq, d, e => eqT d e
  | .NotEq, d, e => (eqT d e).map fun b => !b
  | .Is, d, .non => some (isNonT d)
  | .IsNot, d, .non => some (!isNonT d)
  | .In, .str x, .str y => some (!(Builtin.Str.occurrences y x 0 y.length 1).isEmpty)
  | .NotIn, .str x, .str y => some (!(!(Builtin.Str.occurrences y x 0 y.length 1).isEmpty))
  | .In, d, .lst es => inT d es
  | .In, d, .tup es => inT d es
  | .NotIn, d, .lst es => (inT d es).map fun b => !b
  | .NotIn, d, .tup es => (inT d es).map fun b => !b
  | .In, d, .dK kvs => (getT (.dK kvs) d).map fun o => o.isSome
  | .In, d, .dT kvs => (getT (.dT kvs) d).map fun o => o.isSome
  | .NotIn, d, .dK kvs => (getT (.dK kvs) d).map fun o => !o.isSome
  | .NotIn, d, .dT kvs => (getT (.dT kvs) d).map fun o => !o.isSome
  | _, _, _ => none

def truT : T → Option Bool
  | .non => some false
  | .bl b => some b
  | .int i => some (i != 0)
  | .str y => if y.length ≤ line then some ((y.length : Int) != 0) else none
  | .lst xs => some (!xs.isEmpty)
  | .scr xs => some (!xs.isEmpty)
  | .tup xs => some (!xs.isEmpty)
  | _ => none

def idxT : T → T → Option T
  | .lst xs, .int i => atI xs i
  | .scr ns, .int i => (atI ns i).map T.int
  | .tup xs, .int i => atI xs i
  | .str z, .int i => if z.length ≤ line then (atI z.cps.toList i).map fun c => .str ⟨#[c]⟩ else none
  | .dK kvs, d => (getT (.dK kvs) d).join
  | .dT kvs, d => (getT (.dT kvs) d).join
  | _, _ => none

def cutL {α : Type} (xs : List α) (lo hi : Option Int) : List α := (xs.drop (HT.sIx xs.length 0 lo)).take (HT.sIx xs.length xs.length hi - HT.sIx xs.length 0 lo)
def slT : T → Option Int → Option Int → Option T
  | .lst xs, lo, hi => some (.lst (cutL xs lo hi))
  | .scr ns, lo, hi => some (.lst ((cutL ns lo hi).map T.int))
  | .tup xs, lo, hi => some (.tup (cutL xs lo hi))
  | .str z, lo, hi => if z.length ≤ line then some (.str (cutS z lo hi)) else none
  | _, _, _ => none

def lenT : T → Option Nat
  | .lst xs => some xs.length
  | .scr ns => some ns.length
  | .tup xs => some xs.length
  | .str z => if z.length ≤ line then some z.length else none
  | .dK kvs => some kvs.length
  | _ => none

/-! ### rules by values -/
section
variable (K : PySem.W.Frag)
def rO1 (f : T → Option T) : V → Hp → VK → Prop := fun x H Q => ∃ G d r, Fz G H ∧ Vw K G H x d ∧ f d = some r ∧ ∀ v H' G', Al G H G' H' → Rp K G' v r → Q v H'
def rO2 (f : T → T → Option T) : R2 := fun x y H Q => ∃ G d e r, Fz G H ∧ Vw K G H x d ∧ Vw K G H y e ∧ f d e = some r ∧ ∀ v H' G', Al G H G' H' → Rp K G' v r → Q v H'
inductive VwL (G H : Hp) : List V → List T → Prop
  | nil : VwL G H [] []
  | cons {v : V} {vs : List V} {d : T} {ds : List T} : Vw K G H v d → VwL G H vs ds → VwL G H (v :: vs) (d :: ds)
def rC (f : List T → Option T) : List V → Hp → VK → Prop := fun xs H Q => ∃ G ds r, Fz G H ∧ VwL K G H xs ds ∧ f ds = some r ∧ ∀ v H' G', Al G H G' H' → Rp K G' v r → Q v H'
end

section
variable {X : Cx}
theorem OpR.imp {f : Value → Value → Sem Value} {r r' : R2} (h : OpR X f r) (q : ∀ x y H Q, r' x y H Q → r x y H Q) : OpR X f r' :=
  fun pins s σ H x y v u Q I rx ry z => h pins s σ H x y v u Q I rx ry (q _ _ _ _ z)
theorem CallR.imp {f : Value} {r r' : List V → Hp → VK → Prop} (h : CallR X f r) (q : ∀ xs H Q, r' xs H Q → r xs H Q) : CallR X f r' :=
  fun pins s σ H xs us Q I rx z => h pins s σ H xs us Q I rx (q _ _ _ z)
/-- a result without a new object -/
theorem al0 {K : PySem.W.Frag} {G H : Hp} {Q : VK} {r : T} (f : Fz G H) (q : ∀ v H' G', Al G H G' H' → Rp K G' v r → Q v H') {v : V} (h : Rp K G v r) : Q v H := q v H G (Al.refl f) h
theorem alL {K : PySem.W.Frag} {G H : Hp} {Q : VK} {ds : List T} (f : Fz G H) (q : ∀ v H' G', Al G H G' H' → Rp K G' v (.lst ds) → Q v H') {xs : List V} (h : RpL K G xs ds) : ∀ p, H p = none → Q (.ref p) (upd H p (.lst xs)) := fun p hp =>
  q (.ref p) _ (upd G p (.lst xs)) (Al.lay f hp fun ob u z => by cases z) (.lst (.inl upd_same) (h.mono (Al.lay (o := .lst xs) f hp fun ob u z => by cases z).fz))
theorem alT {K : PySem.W.Frag} {G H : Hp} {Q : VK} {ds : List T} (f : Fz G H) (q : ∀ v H' G', Al G H G' H' → Rp K G' v (.tup ds) → Q v H') {xs : List V} (h : RpL K G xs ds) : ∀ p, H p = none → Q (.ref p) (upd H p (.tup xs)) := fun p hp =>
  q (.ref p) _ (upd G p (.tup xs)) (Al.lay f hp fun ob u z => by cases z) (.tup upd_same (h.mono (Al.lay (o := .tup xs) f hp fun ob u z => by cases z).fz))

theorem Inv.lstR {pins : List (Addr × Obj)} {σ : L2.St} {H : Hp} {s : Shared} {l : Addr} {xs : List V} (I : L2.Inv X pins σ H s) (hH : Rd H l (.lst xs)) : xs.length ≤ sizeLine ∧ ∃ (its : List Value) (n : Nat), Vals xs its ∧ xs.length = its.length ∧ s.heap.get? l = some { cls := .type "list", data := .seq its.toArray n } := by
  obtain ⟨z, its, n, r, e⟩ := hH.ok I.hok
  exact ⟨z, its, n, r, r.length, e⟩
/-- list + list, any that are read -/
theorem op_catG : OpR X (binaryOp .Add) (fun x y H Q => ∃ l b xs zs, x = .ref l ∧ y = .ref b ∧ Rd H l (.lst xs) ∧ Rd H b (.lst zs) ∧ xs.length + zs.length ≤ sizeLine ∧ ∀ p, H p = none → Q (.ref p) (upd H p (.lst (xs ++ zs)))) := by
  intro pins s σ H x y v u Q I rx ry h
  obtain ⟨l, b, xs, zs, rfl, rfl, hH, hB, hz, q⟩ := h
  cases rx
  cases ry
  obtain ⟨z, its, n, r, hl, e⟩ := Inv.lstR I hH
  obtain ⟨z2, its2, n2, r2, hl2, e2⟩ := Inv.lstR I hB
  refine PySem.P.add_list e e2 ?_ (by rw [List.size_toArray, List.size_toArray]; omega)
  have ea : its.toArray ++ its2.toArray = (its ++ its2).toArray := by simp
  rw [ea]
  exact ⟨.ref _, _, I.lnew (t' := s.toks) (r.append r2) (by rw [List.length_append]; omega), rfl, q _ I.fresh⟩
theorem op_repG : OpR X (binaryOp .Mult) (fun x y H Q => ∃ l k xs, x = .ref l ∧ y = .int k ∧ Rd H l (.lst xs) ∧ -(2 ^ 63) ≤ k ∧ k < 2 ^ 63 ∧ xs.length * k.toNat ≤ sizeLine ∧
  ∀ p, H p = none → Q (.ref p) (upd H p (.lst (List.replicate k.toNat xs).flatten))) := by
  intro pins s σ H x y v u Q I rx ry h
  obtain ⟨l, k, xs, rfl, rfl, hH, h1, h2, hz, q⟩ := h
  cases rx
  obtain ⟨t, rfl⟩ := ry
  obtain ⟨z, its, n, r, hl, e⟩ := Inv.lstR I hH
  have hlen : its.toArray.size * k.toNat ≤ sizeLine := by rw [List.size_toArray, ← hl]; exact hz
  have hcap : ¬ its.toArray.size * k.toNat > (2 ^ 63 - 1) / 8 := by
    have : (sizeLine : Nat) ≤ (2 ^ 63 - 1) / 8 := by decide
    omega
  have hfit : ¬ (!Builtin.List.listFitsIndex k) = true := by
    rw [fitsIndex_both h1 h2]
    exact Bool.false_ne_true
  have hlong : ¬ Builtin.List.listTooLong (its.toArray.size * k.toNat) = true := by
    rw [notLongL hlen]
    exact Bool.false_ne_true
  have hnew : List.foldl (fun x1 x2 => x1 ++ x2) #[] (List.replicate (if its.toArray.isEmpty = true then 0 else k.toNat) its.toArray) = (List.replicate k.toNat its).flatten.toArray := by
    have f0 : ∀ m : Nat, List.foldl (fun x1 x2 => x1 ++ x2) #[] (List.replicate m its.toArray) = (List.replicate m its).flatten.toArray := fun m => by
      have := foldl_rep its m []
      rw [List.nil_append] at this
      exact this
    rw [f0]
    cases its with
    | nil => simp
    | cons a r' => rw [if_neg (by simp)]
  refine wpAny_binaryOp_repeat_ref (T := "list") (U := "int") (by decide) ⟨_, e, rfl⟩ (fun s' => typeIs_int s' k t) noFill_list_mul F.fills_int_mul F.slot_int_rmul repeat_list F.slot_int_index.lookup
    (call_meets F.slot_int_rmul (typeIs_int s k t) F.entry_int_rmul (F.args_int_rmul_2 _ _) (int___rmul___int_list k t l its.toArray n)
      ⟨e, rfl, ⟨_, e, rfl⟩, call_meets F.slot_list_mul ⟨_, e, rfl⟩ F.entry_list_mul (F.args_list_mul_2 _ _) (AutoListH.list___mul___list_int_3 l its.toArray n k t hfit hcap hlong) ⟨e, ?_⟩⟩)
  rw [hnew]
  exact ⟨.ref _, _, I.lnew (t' := s.toks) (r.rep k.toNat) (by rw [PyProof.Rows.lm_len_rep_flat, Nat.mul_comm]; exact hz), rfl, q _ I.fresh⟩

theorem OpR.pick {ι : Type} {f : Value → Value → Sem Value} {r : R2} (h : ∀ x y H Q, r x y H Q → ∃ r', OpR X f r' ∧ r' x y H Q) : OpR X f r :=
  fun pins s σ H x y v u Q I rx ry z => let ⟨_, h1, h2⟩ := h x y H Q z; h1 pins s σ H x y v u Q I rx ry h2

theorem op_bin (op : Operator) : OpR X (binaryOp op) (rO2 X.K (binT op)) := by
  refine OpR.pick (ι := Unit) ?_
  rintro x y H Q ⟨G, d, e, r, f, hx, hy, hb, q⟩
  unfold binT at hb
  split at hb
  · cases hx.int_inv; cases hy.int_inv; cases hb
    exact ⟨_, op_add, _, _, rfl, rfl, al0 f q (.int _)⟩
  · cases hx.str_inv; cases hy.str_inv
    split at hb
    · rename_i hl; cases hb
      exact ⟨_, op_add_str, _, _, rfl, rfl, by rw [← line_eq]; exact hl, al0 f q (.str _)⟩
    · cases hb
  · obtain ⟨a, xs, rfl, h1, h2⟩ := hx.lst_inv f
    obtain ⟨b, ys, rfl, h3, h4⟩ := hy.lst_inv f
    split at hb
    · rename_i hl; cases hb
      exact ⟨_, op_catG, _, _, _, _, rfl, rfl, h1, h3, by rw [← line_eq, h2.length, h4.length]; exact hl, alL f q (h2.append h4)⟩
    · cases hb
  · obtain ⟨a, xs, rfl, h1, h2⟩ := hx.tup_inv f
    obtain ⟨b, ys, rfl, h3, h4⟩ := hy.tup_inv f
    split at hb
    · rename_i hl; cases hb
      have hx' := hx.tup_r
      have hy' := hy.tup_r
      refine ⟨_, op_catA, _, _, _, _, rfl, rfl, SqT.of h1, SqT.of h3, by rw [← line_eq, h2.length, h4.length]; exact hl, fun e => ?_, fun _ e => ?_, fun _ _ => alT f q (h2.append h4)⟩
      · subst e; cases h2; exact al0 f q hy'
      · subst e; cases h4; rw [List.append_nil] at q; exact al0 f q hx'
    · cases hb
  · cases hx.int_inv; cases hy.int_inv; cases hb
    exact ⟨_, op_sub, _, _, rfl, rfl, al0 f q (.int _)⟩
  · cases hx.int_inv; cases hy.int_inv
    split at hb
    · rename_i hl; cases hb
      exact ⟨_, op_mulX, _, _, rfl, rfl, mulx_ok (Nat.lt_log2_self) (Nat.lt_log2_self) (by omega), al0 f q (.int _)⟩
    · cases hb
  · obtain ⟨a, xs, rfl, h1, h2⟩ := hx.lst_inv f
    cases hy.int_inv
    split at hb
    · rename_i hl; cases hb
      exact ⟨_, op_repG, _, _, _, rfl, rfl, h1, hl.1, hl.2.1, by rw [← line_eq, h2.length]; exact hl.2.2, alL f q (h2.rep _)⟩
    · cases hb
  · cases hx.int_inv; cases hy.int_inv
    split at hb
    · rename_i hl; cases hb
      exact ⟨_, op_fdivW, _, _, rfl, rfl, hl, al0 f q (.int _)⟩
    · cases hb
  · cases hx.int_inv; cases hy.int_inv
    split at hb
    · rename_i hl; cases hb
      exact ⟨_, op_mod, _, _, rfl, rfl, hl, al0 f q (.int _)⟩
    · cases hb
  · cases hx.int_inv; cases hy.int_inv
    split at hb
    · rename_i hl; cases hb
      exact ⟨_, op_pow, _, _, rfl, rfl, hl, al0 f q (.int _)⟩
    · cases hb
  · cases hx.int_inv; cases hy.int_inv
    split at hb
    · rename_i hl; cases hb
      exact ⟨_, op_shr, _, _, rfl, rfl, hl, al0 f q (.int _)⟩
    · cases hb
  · cases hb

/-! ### comparisons -/
def rCm (K : PySem.W.Frag) (op : CmpOp) : R2 := fun x y H Q => ∃ G d e b, Fz G H ∧ Vw K G H x d ∧ Vw K G H y e ∧ cmpT op d e = some b ∧ Q (.bl b) H
theorem op_inDT (hu : X.A.units + 65 < cLine) : OpR X (compareOp .In) (fun x y H Q => ∃ d ds, Dp X.K H x d ∧ (Dp X.K H y (.list ds) ∨ Dp X.K H y (.tuple ds)) ∧ SeqAt.shaped d = true ∧ PyData.canLayAll0 ds = true ∧ Q (.bl (ds.any fun z => PyData.eqv z d)) H) := by
  intro pins s σ H x y v u Q I rx ry h
  obtain ⟨d, ds, hd, he, sd, se, q⟩ := h
  obtain ⟨as, r1⟩ := Dp.reads I d x v hd rx
  rcases he with he | he
  · obtain ⟨bs, r2⟩ := Dp.reads I (.list ds) y u he ry
    exact SeqAt.in_list_reads r2 r1 se (SeqAt.canLay_of_shaped sd) (room_in_shaped sd hu) ⟨.bl _, H, I, rfl, q⟩
  · obtain ⟨bs, r2⟩ := Dp.reads I (.tuple ds) y u he ry
    exact SeqAt.in_tuple_reads r2 r1 se (SeqAt.canLay_of_shaped sd) (room_in_shaped sd hu) ⟨.bl _, H, I, rfl, q⟩
theorem op_notInDT (hu : X.A.units + 65 < cLine) : OpR X (compareOp .NotIn) (fun x y H Q => ∃ d ds, Dp X.K H x d ∧ (Dp X.K H y (.list ds) ∨ Dp X.K H y (.tuple ds)) ∧ SeqAt.shaped d = true ∧ PyData.canLayAll0 ds = true ∧ Q (.bl (!ds.any fun z => PyData.eqv z d)) H) := by
  intro pins s σ H x y v u Q I rx ry h
  obtain ⟨d, ds, hd, he, sd, se, q⟩ := h
  obtain ⟨as, r1⟩ := Dp.reads I d x v hd rx
  rcases he with he | he
  · obtain ⟨bs, r2⟩ := Dp.reads I (.list ds) y u he ry
    exact SeqAt.notIn_list_reads r2 r1 se (SeqAt.canLay_of_shaped sd) (room_in_shaped sd hu) ⟨.bl _, H, I, rfl, q⟩
  · obtain ⟨bs, r2⟩ := Dp.reads I (.tuple ds) y u he ry
    exact SeqAt.notIn_tuple_reads r2 r1 se (SeqAt.canLay_of_shaped sd) (room_in_shaped sd hu) ⟨.bl _, H, I, rfl, q⟩
theorem op_inDct (hu : X.A.units + 1 < cLine) : OpR X (compareOp .In) (fun y x H Q => ∃ a o, x = .ref a ∧ DGet H a y o ∧ Q (.bl o.isSome) H) := by
  intro pins s σ H y x v u Q I ry rx h
  obtain ⟨a, o, rfl, g, q⟩ := h
  cases rx
  exact d_in hu I g ry fun s' I' => ⟨.bl _, H, I', rfl, q⟩
theorem op_notInDct (hu : X.A.units + 1 < cLine) : OpR X (compareOp .NotIn) (fun y x H Q => ∃ a o, x = .ref a ∧ DGet H a y o ∧ Q (.bl (!o.isSome)) H) := by
  intro pins s σ H y x v u Q I ry rx h
  obtain ⟨a, o, rfl, g, q⟩ := h
  cases rx
  exact d_notIn hu I g ry fun s' I' => ⟨.bl _, H, I', rfl, q⟩
theorem eqT_inv {d e : T} {b : Bool} (h : eqT d e = some b) : ∃ p q, d.pd = some p ∧ e.pd = some q ∧ SeqAt.shaped p = true ∧ SeqAt.shaped q = true ∧ b = PyData.eqv p q := by
  unfold eqT at h
  split at h
  · rename_i p q h1 h2
    split at h
    · rename_i hs
      rw [Bool.and_eq_true] at hs
      cases h
      exact ⟨p, q, h1, h2, hs.1, hs.2, rfl⟩
    · cases h
  · cases h
theorem inT_inv {d : T} {es : List T} {b : Bool} (h : inT d es = some b) : ∃ p qs, d.pd = some p ∧ T.pdL es = some qs ∧ SeqAt.shaped p = true ∧ PyData.canLayAll0 qs = true ∧ b = qs.any fun z => PyData.eqv z p := by
  unfold inT at h
  split at h
  · rename_i p q h1 h2
    split at h
    · rename_i hs
      rw [Bool.and_eq_true] at hs
      cases h
      exact ⟨p, q, h1, h2, hs.1, hs.2, rfl⟩
    · cases h
  · cases h
theorem keyT_v {K : PySem.W.Frag} {G H : Hp} {v : V} {d : T} {k : Key} (h : Vw K G H v d) (e : keyT d = some k) : v = kV k := by
  unfold keyT at e
  split at e
  · cases e; exact h.int_inv
  · cases e; exact h.str_inv
  · cases e
theorem keyT_r {K : PySem.W.Frag} {G : Hp} {v : V} {d : T} {k : Key} (h : Rp K G v d) (e : keyT d = some k) : v = kV k := keyT_v (H := G) (.r h) e
theorem keysT_r {K : PySem.W.Frag} {G : Hp} : ∀ {ds : List T} {vs : List V} {ks : List Key}, RpL K G vs ds → keysT ds = some ks → vs = ks.map kV
  | [], _, _, h, e => by cases h; unfold keysT at e; cases e; rfl
  | d :: r, _, _, h, e => by
    cases h with
    | cons h1 h2 =>
      unfold keysT at e
      cases e1 : keyT d with
      | none => rw [e1] at e; cases e
      | some k =>
        cases e2 : keysT r with
        | none => rw [e1, e2] at e; cases e
        | some ks => rw [e1, e2] at e; cases e; rw [keyT_r h1 e1, keysT_r h2 e2]; rfl
/-- what a dict holds -/
theorem getT_ok {K : PySem.W.Frag} {G H : Hp} (f : Fz G H) {x y : V} {d e : T} {o : Option T} (hx : Vw K G H x d) (hy : Vw K G H y e) (h : getT d e = some o) :
    ∃ a vo, x = .ref a ∧ DGet H a y vo ∧ ((o = none ∧ vo = none) ∨ ∃ v t, o = some t ∧ vo = some v ∧ Rp K G v t) := by
  unfold getT at h
  split at h
  · obtain ⟨a, xs, rfl, h1, h2⟩ := hx.dK_inv f
    cases hk : keyT e with
    | none => rw [hk] at h; cases h
    | some k =>
      rw [hk] at h; cases h
      have ey := keyT_v hy hk
      subst ey
      refine ⟨a, valV xs k, rfl, .inl ⟨xs, k, h1, rfl, rfl⟩, ?_⟩
      rcases h2.val k with ⟨e1, e2⟩ | ⟨v, t, e1, e2, r⟩
      · exact .inl ⟨e1, e2⟩
      · exact .inr ⟨v, t, e1, e2, r⟩
  · rename_i kvs ds
    obtain ⟨a, xs, rfl, h1, h2⟩ := hx.dT_inv f
    obtain ⟨b, ys, rfl, h3, h4⟩ := hy.tup_inv f
    cases hk : keysT ds with
    | none => rw [hk] at h; cases h
    | some k =>
      rw [hk] at h; cases h
      have ey := keysT_r h4 hk
      subst ey
      refine ⟨a, valV xs k, rfl, .inr ⟨xs, k, b, h1, rfl, h3, rfl⟩, ?_⟩
      rcases h2.val k with ⟨e1, e2⟩ | ⟨v, t, e1, e2, r⟩
      · exact .inl ⟨e1, e2⟩
      · exact .inr ⟨v, t, e1, e2, r⟩
  · cases h
theorem isNon_ok {K : PySem.W.Frag} {G H : Hp} {x : V} {d : T} (hx : Vw K G H x d) : decide (x = V.non) = isNonT d := by
  cases hx with
  | r h => cases h <;> first | rfl | (unfold isNonT; exact decide_eq_true rfl) | (unfold isNonT; exact decide_eq_false (by intro z; cases z))
  | lst _ _ => exact decide_eq_false (by intro z; cases z)
  | dK _ _ => exact decide_eq_false (by intro z; cases z)
  | dT _ _ => exact decide_eq_false (by intro z; cases z)
theorem op_cmp (hu : X.A.units + 65 < cLine) (op : CmpOp) : OpR X (compareOp op) (rCm X.K op) := by
  have hu1 : X.A.units + 1 < cLine := by omega
  have hu64 : X.A.units + 64 < cLine := by omega
  refine OpR.pick (ι := Unit) ?_
  rintro x y H Q ⟨G, d, e, b, f, hx, hy, hb, q⟩
  have dct : ∀ {d' e' : T} {x' y' : V} {o : Option T}, Vw X.K G H x' d' → Vw X.K G H y' e' → getT e' d' = some o → ∃ a vo, y' = .ref a ∧ DGet H a x' vo ∧ vo.isSome = o.isSome := fun {d' e' x' y' o} h1 h2 h3 => by
    obtain ⟨a, vo, e1, e2, e3⟩ := getT_ok f h2 h1 h3
    refine ⟨a, vo, e1, e2, ?_⟩
    rcases e3 with ⟨z1, z2⟩ | ⟨v, t, z1, z2, _⟩ <;> rw [z1, z2] <;> rfl
  unfold cmpT at hb
  split at hb
  · cases hx.int_inv; cases hy.int_inv; cases hb; exact ⟨_, op_lt, _, _, rfl, rfl, q⟩
  · cases hx.int_inv; cases hy.int_inv; cases hb; exact ⟨_, op_le, _, _, rfl, rfl, q⟩
  · cases hx.int_inv; cases hy.int_inv; cases hb; exact ⟨_, op_gt, _, _, rfl, rfl, q⟩
  · cases hx.int_inv; cases hy.int_inv; cases hb; exact ⟨_, op_ge, _, _, rfl, rfl, q⟩
  · cases hx.str_inv; cases hy.str_inv; cases hb; exact ⟨_, op_lt_str, _, _, rfl, rfl, q⟩
  · obtain ⟨p, p', e1, e2, e3, e4, rfl⟩ := eqT_inv hb
    exact ⟨_, op_eqD hu64, p, p', hx.dp f e1, hy.dp f e2, e3, e4, q⟩
  · obtain ⟨b', hb', rfl⟩ := Option.map_eq_some_iff.mp hb
    obtain ⟨p, p', e1, e2, e3, e4, rfl⟩ := eqT_inv hb'
    exact ⟨_, op_neD hu64, p, p', hx.dp f e1, hy.dp f e2, e3, e4, q⟩
  · cases hy.non_inv; cases hb
    exact ⟨_, op_isN, rfl, by rw [isNon_ok hx]; exact q⟩
  · cases hy.non_inv; cases hb
    exact ⟨_, op_notN, rfl, by rw [isNon_ok hx]; exact q⟩
  · cases hx.str_inv; cases hy.str_inv; cases hb; exact ⟨_, op_in_str, _, _, rfl, rfl, q⟩
  · cases hx.str_inv; cases hy.str_inv; cases hb; exact ⟨_, op_notIn_str, _, _, rfl, rfl, q⟩
  · obtain ⟨p, qs, e1, e2, e3, e4, rfl⟩ := inT_inv hb
    exact ⟨_, op_inDT hu, p, qs, hx.dp f e1, .inl (hy.dp f (by unfold T.pd; rw [e2])), e3, e4, q⟩
  · obtain ⟨p, qs, e1, e2, e3, e4, rfl⟩ := inT_inv hb
    exact ⟨_, op_inDT hu, p, qs, hx.dp f e1, .inr (hy.dp f (by unfold T.pd; rw [e2])), e3, e4, q⟩
  · obtain ⟨b', hb', rfl⟩ := Option.map_eq_some_iff.mp hb
    obtain ⟨p, qs, e1, e2, e3, e4, rfl⟩ := inT_inv hb'
    exact ⟨_, op_notInDT hu, p, qs, hx.dp f e1, .inl (hy.dp f (by unfold T.pd; rw [e2])), e3, e4, q⟩
  · obtain ⟨b', hb', rfl⟩ := Option.map_eq_some_iff.mp hb
    obtain ⟨p, qs, e1, e2, e3, e4, rfl⟩ := inT_inv hb'
    exact ⟨_, op_notInDT hu, p, qs, hx.dp f e1, .inr (hy.dp f (by unfold T.pd; rw [e2])), e3, e4, q⟩
  · obtain ⟨o, ho, rfl⟩ := Option.map_eq_some_iff.mp hb
    obtain ⟨a, vo, rfl, g, e⟩ := dct hx hy ho
    exact ⟨_, op_inDct hu1, a, vo, rfl, g, by rw [e]; exact q⟩
  · obtain ⟨o, ho, rfl⟩ := Option.map_eq_some_iff.mp hb
    obtain ⟨a, vo, rfl, g, e⟩ := dct hx hy ho
    exact ⟨_, op_inDct hu1, a, vo, rfl, g, by rw [e]; exact q⟩
  · obtain ⟨o, ho, rfl⟩ := Option.map_eq_some_iff.mp hb
    obtain ⟨a, vo, rfl, g, e⟩ := dct hx hy ho
    exact ⟨_, op_notInDct hu1, a, vo, rfl, g, by rw [e]; exact q⟩
  · obtain ⟨o, ho, rfl⟩ := Option.map_eq_some_iff.mp hb
    obtain ⟨a, vo, rfl, g, e⟩ := dct hx hy ho
    exact ⟨_, op_notInDct hu1, a, vo, rfl, g, by rw [e]; exact q⟩
  · cases hb

/-! ### truth, subscripts, slices, len -/
theorem tru_T {G H : Hp} {x : V} {d : T} {b : Bool} (f : Fz G H) (hx : Vw X.K G H x d) (h : truT d = some b) : TruV X.K x H b := by
  have emp : ∀ {xs : List V} {ds : List T}, RpL X.K G xs ds → (!xs.isEmpty) = !ds.isEmpty := fun {xs ds} r => by cases r <;> rfl
  unfold truT at h
  split at h
  · cases h; cases hx.non_inv; rfl
  · cases h; cases hx.bl_inv; rfl
  · cases h; cases hx.int_inv; rfl
  · split at h
    · rename_i hl
      cases h; cases hx.str_inv
      exact ⟨by rw [← line_eq]; exact hl, rfl⟩
    · cases h
  · cases h
    obtain ⟨a, xs, rfl, h1, h2⟩ := hx.lst_inv f
    exact .inl ⟨xs, .inl h1, (emp h2).symm⟩
  · cases h
    obtain ⟨a, rfl, h1⟩ := hx.scr_inv f
    exact .inl ⟨_, h1, by simp⟩
  · cases h
    obtain ⟨a, xs, rfl, h1, h2⟩ := hx.tup_inv f
    exact .inr (.inl ⟨xs, SqT.of h1, (emp h2).symm⟩)
  · cases h
theorem atI_map {α β : Type} (g : α → β) (xs : List α) (i : Int) : atI (xs.map g) i = (atI xs i).map g := by
  unfold atI
  rw [List.length_map]
  cases ixN xs.length i with
  | none => rfl
  | some j => simp
theorem atI_rp {K : PySem.W.Frag} {G : Hp} {vs : List V} {ds : List T} {i : Int} {t : T} (r : RpL K G vs ds) (h : atI ds i = some t) : ∃ v, atI vs i = some v ∧ Rp K G v t := by
  unfold atI at h ⊢
  rw [r.length]
  cases hj : ixN ds.length i with
  | none => rw [hj] at h; cases h
  | some j =>
    rw [hj] at h
    exact r.get h
theorem IxR.pick {r : R2} (h : ∀ x y H Q, r x y H Q → ∃ r', IxR X r' ∧ r' x y H Q) : IxR X r :=
  fun a b pins s σ H x y v u Q I rx ry z w => let ⟨_, h1, h2⟩ := h x y H Q z; h1 a b pins s σ H x y v u Q I rx ry h2 w
theorem ix_dct (hu : X.A.units + 1 < cLine) : IxR X (fun x y H Q => ∃ a v, x = .ref a ∧ DGet H a y (some v) ∧ Q v H) := by
  intro value slice pins s σ H x y v u Q I rx ry h hs
  obtain ⟨a, z, rfl, g, q⟩ := h
  cases rx
  exact tail_any (dict_typeIs I g) PySem.F.slot_dict_getitem.lookup (d_getItem hu I g ry fun w' s3 I3 rw' => ⟨z, H, I3, rw', q⟩) hs
theorem ix_T (hu : X.A.units + 1 < cLine) : IxR X (rO2 X.K idxT) := by
  refine IxR.pick ?_
  rintro x y H Q ⟨G, d, e, r, f, hx, hy, hb, q⟩
  have dct : ∀ {o : Option T}, getT d e = some o → o = some r → ∃ a v, x = .ref a ∧ DGet H a y (some v) ∧ Q v H := fun {o} h1 h2 => by
    obtain ⟨a, vo, e1, e2, e3⟩ := getT_ok f hx hy h1
    rcases e3 with ⟨z1, z2⟩ | ⟨v, t, z1, z2, z3⟩
    · rw [z1] at h2; cases h2
    · rw [z1] at h2; cases h2; subst z2
      exact ⟨a, v, e1, e2, al0 f q z3⟩
  unfold idxT at hb
  split at hb
  · obtain ⟨a, xs, rfl, h1, h2⟩ := hx.lst_inv f
    cases hy.int_inv
    obtain ⟨v, e1, e2⟩ := atI_rp h2 hb
    exact ⟨_, ix_list, a, xs, _, v, rfl, rfl, .inl h1, e1, al0 f q e2⟩
  · obtain ⟨a, rfl, h1⟩ := hx.scr_inv f
    cases hy.int_inv
    obtain ⟨n, e1, rfl⟩ := Option.map_eq_some_iff.mp hb
    exact ⟨_, ix_list, a, _, _, .int n, rfl, rfl, h1, by rw [atI_map, e1]; rfl, al0 f q (.int _)⟩
  · obtain ⟨a, xs, rfl, h1, h2⟩ := hx.tup_inv f
    cases hy.int_inv
    obtain ⟨v, e1, e2⟩ := atI_rp h2 hb
    exact ⟨_, ix_tup, a, xs, _, v, rfl, rfl, SqT.of h1, e1, al0 f q e2⟩
  · cases hx.str_inv; cases hy.int_inv
    split at hb
    · rename_i hl
      obtain ⟨c, e1, rfl⟩ := Option.map_eq_some_iff.mp hb
      exact ⟨_, ix_str, _, _, c, rfl, rfl, by rw [← line_eq]; exact hl, e1, al0 f q (.str _)⟩
    · cases hb
  · obtain ⟨o, h1, h2⟩ := Option.join_eq_some_iff.mp hb |> fun z => (⟨some r, z, rfl⟩ : ∃ o, _ = some o ∧ o = some r)
    exact ⟨_, ix_dct hu, dct h1 h2⟩
  · obtain ⟨o, h1, h2⟩ := Option.join_eq_some_iff.mp hb |> fun z => (⟨some r, z, rfl⟩ : ∃ o, _ = some o ∧ o = some r)
    exact ⟨_, ix_dct hu, dct h1 h2⟩
  · cases hb
theorem cut_rp {K : PySem.W.Frag} {G : Hp} {vs : List V} {ds : List T} (lo hi : Option Int) (r : RpL K G vs ds) : RpL K G (cutV vs lo hi) (cutL ds lo hi) := by
  unfold cutV cutL
  rw [r.length]
  exact (r.drop _).take _
def rSlG (K : PySem.W.Frag) : V → Option Int → Option Int → Hp → VK → Prop := fun x lo hi H Q => ∃ G d r, Fz G H ∧ Vw K G H x d ∧ slT d lo hi = some r ∧ ∀ v H' G', Al G H G' H' → Rp K G' v r → Q v H'
theorem SlR.pick {r : V → Option Int → Option Int → Hp → VK → Prop} (h : ∀ x lo hi H Q, r x lo hi H Q → ∃ r', SlR X r' ∧ r' x lo hi H Q) : SlR X r :=
  fun pins s σ H x v vl vu lo hi sl Q I rx hs pl pu z => let ⟨_, h1, h2⟩ := h x lo hi H Q z; h1 pins s σ H x v vl vu lo hi sl Q I rx hs pl pu h2
theorem sl_G : SlR X (rSlG X.K) := by
  refine SlR.pick ?_
  rintro x lo hi H Q ⟨G, d, r, f, hx, hb, q⟩
  unfold slT at hb
  split at hb
  · cases hb
    obtain ⟨a, xs, rfl, h1, h2⟩ := hx.lst_inv f
    exact ⟨_, sl_list, a, xs, rfl, .inl h1, alL f q (cut_rp _ _ h2)⟩
  · cases hb
    obtain ⟨a, rfl, h1⟩ := hx.scr_inv f
    refine ⟨_, sl_list, a, _, rfl, h1, alL f q ?_⟩
    have e : ∀ (ns : List Int), cutV (ns.map V.int) lo hi = (cutL ns lo hi).map V.int := fun ns => by
      unfold cutV cutL
      rw [List.length_map, List.map_take, List.map_drop]
    rw [e]
    exact RpL.ints _
  · cases hb
    obtain ⟨a, xs, rfl, h1, h2⟩ := hx.tup_inv f
    have hx' := hx.tup_r
    refine ⟨_, sl_tupA, a, xs, rfl, SqT.of h1, fun e => ?_, fun _ => alT f q (cut_rp _ _ h2)⟩
    refine al0 f q ?_
    have e2 : ∀ ds : List T, xs.length = ds.length → cutL ds lo hi = ds := fun ds hl => by
      unfold cutL
      rw [← hl, e.1, e.2, hl, Nat.sub_zero, List.drop_zero, List.take_length]
    rw [e2 _ h2.length]
    exact hx'
  · cases hx.str_inv
    split at hb
    · rename_i hl
      cases hb
      exact ⟨_, sl_str, _, rfl, by rw [← line_eq]; exact hl, al0 f q (.str _)⟩
    · cases hb
  · cases hb
end
end Qq

set_option maxHeartbeats 4000000
/-! Q3: built-in functions and methods. -/
namespace Qq
open PySem PySem.Spec PyProof.Rows L2

def boolsT : List T → Option (List Bool)
  | [] => some []
  | .bl b :: r => (boolsT r).map fun bs => b :: bs
  | _ :: _ => none
def intsT : List T → Option (List Int)
  | [] => some []
  | .int i :: r => (intsT r).map fun bs => i :: bs
  | _ :: _ => none
def strsT : List T → Option (List Str)
  | [] => some []
  | .str i :: r => (strsT r).map fun bs => i :: bs
  | _ :: _ => none
theorem boolsT_inv : ∀ {ds : List T} {bs : List Bool}, boolsT ds = some bs → ds = bs.map T.bl
  | [], _, h => by cases h; rfl
  | d :: r, bs, h => by
    cases d <;> first | cases h | skip
    unfold boolsT at h
    obtain ⟨b', h1, rfl⟩ := Option.map_eq_some_iff.mp h
    rw [boolsT_inv h1]; rfl
theorem intsT_inv : ∀ {ds : List T} {bs : List Int}, intsT ds = some bs → ds = bs.map T.int
  | [], _, h => by cases h; rfl
  | d :: r, bs, h => by
    cases d <;> first | cases h | skip
    unfold intsT at h
    obtain ⟨b', h1, rfl⟩ := Option.map_eq_some_iff.mp h
    rw [intsT_inv h1]; rfl
theorem strsT_inv : ∀ {ds : List T} {bs : List Str}, strsT ds = some bs → ds = bs.map T.str
  | [], _, h => by cases h; rfl
  | d :: r, bs, h => by
    cases d <;> first | cases h | skip
    unfold strsT at h
    obtain ⟨b', h1, rfl⟩ := Option.map_eq_some_iff.mp h
    rw [strsT_inv h1]; rfl
theorem boolsT_map : ∀ bs : List Bool, boolsT (bs.map T.bl) = some bs
  | [] => rfl
  | b :: r => by show (boolsT (r.map T.bl)).map _ = _; rw [boolsT_map r]; rfl
theorem intsT_map : ∀ bs : List Int, intsT (bs.map T.int) = some bs
  | [] => rfl
  | b :: r => by show (intsT (r.map T.int)).map _ = _; rw [intsT_map r]; rfl
theorem strsT_map : ∀ bs : List Str, strsT (bs.map T.str) = some bs
  | [] => rfl
  | b :: r => by show (strsT (r.map T.str)).map _ = _; rw [strsT_map r]; rfl

/-! ### sorting -/
section
variable {α : Type} (le : α → α → Bool)
def insT (x : α) : List α → List α
  | [] => [x]
  | y :: r => if le x y then x :: y :: r else y :: insT x r
def srtT : List α → List α
  | [] => []
  | x :: r => insT le x (srtT r)
theorem insT_perm (x : α) : ∀ l : List α, (insT le x l).Perm (x :: l)
  | [] => .refl _
  | y :: r => by
    unfold insT
    split
    · exact .refl _
    · exact ((insT_perm x r).cons y).trans (.swap x y r)
theorem srtT_perm : ∀ l : List α, (srtT le l).Perm l
  | [] => .refl _
  | x :: r => (insT_perm le x _).trans ((srtT_perm r).cons x)
theorem insT_sorted (tot : ∀ x y, le x y = true ∨ le y x = true) (tr : ∀ x y z, le x y = true → le y z = true → le x z = true) (x : α) : ∀ l : List α, l.Pairwise (fun a b => le a b = true) → (insT le x l).Pairwise (fun a b => le a b = true)
  | [], _ => by unfold insT; exact List.pairwise_cons.mpr ⟨fun _ h => (nomatch h), .nil⟩
  | y :: r, h => by
    obtain ⟨h1, h2⟩ := List.pairwise_cons.mp h
    unfold insT
    split
    · rename_i hxy
      refine List.pairwise_cons.mpr ⟨fun z hz => ?_, h⟩
      rcases List.mem_cons.mp hz with rfl | hz
      · exact hxy
      · exact tr _ _ _ hxy (h1 z hz)
    · rename_i hxy
      have hyx : le y x = true := (tot x y).resolve_left hxy
      refine List.pairwise_cons.mpr ⟨fun z hz => ?_, insT_sorted tot tr x r h2⟩
      rcases List.mem_cons.mp ((insT_perm le x r).mem_iff.mp hz) with rfl | hz
      · exact hyx
      · exact h1 z hz
theorem srtT_sorted (tot : ∀ x y, le x y = true ∨ le y x = true) (tr : ∀ x y z, le x y = true → le y z = true → le x z = true) : ∀ l : List α, (srtT le l).Pairwise (fun a b => le a b = true)
  | [] => .nil
  | x :: r => insT_sorted le tot tr x _ (srtT_sorted tot tr r)
end
def leI (i j : Int) : Bool := decide (i ≤ j)
def leS (x y : Str) : Bool := decide (x.cps.toList ≤ y.cps.toList)
def srtI (ns : List Int) : List Int := srtT leI ns
def srtS (ns : List Str) : List Str := srtT leS ns
theorem srtI_one {ns ns' : List Int} (hp : ns'.Perm ns) (hs : ns'.Pairwise (· ≤ ·)) : ns' = srtI ns := by
  have h2 : (srtI ns).Pairwise (· ≤ ·) := (srtT_sorted leI (fun x y => by simp only [leI, decide_eq_true_eq]; omega) (fun x y z => by simp only [leI, decide_eq_true_eq]; omega) ns).imp fun h => by simpa [leI] using h
  exact List.Perm.eq_of_pairwise (fun x y _ _ h1 h2 => Int.le_antisymm h1 h2) hs h2 (hp.trans (srtT_perm leI ns).symm)
theorem str_ext {x y : Str} (h : x.cps.toList = y.cps.toList) : x = y := by
  cases x; cases y
  congr
  exact Array.toList_inj.mp h
theorem leS_tot (x y : Str) : leS x y = true ∨ leS y x = true := by
  simp only [leS, decide_eq_true_eq]
  exact List.le_total _ _
theorem leS_tr (x y z : Str) (h1 : leS x y = true) (h2 : leS y z = true) : leS x z = true := by
  simp only [leS, decide_eq_true_eq] at h1 h2 ⊢
  exact List.le_trans h1 h2
theorem srtS_one {ns ns' : List Str} (hp : ns'.Perm ns) (hs : ns'.Pairwise (fun a b => leS a b = true)) : ns' = srtS ns := by
  have h2 := srtT_sorted leS leS_tot leS_tr ns
  exact List.Perm.eq_of_pairwise (fun x y _ _ h1 h2 => str_ext (by simp only [leS, decide_eq_true_eq] at h1 h2; exact List.le_antisymm h1 h2)) hs h2 (hp.trans (srtT_perm leS ns).symm)
theorem risingS_pw : ∀ (r : List Str) (p : Str), risingS p r = true → (p :: r).Pairwise (fun a b => leS a b = true)
  | [], p, _ => List.pairwise_cons.mpr ⟨fun _ h => (nomatch h), .nil⟩
  | x :: r, p, h => by
    unfold risingS at h
    rw [Bool.and_eq_true, ltCps_eq] at h
    have h1 : leS p x = true := by
      have h2 : ¬ x.cps.toList < p.cps.toList := by simpa using h.1
      simp only [leS, decide_eq_true_eq]
      exact List.not_lt.mp h2
    have ih := risingS_pw r x h.2
    refine List.pairwise_cons.mpr ⟨fun z hz => ?_, ih⟩
    rcases List.mem_cons.mp hz with rfl | hz
    · exact h1
    · exact leS_tr _ _ _ h1 ((List.pairwise_cons.mp ih).1 z hz)
theorem sortedS_pw : ∀ (l : List Str), sortedS l = true → l.Pairwise (fun a b => leS a b = true)
  | [], _ => .nil
  | x :: r, h => risingS_pw r x h

/-! ### built-in functions -/
inductive BI where
  | len | abs | int | str | min2 | max2 | all | any | sum | list | tuple | sorted | minL | maxL
  deriving DecidableEq
def biT : BI → List T → Option T
  | .len, [d] => (lenT d).map fun (n : Nat) => .int (n : Int)
  | .abs, [.int i] => some (.int (if i < 0 then -i else i))
  | .int, [.int i] => some (.int i)
  | .int, [.bl k] => some (.int (if k then 1 else 0))
  | .str, [.int i] => if i.natAbs.log2 < 1920 then some (.str (toString i : Str)) else none
  | .min2, [.int i, .int j] => some (.int (if j < i then j else i))
  | .max2, [.int i, .int j] => some (.int (if j > i then j else i))
  | .all, [.lst ds] => (boolsT ds).map fun bs => .bl (bs.all id)
  | .any, [.lst ds] => (boolsT ds).map fun bs => .bl (bs.any id)
  | .sum, [.lst ds] => (intsT ds).map fun ns => .int ns.sum
  | .list, [.lst ds] => some (.lst ds)
  | .list, [.tup ds] => some (.lst ds)
  | .list, [.scr ns] => some (.lst (ns.map T.int))
  | .tuple, [.lst ds] => some (.tup ds)
  | .tuple, [.tup ds] => some (.tup ds)
  | .sorted, [.lst ds] => if ds.length < 64 then match intsT ds with
    | some ns => some (.lst ((srtI ns).map T.int))
    | none => (strsT ds).map fun ss => .lst ((srtS ss).map T.str)
    else none
  | .minL, [.lst ds] => match intsT ds with
    | some (n :: ns) => some (.int (ns.foldl min n))
    | _ => none
  | .maxL, [.lst ds] => match intsT ds with
    | some (n :: ns) => some (.int (ns.foldl max n))
    | _ => none
  | _, _ => none
/-- the name, and what it stands for -/
def BI.nm : BI → Str
  | .len => "len" | .abs => "abs" | .int => "int" | .str => "str" | .min2 => "min" | .max2 => "max" | .all => "all" | .any => "any" | .sum => "sum" | .list => "list" | .tuple => "tuple" | .sorted => "sorted" | .minL => "min" | .maxL => "max"
def BI.vl : BI → Value
  | .len => .builtin "len" | .abs => .builtin "abs" | .int => .type "int" | .str => .type "str" | .min2 => .builtin "min" | .max2 => .builtin "max" | .all => .builtin "all" | .any => .builtin "any" | .sum => .builtin "sum" | .list => .type "list" | .tuple => .type "tuple"
  | .sorted => .builtin "sorted" | .minL => .builtin "min" | .maxL => .builtin "max"
theorem BI.boot (b : BI) : bootBuiltins b.nm = some b.vl := by cases b <;> decide +kernel

section
variable {X : Cx}
theorem CallR.pick {f : Value} {r : List V → Hp → VK → Prop} (h : ∀ xs H Q, r xs H Q → ∃ r', CallR X f r' ∧ r' xs H Q) : CallR X f r :=
  fun pins s σ H xs us Q I rx z => let ⟨_, h1, h2⟩ := h xs H Q z; h1 pins s σ H xs us Q I rx h2
theorem VwL.one {K : PySem.W.Frag} {G H : Hp} {xs : List V} {d : T} (h : VwL K G H xs [d]) : ∃ x, xs = [x] ∧ Vw K G H x d := by
  cases h with | cons h t => cases t; exact ⟨_, rfl, h⟩
theorem VwL.two {K : PySem.W.Frag} {G H : Hp} {xs : List V} {d e : T} (h : VwL K G H xs [d, e]) : ∃ x y, xs = [x, y] ∧ Vw K G H x d ∧ Vw K G H y e := by
  cases h with | cons h t => cases t with | cons h' t => cases t; exact ⟨_, _, rfl, h, h'⟩
theorem call_len_d : CallR X (.builtin "len") (fun xs H Q => ∃ a kvs, xs = [.ref a] ∧ Rd H a (.dK kvs) ∧ Q (.int kvs.length) H) := by
  intro pins s σ H xs us Q I r h
  obtain ⟨a, kvs, rfl, h1, q⟩ := h
  obtain ⟨u, rfl, ru⟩ := vals1 r
  cases ru
  exact d_len I h1 fun t s' I' => ⟨.int kvs.length, H, I', ⟨t, rfl⟩, q⟩
theorem len_T {G H : Hp} {x : V} {d : T} {n : Nat} (f : Fz G H) (hx : Vw X.K G H x d) (h : lenT d = some n) : LenV X.K x H n ∨ ∃ a kvs, x = .ref a ∧ Rd H a (.dK kvs) ∧ n = kvs.length := by
  unfold lenT at h
  split at h
  · cases h; obtain ⟨a, xs, rfl, h1, h2⟩ := hx.lst_inv f
    exact .inl (.inl ⟨xs, .inl h1, h2.length.symm⟩)
  · cases h; obtain ⟨a, rfl, h1⟩ := hx.scr_inv f
    exact .inl (.inl ⟨_, h1, by rw [List.length_map]⟩)
  · cases h; obtain ⟨a, xs, rfl, h1, h2⟩ := hx.tup_inv f
    exact .inl (.inr ⟨xs, SqT.of h1, h2.length.symm⟩)
  · split at h
    · rename_i hl
      cases h; cases hx.str_inv
      exact .inl ⟨by rw [← line_eq]; exact hl, rfl⟩
    · cases h
  · cases h; obtain ⟨a, xs, rfl, h1, h2⟩ := hx.dK_inv f
    exact .inr ⟨a, xs, rfl, h1, h2.length.symm⟩
  · cases h
theorem foldl_min_le : ∀ (ns : List Int) (n : Int), ns.foldl min n ≤ n ∧ (∀ y ∈ ns, ns.foldl min n ≤ y) ∧ (ns.foldl min n = n ∨ ns.foldl min n ∈ ns)
  | [], n => ⟨Int.le_refl _, fun _ h => (nomatch h), .inl rfl⟩
  | a :: r, n => by
    obtain ⟨h1, h2, h3⟩ := foldl_min_le r (min n a)
    rw [List.foldl_cons]
    refine ⟨by omega, fun y hy => ?_, ?_⟩
    · rcases List.mem_cons.mp hy with rfl | hy
      · omega
      · exact h2 y hy
    · rcases h3 with h3 | h3
      · rw [h3]
        by_cases h : n ≤ a
        · exact .inl (by omega)
        · exact .inr (List.mem_cons.mpr (.inl (by omega)))
      · exact .inr (List.mem_cons.mpr (.inr h3))
theorem foldl_max_le : ∀ (ns : List Int) (n : Int), n ≤ ns.foldl max n ∧ (∀ y ∈ ns, y ≤ ns.foldl max n) ∧ (ns.foldl max n = n ∨ ns.foldl max n ∈ ns)
  | [], n => ⟨Int.le_refl _, fun _ h => (nomatch h), .inl rfl⟩
  | a :: r, n => by
    obtain ⟨h1, h2, h3⟩ := foldl_max_le r (max n a)
    rw [List.foldl_cons]
    refine ⟨by omega, fun y hy => ?_, ?_⟩
    · rcases List.mem_cons.mp hy with rfl | hy
      · omega
      · exact h2 y hy
    · rcases h3 with h3 | h3
      · rw [h3]
        by_cases h : a ≤ n
        · exact .inl (by omega)
        · exact .inr (List.mem_cons.mpr (.inl (by omega)))
      · exact .inr (List.mem_cons.mpr (.inr h3))
theorem foldl_min_one {n m : Int} {ns : List Int} (hm : m ∈ n :: ns) (hl : ∀ y, y ∈ n :: ns → m ≤ y) : m = ns.foldl min n := by
  obtain ⟨h1, h2, h3⟩ := foldl_min_le ns n
  have e1 : ns.foldl min n ≤ m := by
    rcases List.mem_cons.mp hm with rfl | hm
    · exact h1
    · exact h2 m hm
  have e2 : m ≤ ns.foldl min n := by
    rcases h3 with h3 | h3
    · rw [h3]; exact hl _ List.mem_cons_self
    · exact hl _ (List.mem_cons_of_mem _ h3)
  omega
theorem foldl_max_one {n m : Int} {ns : List Int} (hm : m ∈ n :: ns) (hl : ∀ y, y ∈ n :: ns → y ≤ m) : m = ns.foldl max n := by
  obtain ⟨h1, h2, h3⟩ := foldl_max_le ns n
  have e1 : m ≤ ns.foldl max n := by
    rcases List.mem_cons.mp hm with rfl | hm
    · exact h1
    · exact h2 m hm
  have e2 : ns.foldl max n ≤ m := by
    rcases h3 with h3 | h3
    · rw [h3]; exact hl _ List.mem_cons_self
    · exact hl _ (List.mem_cons_of_mem _ h3)
  omega
theorem bi_ok (hc : X.calm = true) (b : BI) : CallR X b.vl (rC X.K (biT b)) := by
  refine CallR.pick ?_
  rintro xs H Q ⟨G, ds, r, f, hx, hb, q⟩
  unfold biT at hb
  split at hb
  · obtain ⟨x, rfl, h1⟩ := hx.one
    obtain ⟨n, hn, rfl⟩ := Option.map_eq_some_iff.mp hb
    rcases len_T f h1 hn with h | ⟨a, kvs, rfl, h, rfl⟩
    · exact ⟨_, call_len, x, n, rfl, h, al0 f q (.int _)⟩
    · exact ⟨_, call_len_d, a, kvs, rfl, h, al0 f q (.int _)⟩
  · obtain ⟨x, rfl, h1⟩ := hx.one
    cases h1.int_inv; cases hb
    exact ⟨_, call_abs, _, rfl, al0 f q (.int _)⟩
  · obtain ⟨x, rfl, h1⟩ := hx.one
    cases h1.int_inv; cases hb
    exact ⟨_, call_int1, .inl ⟨_, rfl, al0 f q (.int _)⟩⟩
  · obtain ⟨x, rfl, h1⟩ := hx.one
    cases h1.bl_inv; cases hb
    exact ⟨_, call_int1, .inr ⟨_, rfl, al0 f q (.int _)⟩⟩
  · obtain ⟨x, rfl, h1⟩ := hx.one
    cases h1.int_inv
    split at hb
    · rename_i hl; cases hb
      exact ⟨_, call_str_int, _, rfl, hl, al0 f q (.str _)⟩
    · cases hb
  · obtain ⟨x, y, rfl, h1, h2⟩ := hx.two
    cases h1.int_inv; cases h2.int_inv; cases hb
    exact ⟨_, call_min2 hc, _, _, rfl, al0 f q (.int _)⟩
  · obtain ⟨x, y, rfl, h1, h2⟩ := hx.two
    cases h1.int_inv; cases h2.int_inv; cases hb
    exact ⟨_, call_max2 hc, _, _, rfl, al0 f q (.int _)⟩
  · obtain ⟨x, rfl, h1⟩ := hx.one
    obtain ⟨bs, hn, rfl⟩ := Option.map_eq_some_iff.mp hb
    obtain ⟨a, ys, rfl, h2, h3⟩ := h1.lst_inv f
    rw [boolsT_inv hn] at h3
    rw [h3.bls_inv] at h2
    exact ⟨_, cr_all hc, a, bs, rfl, .inl h2, al0 f q (.bl _)⟩
  · obtain ⟨x, rfl, h1⟩ := hx.one
    obtain ⟨bs, hn, rfl⟩ := Option.map_eq_some_iff.mp hb
    obtain ⟨a, ys, rfl, h2, h3⟩ := h1.lst_inv f
    rw [boolsT_inv hn] at h3
    rw [h3.bls_inv] at h2
    exact ⟨_, cr_any hc, a, bs, rfl, .inl h2, al0 f q (.bl _)⟩
  · obtain ⟨x, rfl, h1⟩ := hx.one
    obtain ⟨bs, hn, rfl⟩ := Option.map_eq_some_iff.mp hb
    obtain ⟨a, ys, rfl, h2, h3⟩ := h1.lst_inv f
    rw [intsT_inv hn] at h3
    rw [h3.ints_inv] at h2
    exact ⟨_, cr_sum hc, a, bs, rfl, .inl h2, al0 f q (.int _)⟩
  · obtain ⟨x, rfl, h1⟩ := hx.one
    cases hb
    obtain ⟨a, ys, rfl, h2, h3⟩ := h1.lst_inv f
    exact ⟨_, call_list_of, a, ys, rfl, .inl (.inl h2), alL f q h3⟩
  · obtain ⟨x, rfl, h1⟩ := hx.one
    cases hb
    obtain ⟨a, ys, rfl, h2, h3⟩ := h1.tup_inv f
    exact ⟨_, call_list_of, a, ys, rfl, .inr (SqT.of h2), alL f q h3⟩
  · obtain ⟨x, rfl, h1⟩ := hx.one
    cases hb
    obtain ⟨a, rfl, h2⟩ := h1.scr_inv f
    exact ⟨_, call_list_of, a, _, rfl, .inl h2, alL f q (RpL.ints _)⟩
  · obtain ⟨x, rfl, h1⟩ := hx.one
    cases hb
    obtain ⟨a, ys, rfl, h2, h3⟩ := h1.lst_inv f
    exact ⟨_, call_tuple_of, a, ys, rfl, .inl ⟨.inl h2, alT f q h3⟩⟩
  · obtain ⟨x, rfl, h1⟩ := hx.one
    cases hb
    have h0 := h1.tup_r
    obtain ⟨a, ys, rfl, h2, h3⟩ := h1.tup_inv f
    exact ⟨_, call_tuple_of, a, ys, rfl, .inr ⟨SqT.of h2, al0 f q h0⟩⟩
  · obtain ⟨x, rfl, h1⟩ := hx.one
    obtain ⟨a, ys, rfl, h2, h3⟩ := h1.lst_inv f
    have hl3 := h3.length
    split at hb
    · rename_i hl
      split at hb
      · rename_i ns hn
        cases hb
        rw [intsT_inv hn] at h3
        rw [h3.ints_inv] at h2
        have hlen : ns.length < 64 := by rw [intsT_inv hn, List.length_map] at hl; exact hl
        refine ⟨_, cr_sorted, a, ns, rfl, .inl h2, hlen, fun ns' p hp hs hf => ?_⟩
        rw [srtI_one hp hs]
        exact alL f q (RpL.ints _) p hf
      · obtain ⟨ss, hn, rfl⟩ := Option.map_eq_some_iff.mp hb
        rw [strsT_inv hn] at h3
        rw [h3.strs_inv] at h2
        have hlen : ss.length < 64 := by rw [strsT_inv hn, List.length_map] at hl; exact hl
        refine ⟨_, cr_sortedS, a, ss, rfl, .inl h2, hlen, fun ns' p hp hs hf => ?_⟩
        rw [srtS_one hp (sortedS_pw _ hs)]
        exact alL f q (RpL.strs _) p hf
    · cases hb
  · obtain ⟨x, rfl, h1⟩ := hx.one
    obtain ⟨a, ys, rfl, h2, h3⟩ := h1.lst_inv f
    split at hb
    · rename_i n ns hn
      cases hb
      rw [intsT_inv hn] at h3
      rw [h3.ints_inv] at h2
      refine ⟨_, cr_min hc, a, n :: ns, rfl, .inl h2, by simp, fun m hm hl => ?_⟩
      rw [foldl_min_one hm hl]
      exact al0 f q (.int _)
    · cases hb
  · obtain ⟨x, rfl, h1⟩ := hx.one
    obtain ⟨a, ys, rfl, h2, h3⟩ := h1.lst_inv f
    split at hb
    · rename_i n ns hn
      cases hb
      rw [intsT_inv hn] at h3
      rw [h3.ints_inv] at h2
      refine ⟨_, cr_max hc, a, n :: ns, rfl, .inl h2, by simp, fun m hm hl => ?_⟩
      rw [foldl_max_one hm hl]
      exact al0 f q (.int _)
    · cases hb
  · cases hb

/-! ### isinstance -/
def tyT : T → Option String
  | .non => some "NoneType" | .bl _ => some "bool" | .int _ => some "int" | .str _ => some "str" | .lst _ => some "list" | .scr _ => some "list" | .tup _ => some "tuple" | .dK _ => some "dict" | .dT _ => none
def isiT (ty : String) (c : String) : Option Bool := kitB ty c
def isiAny (ty : String) : List String → Option Bool
  | [] => some false
  | c :: r => match kitB ty c with
    | some true => some true
    | some false => isiAny ty r
    | none => none
theorem tyT_ok {G H : Hp} {x : V} {d : T} {ty : String} (f : Fz G H) (hx : Vw X.K G H x d) (h : tyT d = some ty) : TyX X.K H x (.type ty) := by
  have rdl : ∀ {a : Addr} {xs : List V}, Rd H a (.lst xs) → TyX X.K H (.ref a) (.type "list") := fun h => by
    rcases h with h | ⟨ob, h⟩
    · exact .base (.lst h)
    · exact .base (.frz h)
  have rdk : ∀ {a : Addr} {xs : List (Key × V)}, Rd H a (.dK xs) → TyX X.K H (.ref a) (.type "dict") := fun h => by
    rcases h with h | ⟨ob, h⟩
    · exact .base (.dK h)
    · exact .fDict h
  cases d with
  | non => cases h; cases hx.non_inv; exact .base .non
  | bl b => cases h; cases hx.bl_inv; exact .base (.bl _)
  | int b => cases h; cases hx.int_inv; exact .base (.int _)
  | str b => cases h; cases hx.str_inv; exact .base (.str _)
  | lst ds => cases h; obtain ⟨a, xs, rfl, h1, _⟩ := hx.lst_inv f; exact rdl h1
  | tup ds => cases h; obtain ⟨a, xs, rfl, h1, _⟩ := hx.tup_inv f; exact .base (.tup h1)
  | scr ns =>
    cases h; obtain ⟨a, rfl, h1⟩ := hx.scr_inv f
    rcases h1 with h1 | ⟨o, its, n, h2, h3, _⟩
    · exact rdl h1
    · exact .kList h2 h3
  | dK ds => cases h; obtain ⟨a, xs, rfl, h1, _⟩ := hx.dK_inv f; exact rdk h1
  | dT ds => cases h
end
end Qq

set_option maxHeartbeats 4000000
/-! Q4: the text in short, and what it does. -/
namespace Qq
open PySem PySem.Spec PyProof.Rows L2

/-- a target -/
inductive Tg where
  | n (i : Nat) | nil | cons (a r : Tg)
/-- what is gone through -/
inductive IK where
  | seq | r1 | r2 | enum | zip
  deriving DecidableEq
/-- an expression in short -/
inductive C where
  | var (i : Nat) | cst (d : T)
  | bin (fr : Bool) (op : Operator) (a b : C) | neg (a : C)
  | cmp (op : CmpOp) (a b : C) | chn (op op2 : CmpOp) (a b c : C)
  | andV (a b : C) | orV (a b : C) | notV (a : C) | ife (t a b : C) | tru (a : C)
  | tup (l : C) | lst (fr : Bool) (l : C) | nil | cons (a r : C)
  | call (f : Nat) (l : C) | callk (f g : Nat) (l k : C)
  | bi (fr : Bool) (b : BI) (l : C) | isi (a : C) (cs : List String) (one : Bool)
  | idx (a b : C) | sl (fr : Bool) (a : C) (lo hi : Option Unit) (b c : C)
  | mth (m : Str) (o l : C)
  | dct (fr tk : Bool)
  | comp (fr : Bool) (vs : List Nat) (g : Tg) (k : IK) (l t e : C)
/-- a statement in short -/
inductive P where
  | nil | seq (a r : P)
  | asg (g : Tg) (c : C) | par (gs : List Nat) (l : C) | aug (i : Nat) (op : Operator) (c : C)
  | setI (o i c : C) | drop (c : C) | ret (c : C) | retN
  | ite (t : C) (a b : P) | whl (t : C) (b : P) | for_ (g : Tg) (k : IK) (l : C) (b : P)
  | brk | cnt | pass | never
/-- how a statement ends -/
inductive Fl where
  | nx | brk | cnt | ret (d : D)

def D.tr : D → Option T
  | .t d => some d
  | _ => none
def D.ls : D → Option (List D)
  | .l ds => some ds
  | _ => none
def T.bool : T → Option Bool
  | .bl b => some b
  | _ => none
def D.bool : D → Option Bool
  | .t (.bl b) => some b
  | _ => none
def rdL (S : Sto) : List D → Option (List T)
  | [] => some []
  | d :: r => match rd S d, rdL S r with
    | some t, some ts => some (t :: ts)
    | _, _ => none
def trL : List D → Option (List T)
  | [] => some []
  | .t d :: r => (trL r).map fun ts => d :: ts
  | _ :: _ => none
def T.cl : T → Option Cl
  | .lst xs => some (.lst xs)
  | .dK kvs => some (.dK kvs)
  | .dT kvs => some (.dT kvs)
  | _ => none
/-- a result: a tree, or a new thing that may change -/
def own (fr : Bool) (d : T) (S : Sto) : R D := match fr with
  | false => .ok (.t d) S
  | true => match d.cl with
    | some c => .ok (.o S.length) (S ++ [c])
    | none => .bad
def R.nox {α : Type} : R α → R α
  | .exc _ _ => .bad
  | r => r
def R.cut {α : Type} (n : Nat) : R α → R α
  | .ok a S => .ok a (S.take n)
  | .exc x S => .exc x (S.take n)
  | .bad => .bad

def asgX : Tg → (T → Env → Option Env) × (List T → Env → Option Env)
  | .n i => (fun d r => some (r.set i (some (.t d))), fun _ _ => none)
  | .nil => (fun d r => match d with
    | .tup [] => some r
    | _ => none, fun ds r => match ds with
    | [] => some r
    | _ => none)
  | .cons a g => (fun d r => match d with
    | .tup (d :: ds) => (match (asgX a).1 d r with
      | some r' => (asgX g).2 ds r'
      | none => none)
    | _ => none, fun ds r => match ds with
    | d :: ds => (match (asgX a).1 d r with
      | some r' => (asgX g).2 ds r'
      | none => none)
    | _ => none)
def asgT (g : Tg) (d : T) (r : Env) : Option Env := (asgX g).1 d r
def asgD : Tg → D → Env → Option Env
  | .n i, d, r => some (r.set i (some d))
  | g, .t d, r => asgT g d r
  | _, _, _ => none
def asgP : List Nat → List D → Env → Option Env
  | [], [], r => some r
  | i :: is, d :: ds, r => asgP is ds (r.set i (some d))
  | _, _, _ => none

def charsT (z : Str) : List T := z.cps.toList.map fun c => .str ⟨#[c]⟩
def enumT (n : Nat) : List T → List T
  | [] => []
  | d :: r => .tup [.int n, d] :: enumT (n + 1) r
def zipT : List T → List T → List T
  | d :: r, e :: s => .tup [d, e] :: zipT r s
  | _, _ => []
def upT (a : Int) : Nat → List T
  | 0 => []
  | n + 1 => .int a :: upT (a + 1) n
def itT : IK → List T → Option (List T)
  | .seq, [.lst ds] => some ds
  | .seq, [.tup ds] => some ds
  | .seq, [.scr ns] => some (ns.map T.int)
  | .seq, [.str z] => some (charsT z)
  | .r1, [.int j] => if -(2 ^ 62) ≤ j ∧ j ≤ 16777216 then some (upT 0 j.toNat) else none
  | .r2, [.int i, .int j] => if -(2 ^ 62) ≤ i ∧ i < 2 ^ 62 ∧ -(2 ^ 62) ≤ j ∧ j < 2 ^ 62 ∧ j - i ≤ 16777216 then some (upT i (j - i).toNat) else none
  | .enum, [.lst ds] => some (enumT 0 ds)
  | .enum, [.scr ns] => some (enumT 0 (ns.map T.int))
  | .zip, [.lst ds, .lst es] => some (zipT ds es)
  | .zip, [.tup ds, .tup es] => some (zipT ds es)
  | _, _ => none

/-- what is gone through is locked: one thing that may change at most -/
def lkOf : List D → Option (Option Nat)
  | [.o j] => some (some j)
  | [] => some none
  | .t _ :: r => match r with
    | [] => some none
    | .t _ :: r' => (match r' with
      | [] => some none
      | _ => none)
    | _ => none
  | _ => none
def lockS (lk : Option Nat) (S : Sto) : Sto := match lk with
  | none => S
  | some j => match S[j]? with
    | some c => S.set j (.lck c)
    | none => S
/-- S₀ : as it was ahead of the loop -/
def unlockS (lk : Option Nat) (S₀ S : Sto) : Sto := match lk with
  | none => S
  | some j => match S₀[j]? with
    | some c => S.set j c
    | none => S

def compGo (f : T → Sto → R (Option T)) : List T → Sto → R (List T)
  | [], S => .ok [] S
  | d :: r, S => (f d S).bind fun o S1 => (compGo f r S1).bind fun xs S2 => .ok (match o with
    | some x => x :: xs
    | none => xs) S2
def forGo (f : T → Env → Sto → R (Fl × Env)) : List T → Env → Sto → R (Fl × Env)
  | [], r, S => .ok (.nx, r) S
  | d :: ds, r, S => (f d r S).bind fun fr S1 => match fr.1 with
    | .nx => forGo f ds fr.2 S1
    | .cnt => forGo f ds fr.2 S1
    | .brk => .ok (.nx, fr.2) S1
    | .ret d => .ok (.ret d, fr.2) S1
def whlGo (t : Env → Sto → R Bool) (f : Env → Sto → R (Fl × Env)) : Nat → Env → Sto → R (Fl × Env)
  | 0, _, _ => .bad
  | n + 1, r, S => (t r S).bind fun b S1 => match b with
    | false => .ok (.nx, r) S1
    | true => (f r S1).bind fun fr S2 => match fr.1 with
      | .nx => whlGo t f n fr.2 S2
      | .cnt => whlGo t f n fr.2 S2
      | .brk => .ok (.nx, fr.2) S2
      | .ret d => .ok (.ret d, fr.2) S2

/-- a part of a slice -/
def partT : Option Unit → D → Option (Option Int)
  | none, _ => some none
  | some _, .t (.int i) => some (some i)
  | _, _ => none
/-- what is gone through: what is locked, the items -/
def srcT (k : IK) (x : D) (S : Sto) : Option (Option Nat × List T) := match x.ls with
  | none => none
  | some ds => match lkOf ds, (rdL S ds).bind (itT k) with
    | some lk, some is => if is.length ≤ line then some (lk, is) else none
    | _, _ => none
/-- methods -/
inductive MI where
  | append | lpop | dget | dpop | join
  deriving DecidableEq
def MI.T : MI → String
  | .append => "list" | .lpop => "list" | .dget => "dict" | .dpop => "dict" | .join => "str"
def MI.nm : MI → Str
  | .append => "append" | .lpop => "pop" | .dget => "get" | .dpop => "pop" | .join => "join"
def MI.id : MI → String
  | .append => "list.append" | .lpop => "list.pop" | .dget => "dict.get" | .dpop => "dict.pop" | .join => "str.join"
/-- which one, by what the receiver is -/
def miOf (t : T) (m : Str) : Option MI := match t with
  | .lst _ => if m = MI.nm .append then some .append else if m = MI.nm .lpop then some .lpop else none
  | .dK _ => if m = MI.nm .dget then some .dget else if m = MI.nm .dpop then some .dpop else none
  | .dT _ => if m = MI.nm .dget then some .dget else none
  | .str _ => if m = MI.nm .join then some .join else none
  | _ => none
def sumL : List Str → Nat
  | [] => 0
  | x :: r => x.length + sumL r
def joinT (a : Str) (ds : List T) : Option T := match strsT ds with
  | some ys => if sumL ys + ys.length * a.length ≤ 16777216 then some (.str (Txt.join a ys)) else none
  | none => none
/-- the receiver, the arguments -/
def mthS (mi : MI) (o : D) (ds : List D) (S : Sto) : R D := match mi, o, ds with
  | .append, .o i, [.t t] => (match S[i]? with
    | some (.lst xs) => if xs.length < line then .ok (.t .non) (S.set i (.lst (xs ++ [t]))) else .bad
    | _ => .bad)
  | .lpop, .o i, [] => (match S[i]? with
    | some (.lst xs) => (match xs[xs.length - 1]? with
      | some y => .ok (.t y) (S.set i (.lst xs.dropLast))
      | none => .bad)
    | _ => .bad)
  | .lpop, .o i, [.t (.int k)] => (match S[i]? with
    | some (.lst xs) => if -(2 ^ 63) ≤ k ∧ k < 2 ^ 63 then (match seqIndex? k xs.length with
      | some j => (match xs[j]? with
        | some y => .ok (.t y) (S.set i (.lst (xs.eraseIdx j)))
        | none => .bad)
      | none => .bad) else .bad
    | _ => .bad)
  | .dget, o, [k] => R.opt (match rd S o, rd S k with
    | some d, some e => (getT d e).map fun v => .t (v.getD .non)
    | _, _ => none) S
  | .dget, o, [k, z] => (match rd S o, rd S k with
    | some d, some e => (match getT d e with
      | some (some v) => .ok (.t v) S
      | some none => .ok z S
      | none => .bad)
    | _, _ => .bad)
  | .dpop, .o i, [k] => (match S[i]?, (rd S k).bind keyT with
    | some (.dK kvs), some k => (match valT kvs k with
      | some v => .ok (.t v) (S.set i (.dK (dropT kvs k)))
      | none => .bad)
    | _, _ => .bad)
  | .dpop, .o i, [k, z] => (match S[i]?, (rd S k).bind keyT with
    | some (.dK kvs), some k => (match valT kvs k with
      | some v => .ok (.t v) (S.set i (.dK (dropT kvs k)))
      | none => .ok z S)
    | _, _ => .bad)
  | .join, o, [l] => R.opt (match rd S o, rd S l with
    | some (.str a), some (.lst ds) => (joinT a ds).map D.t
    | some (.str a), some (.tup ds) => (joinT a ds).map D.t
    | _, _ => none) S
  | _, _, _ => .bad

section
variable (cl : Nat → List D → Sto → R D) (pm : Nat → List D → List D → Option (List D))
def ev : C → Env → Sto → R D
  | .var i, r, S => R.opt (match r[i]? with
    | some (some d) => some d
    | _ => none) S
  | .cst d, _, S => .ok (.t d) S
  | .bin fr op a b, r, S => (ev a r S).bind fun x S => (ev b r S).bind fun y S => (R.opt (match rd S x, rd S y with
    | some d, some e => binT op d e
    | _, _ => none) S).bind fun t S => own fr t S
  | .neg a, r, S => (ev a r S).bind fun x S => R.opt (match rd S x with
    | some (.int i) => some (.t (.int (-i)))
    | _ => none) S
  | .cmp op a b, r, S => (ev a r S).bind fun x S => (ev b r S).bind fun y S => R.opt (match rd S x, rd S y with
    | some d, some e => (cmpT op d e).map fun b => .t (.bl b)
    | _, _ => none) S
  | .chn op op2 a b c, r, S => (ev a r S).bind fun x S => (ev b r S).bind fun y S => (R.opt (match rd S x, rd S y with
    | some d, some e => cmpT op d e
    | _, _ => none) S).bind fun k S => match k with
      | false => .ok (.t (.bl false)) S
      | true => (ev c r S).bind fun z S => R.opt (match rd S y, rd S z with
        | some d, some e => (cmpT op2 d e).map fun b => .t (.bl b)
        | _, _ => none) S
  | .andV a b, r, S => (ev a r S).bind fun x S => (R.opt ((rd S x).bind truT) S).bind fun k S => match k with
    | true => ev b r S
    | false => .ok x S
  | .orV a b, r, S => (ev a r S).bind fun x S => (R.opt ((rd S x).bind truT) S).bind fun k S => match k with
    | true => .ok x S
    | false => ev b r S
  | .notV a, r, S => (ev a r S).bind fun x S => R.opt (((rd S x).bind truT).map fun k => .t (.bl (!k))) S
  | .ife t a b, r, S => (ev t r S).bind fun x S => (R.opt x.bool S).bind fun k S => match k with
    | true => ev a r S
    | false => ev b r S
  | .tru a, r, S => (ev a r S).bind fun x S => R.opt (((rd S x).bind truT).map fun k => .t (.bl k)) S
  | .tup l, r, S => (ev l r S).bind fun x S => R.opt (match x.ls.bind trL with
    | some ts => if ts.length ≤ line then some (.t (.tup ts)) else none
    | none => none) S
  | .lst fr l, r, S => (ev l r S).bind fun x S => (R.opt (match x.ls.bind trL with
    | some ts => if ts.length ≤ line then some ts else none
    | none => none) S).bind fun ts S => own fr (.lst ts) S
  | .nil, _, S => .ok (.l []) S
  | .cons a q, r, S => (ev a r S).bind fun x S => (ev q r S).bind fun y S => R.opt (y.ls.map fun ds => .l (x :: ds)) S
  | .call f l, r, S => (ev l r S).bind fun x S => (R.opt x.ls S).bind fun ds S => cl f ds S
  | .callk f g l k, r, S => (ev l r S).bind fun x S => (ev k r S).bind fun y S => (R.opt (match x.ls, y.ls with
    | some ds, some es => pm g ds es
    | _, _ => none) S).bind fun ds S => cl f ds S
  | .bi fr b l, r, S => (ev l r S).bind fun x S => (R.opt ((x.ls.bind (rdL S)).bind (biT b)) S).bind fun t S => own fr t S
  | .isi a cs _, r, S => (ev a r S).bind fun x S => R.opt ((((rd S x).bind tyT).bind fun ty => isiAny ty cs).map fun b => .t (.bl b)) S
  | .idx a b, r, S => (ev a r S).bind fun x S => (ev b r S).bind fun y S => R.opt (match rd S x, rd S y with
    | some d, some e => (idxT d e).map D.t
    | _, _ => none) S
  | .sl fr a lo hi b c, r, S => (ev a r S).bind fun x S => (ev b r S).bind fun y S => (R.opt (partT lo y) S).bind fun l S => (ev c r S).bind fun z S => (R.opt (partT hi z) S).bind fun u S => (R.opt ((rd S x).bind fun d => slT d l u) S).bind fun t S => own fr t S
  | .mth m o l, r, S => (ev o r S).bind fun x S => (R.opt ((rd S x).bind fun t => miOf t m) S).bind fun mi S => (ev l r S).bind fun y S => (R.opt y.ls S).bind fun ds S => mthS mi x ds S
  | .dct fr tk, _, S => own fr (if tk then .dT [] else .dK []) S
  | .comp fr vs g k l t e, r, S => (ev l r S).bind fun x S => (R.opt (srcT k x S) S).bind fun dis S => (compGo (fun d S0 => match asgT g d (wip r vs) with
        | none => .bad
        | some r' => (((ev t r' S0).bind fun x S => (R.opt x.bool S).bind fun k S => match k with
          | false => .ok none S
          | true => (ev e r' S).bind fun y S => R.opt (y.tr.map some) S).nox).cut S0.length) dis.2 (lockS dis.1 S)).bind fun xs S' => own fr (.lst xs) (unlockS dis.1 S S')
end

section
variable (wf : Nat) (cl : Nat → List D → Sto → R D) (pm : Nat → List D → List D → Option (List D))
def exec : P → Env → Sto → R (Fl × Env)
  | .nil, r, S => .ok (.nx, r) S
  | .seq a q, r, S => (exec a r S).bind fun fr S => match fr.1 with
    | .nx => exec q fr.2 S
    | .brk => .ok fr S
    | .cnt => .ok fr S
    | .ret _ => .ok fr S
  | .asg g c, r, S => (ev cl pm c r S).bind fun x S => R.opt ((asgD g x r).map fun r' => (.nx, r')) S
  | .par gs l, r, S => (ev cl pm l r S).bind fun x S => R.opt ((x.ls.bind fun ds => asgP gs ds r).map fun r' => (.nx, r')) S
  | .aug i op c, r, S => (R.opt (match r[i]? with
    | some (some (.t d)) => some d
    | _ => none) S).bind fun d S => (ev cl pm c r S).bind fun y S => R.opt (match d, op, rd S y with
      | .int a, .Add, some (.int b) => some (.nx, r.set i (some (.t (.int (a + b)))))
      | .int a, .Sub, some (.int b) => some (.nx, r.set i (some (.t (.int (a - b)))))
      | _, _, _ => none) S
  | .setI o i c, r, S => (ev cl pm c r S).bind fun z S => (ev cl pm o r S).bind fun x S => (ev cl pm i r S).bind fun y S => (match x, rd S y, z with
    | .o a, some e, .t d => match S[a]? with
      | some (.lst xs) => match e with
        | .int k => (match ixN xs.length k with
          | some j => .ok (.nx, r) (S.set a (.lst (xs.set j d)))
          | none => .bad)
        | _ => .bad
      | some (.dK kvs) => match keyT e with
        | some k => if kvs.length < line then .ok (.nx, r) (S.set a (.dK (putT kvs k d))) else .bad
        | none => .bad
      | some (.dT kvs) => match e with
        | .tup es => (match keysT es with
          | some k => if kvs.length < line then .ok (.nx, r) (S.set a (.dT (putT kvs k d))) else .bad
          | none => .bad)
        | _ => .bad
      | _ => .bad
    | _, _, _ => .bad)
  | .drop c, r, S => (ev cl pm c r S).bind fun _ S => .ok (.nx, r) S
  | .ret c, r, S => (ev cl pm c r S).bind fun x S => .ok (.ret x, r) S
  | .retN, r, S => .ok (.ret (.t .non), r) S
  | .ite t a b, r, S => (ev cl pm t r S).bind fun x S => (R.opt x.bool S).bind fun k S => match k with
    | true => exec a r S
    | false => exec b r S
  | .whl t b, r, S => whlGo (fun r S => (ev cl pm t r S).bind fun x S => R.opt x.bool S) (fun r S => exec b r S) wf r S
  | .for_ g k l b, r, S => (ev cl pm l r S).bind fun x S => (R.opt (srcT k x S) S).bind fun dis S => (forGo (fun d r S => match asgT g d r with
        | none => .bad
        | some r' => exec b r' S) dis.2 r (lockS dis.1 S)).bind fun fr S' => .ok fr (unlockS dis.1 S S')
  | .brk, r, S => .ok (.brk, r) S
  | .cnt, r, S => .ok (.cnt, r) S
  | .pass, r, S => .ok (.nx, r) S
  | .never, _, _ => .bad
end

/-- a def in short: parameters, names, whether a new thing that may change is handed back as such -/
structure FI where
  np : Nat
  nn : Nat
  kp : Bool
  body : P
def fin (kp : Bool) (n : Nat) (fl : Fl) (S : Sto) : R D := match fl with
  | .nx => .ok (.t .non) (S.take n)
  | .ret (.t d) => .ok (.t d) (S.take n)
  | .ret (.o i) => if i < n then .ok (.o i) (S.take n) else match S[i]? with
    | some (.lst xs) => if kp then .ok (.o n) (S.take n ++ [.lst xs]) else .ok (.t (.lst xs)) (S.take n)
    | some (.dK xs) => if kp then .ok (.o n) (S.take n ++ [.dK xs]) else .ok (.t (.dK xs)) (S.take n)
    | some (.dT xs) => if kp then .ok (.o n) (S.take n ++ [.dT xs]) else .ok (.t (.dT xs)) (S.take n)
    | _ => .bad
  | _ => .bad
def callF (fs : List FI) (wf : Nat) (pm : Nat → List D → List D → Option (List D)) : Nat → Nat → List D → Sto → R D
  | 0, _, _, _ => .bad
  | n + 1, f, ds, S => match fs[f]? with
    | none => .bad
    | some F => if ds.length = F.np then ((exec wf (callF fs wf pm n) pm F.body (ds.map some ++ List.replicate (F.nn - F.np) none) S).bind fun fr S' => fin F.kp S.length fr.1 S').cut (S.length + 1) else .bad
end Qq

set_option maxHeartbeats 4000000
/-! Q5: expressions: what is said in short is what the text does. -/
namespace Qq
open PySem PySem.Spec PyProof.Rows L2

def RD (K : PySem.W.Frag) : Hp → Hp → List Addr → D → V → Prop := fun G _ m d v => RpD K G m d v
def RL (K : PySem.W.Frag) : Hp → Hp → List Addr → D → List V → Prop := fun G _ m d vs => ∃ ds, d = .l ds ∧ RpDs K G m ds vs
def RB : Hp → Hp → List Addr → D → Bool → Prop := fun _ _ _ d b => d = .t (.bl b)

section
variable (K : PySem.W.Frag) (W : WX) (cl : Nat → List D → Sto → R D) (pm : Nat → List D → List D → Option (List D))
def tE (c : C) : TE := fun σ H Q => ∃ B G m S r, Pre K B G m S H ∧ RelE K G m r σ ∧ Post K B W σ G m (RD K) Q (ev cl pm c r S)
def tA (c : C) : TA := fun σ H Q => ∃ B G m S r, Pre K B G m S H ∧ RelE K G m r σ ∧ Post K B W σ G m (RL K) Q (ev cl pm c r S)
def tT (c : C) : TT := fun σ H Q => ∃ B G m S r, Pre K B G m S H ∧ RelE K G m r σ ∧ Post K B W σ G m RB Q (ev cl pm c r S)
end

theorem PE.imp {X : Cx} {e : Expr} {t t' : TE} (h : PE X e t) (q : ∀ σ H Q, t' σ H Q → t σ H Q) : PE X e t' := ⟨fun pins s σ H Q I z => h.run pins s σ H Q I (q _ _ _ z)⟩
theorem PT.imp {X : Cx} {e : Expr} {t t' : TT} (h : PT X e t) (q : ∀ σ H Q, t' σ H Q → t σ H Q) : PT X e t' := ⟨fun pins s σ H Q I z => h.run pins s σ H Q I (q _ _ _ z)⟩
theorem PA.imp {X : Cx} {e : List Expr} {t t' : TA} (h : PA X e t) (q : ∀ σ H Q, t' σ H Q → t σ H Q) : PA X e t' := ⟨fun pos pins s σ H Q I z => h.run pos pins s σ H Q I (q _ _ _ z)⟩

theorem pre_rfl {α : Type} (m : List α) : m <+: m := ⟨[], List.append_nil m⟩

section
variable {K : PySem.W.Frag} {W : WX} {cl : Nat → List D → Sto → R D} {pm : Nat → List D → List D → Option (List D)} {B G H : Hp} {m : List Addr} {S : Sto} {r : Env} {σ : L2.St}
variable {α β : Type} {Rs : Hp → Hp → List Addr → α → β → Prop} {Q : β → Hp → Prop}
theorem stepE {c : C} {f : D → Sto → R α} (h : Pre K B G m S H) (e : RelE K G m r σ) (q : Post K B W σ G m Rs Q ((ev cl pm c r S).bind f)) :
    tE K W cl pm c σ H (fun v H1 => ∃ G1 m1 S1 d, m <+: m1 ∧ Fz G G1 ∧ Pre K B G1 m1 S1 H1 ∧ RelE K G1 m1 r σ ∧ RpD K G1 m1 d v ∧ Post K B W σ G1 m1 Rs Q (f d S1)) :=
  ⟨B, G, m, S, r, h, e, (q.bind (Rr := RD K)).mono fun v H1 ⟨G1, m1, S1, d, h1, h2, h3, h4, h5⟩ => ⟨G1, m1, S1, d, h1, h2, h3, e.mono h2 h1, h4, h5⟩⟩
theorem stepA {c : C} {f : D → Sto → R α} (h : Pre K B G m S H) (e : RelE K G m r σ) (q : Post K B W σ G m Rs Q ((ev cl pm c r S).bind f)) :
    tA K W cl pm c σ H (fun v H1 => ∃ G1 m1 S1 ds, m <+: m1 ∧ Fz G G1 ∧ Pre K B G1 m1 S1 H1 ∧ RelE K G1 m1 r σ ∧ RpDs K G1 m1 ds v ∧ Post K B W σ G1 m1 Rs Q (f (.l ds) S1)) :=
  ⟨B, G, m, S, r, h, e, (q.bind (Rr := RL K)).mono fun v H1 ⟨G1, m1, S1, d, h1, h2, h3, ⟨ds, h4, h6⟩, h5⟩ => by subst h4; exact ⟨G1, m1, S1, ds, h1, h2, h3, e.mono h2 h1, h6, h5⟩⟩
theorem stepT {c : C} {f : D → Sto → R α} (h : Pre K B G m S H) (e : RelE K G m r σ) (q : Post K B W σ G m Rs Q ((ev cl pm c r S).bind f)) :
    tT K W cl pm c σ H (fun b H1 => ∃ G1 m1 S1, m <+: m1 ∧ Fz G G1 ∧ Pre K B G1 m1 S1 H1 ∧ RelE K G1 m1 r σ ∧ Post K B W σ G1 m1 Rs Q (f (.t (.bl b)) S1)) :=
  ⟨B, G, m, S, r, h, e, (q.bind (Rr := RB)).mono fun v H1 ⟨G1, m1, S1, d, h1, h2, h3, h4, h5⟩ => by
    have h4 : d = .t (.bl v) := h4
    subst h4; exact ⟨G1, m1, S1, h1, h2, h3, e.mono h2 h1, h5⟩⟩
/-- a tree, at once -/
theorem Post.tree {Q : VK} {t : T} (q : Post K B W σ G m (RD K) Q (.ok (.t t) S)) (p : Pre K B G m S H) {v : V} {H' G' : Hp} (a : Al G H G' H') (h : Rp K G' v t) : Q v H' :=
  q v H' G' m (pre_rfl m) a.fz (a.pre p) (.t h)
theorem Post.treeB {Q : Bool → Hp → Prop} {b : Bool} (q : Post K B W σ G m RB Q (.ok (.t (.bl b)) S)) (p : Pre K B G m S H) : Q b H :=
  q b H G m (pre_rfl m) (Fz.refl G) p rfl
theorem own_lst {Q : VK} {fr : Bool} {ds : List T} {xs : List V} (p : Pre K B G m S H) (q : Post K B W σ G m (RD K) Q (own fr (.lst ds) S)) (h : RpL K G xs ds) : ∀ a, H a = none → Q (.ref a) (upd H a (.lst xs)) := fun a ha => by
  cases fr with
  | false =>
    have al : Al G H (upd G a (.lst xs)) (upd H a (.lst xs)) := Al.lay p.fz ha fun ob u z => by cases z
    exact Post.tree q p al (.lst (.inl upd_same) (h.mono al.fz))
  | true =>
    refine q (.ref a) _ G (m ++ [a]) ⟨[a], rfl⟩ (Fz.refl G) (p.own ha (.lst h)) (.o ?_)
    rw [← p.len, List.getElem?_append_right (Nat.le_refl _), Nat.sub_self]; rfl
theorem own_dct {Q : VK} {fr tk : Bool} (p : Pre K B G m S H) (q : Post K B W σ G m (RD K) Q (own fr (if tk then .dT [] else .dK []) S)) : ∀ a, H a = none → Q (.ref a) (upd H a (if tk then .dT [] else .dK [])) := fun a ha => by
  have hz : ∀ ob u, (if tk = true then HO.dT [] else HO.dK []) ≠ .frz ob u := fun ob u z => by cases tk <;> cases z
  cases fr with
  | false =>
    have al : Al G H (upd G a (if tk then .dT [] else .dK [])) (upd H a (if tk then .dT [] else .dK [])) := Al.lay p.fz ha hz
    refine Post.tree q p al ?_
    cases tk with
    | false => exact .dK (.inl upd_same) .nil
    | true => exact .dT (.inl upd_same) .nil
  | true =>
    cases tk with
    | false =>
      refine q (.ref a) _ G (m ++ [a]) ⟨[a], rfl⟩ (Fz.refl G) (p.own ha (.dK .nil)) (.o ?_)
      rw [← p.len, List.getElem?_append_right (Nat.le_refl _), Nat.sub_self]; rfl
    | true =>
      refine q (.ref a) _ G (m ++ [a]) ⟨[a], rfl⟩ (Fz.refl G) (p.own ha (.dT .nil)) (.o ?_)
      rw [← p.len, List.getElem?_append_right (Nat.le_refl _), Nat.sub_self]; rfl
theorem RpDs.vw (p : Pre K B G m S H) : ∀ {ds : List D} {vs : List V} {ts : List T}, RpDs K G m ds vs → rdL S ds = some ts → VwL K G H vs ts
  | [], _, _, h, e => by cases h; cases e; exact .nil
  | d :: r, _, _, h, e => by
    cases h with
    | cons h1 h2 =>
      unfold rdL at e
      cases e1 : rd S d with
      | none => rw [e1] at e; cases e
      | some t =>
        cases e2 : rdL S r with
        | none => rw [e1, e2] at e; cases e
        | some ts => rw [e1, e2] at e; cases e; exact .cons (rd_ok p h1 e1) (RpDs.vw p h2 e2)
theorem RpDs.tr : ∀ {ds : List D} {vs : List V} {ts : List T}, RpDs K G m ds vs → trL ds = some ts → RpL K G vs ts
  | [], _, _, h, e => by cases h; cases e; exact .nil
  | d :: r, _, _, h, e => by
    cases h with
    | cons h1 h2 =>
      cases h1 with
      | t h1 =>
        unfold trL at e
        obtain ⟨ts, e2, rfl⟩ := Option.map_eq_some_iff.mp e
        exact .cons h1 (RpDs.tr h2 e2)
      | o h1 => cases e
theorem Post.optB {γ : Type} {o : Option γ} {f : γ → Sto → R α} (q : Post K B W σ G m Rs Q ((R.opt o S).bind f)) : ∃ t, o = some t ∧ Post K B W σ G m Rs Q (f t S) := by
  cases o with
  | none => exact q.elim
  | some t => exact ⟨t, rfl, q⟩
theorem tE_mono {c : C} {Q Q' : VK} (h : tE K W cl pm c σ H Q) (hq : ∀ v H', Q v H' → Q' v H') : tE K W cl pm c σ H Q' :=
  let ⟨B, G, m, S, r, h1, h2, h3⟩ := h; ⟨B, G, m, S, r, h1, h2, h3.mono hq⟩
theorem tA_mono {c : C} {Q Q' : List V → Hp → Prop} (h : tA K W cl pm c σ H Q) (hq : ∀ v H', Q v H' → Q' v H') : tA K W cl pm c σ H Q' :=
  let ⟨B, G, m, S, r, h1, h2, h3⟩ := h; ⟨B, G, m, S, r, h1, h2, h3.mono hq⟩
theorem tT_mono {c : C} {Q Q' : Bool → Hp → Prop} (h : tT K W cl pm c σ H Q) (hq : ∀ v H', Q v H' → Q' v H') : tT K W cl pm c σ H Q' :=
  let ⟨B, G, m, S, r, h1, h2, h3⟩ := h; ⟨B, G, m, S, r, h1, h2, h3.mono hq⟩
theorem Post.opt1' {o : Option α} (q : Post K B W σ G m Rs Q (R.opt o S)) : ∃ t, o = some t ∧ Post K B W σ G m Rs Q (.ok t S) := by
  cases o with
  | none => exact q.elim
  | some t => exact ⟨t, rfl, q⟩
theorem Post.opt1 {o : Option α} (q : Post K B W σ G m Rs Q (R.opt o S)) : ∃ t, o = some t ∧ Post K B W σ G m Rs Q (.ok t S) := by
  cases o with
  | none => exact q.elim
  | some t => exact ⟨t, rfl, q⟩
theorem bool_inv {d : D} {b : Bool} (h : d.bool = some b) : d = .t (.bl b) := by
  unfold D.bool at h
  split at h
  · cases h; rfl
  · cases h
theorem bl_inv {G' : Hp} {m' : List Addr} {v : V} {b : Bool} (h : RpD K G' m' (.t (.bl b)) v) : v = .bl b := by
  cases h with | t h => cases h; rfl
end

/-! ### expression by expression -/
section
variable {X : Cx} {W : WX} {cl : Nat → List D → Sto → R D} {pm : Nat → List D → List D → Option (List D)} {pos : Pos} {e1 e2 e3 : Expr} {a b c : C}
theorem qe_var {i : Nat} {x : Str} (hN : X.N[i]? = some x) (hv : Vis X.env.scope x) (hd : (x == ("__debug__" : Str)) = false) (hcd : (x == ("__classdict__" : Str)) = false) : PE X (.Name x pos) (tE X.K W cl pm (.var i)) := by
  refine PE.imp (pe_var (i := i) hN hv hd hcd) ?_
  rintro σ H Q ⟨B, G, m, S, r, hP, hE, q⟩
  simp only [ev] at q
  cases hi : r[i]? with
  | none => rw [hi] at q; exact q.elim
  | some o =>
    cases o with
    | none => rw [hi] at q; exact q.elim
    | some d =>
      rw [hi] at q
      obtain ⟨v, h1, h2⟩ := hE.at_ i d hi
      exact ⟨v, h1, q v H G m (pre_rfl m) (Fz.refl G) hP h2⟩
theorem qe_cst {e : Expr} {t : T} {v : V} (h : PE X e (tC v)) (hr : ∀ G, Rp X.K G v t) : PE X e (tE X.K W cl pm (.cst t)) := by
  refine PE.imp h ?_
  rintro σ H Q ⟨B, G, m, S, r, hP, hE, q⟩
  exact Post.tree q hP (Al.refl hP.fz) (hr G)
theorem qe_bin {op : Operator} (ha : PE X e1 (tE X.K W cl pm a)) (hb : PE X e2 (tE X.K W cl pm b)) : PE X (.BinOp e1 op e2 pos) (tE X.K W cl pm (.bin false op a b)) := by
  refine PE.imp (pe_op (op_bin op) ha hb) ?_
  rintro σ H Q ⟨B, G, m, S, r, hP, hE, q⟩
  refine tE_mono (stepE hP hE q) ?_
  rintro v H1 ⟨G1, m1, S1, d, i1, f1, P1, E1, r1, q1⟩
  refine tE_mono (stepE P1 E1 q1) ?_
  rintro v2 H2 ⟨G2, m2, S2, d2, i2, f2, P2, E2, r2, q2⟩
  obtain ⟨t, ht, q3⟩ := q2.optB
  split at ht
  · rename_i x y e1 e2
    exact ⟨G2, x, y, t, P2.fz, rd_ok P2 (r1.mono f2 i2) e1, rd_ok P2 r2 e2, ht, fun v' H' G' al rp => Post.tree q3 P2 al rp⟩
  · cases ht
theorem qe_neg (ha : PE X e1 (tE X.K W cl pm a)) : PE X (.UnaryOp .USub e1 pos) (tE X.K W cl pm (.neg a)) := by
  refine PE.imp (pe_un un_neg ha) ?_
  rintro σ H Q ⟨B, G, m, S, r, hP, hE, q⟩
  refine tE_mono (stepE hP hE q) ?_
  rintro v H1 ⟨G1, m1, S1, d, i1, f1, P1, E1, r1, q1⟩
  obtain ⟨t, ht, q3⟩ := q1.opt1
  split at ht
  · rename_i i e1
    cases ht
    cases (rd_ok P1 r1 e1).int_inv
    exact ⟨_, rfl, Post.tree q3 P1 (Al.refl P1.fz) (.int _)⟩
  · cases ht
theorem qe_cmp (hu : X.A.units + 65 < cLine) {op : CmpOp} (ha : PE X e1 (tE X.K W cl pm a)) (hb : PE X e2 (tE X.K W cl pm b)) (hm : behindInMarks op e2 = false) : PE X (.Compare e1 [op] [e2] pos) (tE X.K W cl pm (.cmp op a b)) := by
  refine PE.imp (pe_cmpR (op_cmp hu op) ha hb hm) ?_
  rintro σ H Q ⟨B, G, m, S, r, hP, hE, q⟩
  refine tE_mono (stepE hP hE q) ?_
  rintro v H1 ⟨G1, m1, S1, d, i1, f1, P1, E1, r1, q1⟩
  refine tE_mono (stepE P1 E1 q1) ?_
  rintro v2 H2 ⟨G2, m2, S2, d2, i2, f2, P2, E2, r2, q2⟩
  obtain ⟨t, ht, q3⟩ := q2.opt1
  split at ht
  · rename_i x y e1 e2
    obtain ⟨k, hk, rfl⟩ := Option.map_eq_some_iff.mp ht
    exact ⟨G2, x, y, k, P2.fz, rd_ok P2 (r1.mono f2 i2) e1, rd_ok P2 r2 e2, hk, Post.tree q3 P2 (Al.refl P2.fz) (.bl _)⟩
  · cases ht
theorem qe_chn (hu : X.A.units + 65 < cLine) {op op2 : CmpOp} (ha : PE X e1 (tE X.K W cl pm a)) (hb : PE X e2 (tE X.K W cl pm b)) (hc : PE X e3 (tE X.K W cl pm c)) (hm : behindInMarks op e2 = false) (hm2 : behindInMarks op2 e3 = false) :
    PE X (.Compare e1 [op, op2] [e2, e3] pos) (tE X.K W cl pm (.chn op op2 a b c)) := by
  refine PE.imp (pe_chain (op_cmp hu op) (op_cmp hu op2) ha hb hc (show lastMarks [op, op2] [e2, e3] = false from hm2)) ?_
  rintro σ H Q ⟨B, G, m, S, r, hP, hE, q⟩
  refine tE_mono (stepE hP hE q) ?_
  rintro v H1 ⟨G1, m1, S1, d, i1, f1, P1, E1, r1, q1⟩
  refine tE_mono (stepE P1 E1 q1) ?_
  rintro v2 H2 ⟨G2, m2, S2, d2, i2, f2, P2, E2, r2, q2⟩
  obtain ⟨t, ht, q3⟩ := q2.optB
  split at ht
  · rename_i x y e1 e2
    refine ⟨G2, x, y, t, P2.fz, rd_ok P2 (r1.mono f2 i2) e1, rd_ok P2 r2 e2, ht, t, rfl, ?_⟩
    cases t with
    | false =>
      refine iteF ?_
      exact Post.tree q3 P2 (Al.refl P2.fz) (.bl _)
    | true =>
      refine iteT ?_
      refine tE_mono (stepE P2 E2 q3) ?_
      rintro v3 H3 ⟨G3, m3, S3, d3, i3, f3, P3, E3, r3, q4⟩
      obtain ⟨t2, ht2, q5⟩ := q4.opt1
      split at ht2
      · rename_i x2 y2 e3 e4
        obtain ⟨k, hk, rfl⟩ := Option.map_eq_some_iff.mp ht2
        exact ⟨G3, x2, y2, k, P3.fz, rd_ok P3 (r2.mono f3 i3) e3, rd_ok P3 r3 e4, hk, Post.tree q5 P3 (Al.refl P3.fz) (.bl _)⟩
      · cases ht2
  · cases ht
theorem qe_and {rest : List Expr} (ha : PE X e1 (tE X.K W cl pm a)) (hb : PE X (.BoolOp .And (e2 :: rest) pos) (tE X.K W cl pm b)) : PE X (.BoolOp .And (e1 :: e2 :: rest) pos) (tE X.K W cl pm (.andV a b)) := by
  refine PE.imp (pe_andT ha hb) ?_
  rintro σ H Q ⟨B, G, m, S, r, hP, hE, q⟩
  refine tE_mono (stepE hP hE q) ?_
  rintro v H1 ⟨G1, m1, S1, d, i1, f1, P1, E1, r1, q1⟩
  obtain ⟨k, hk, q2⟩ := q1.optB
  obtain ⟨t, e1, e2⟩ := Option.bind_eq_some_iff.mp hk
  refine ⟨k, tru_T P1.fz (rd_ok P1 r1 e1) e2, ?_⟩
  cases k with
  | false => exact iteF (q2 v H1 G1 m1 (pre_rfl m1) (Fz.refl G1) P1 r1)
  | true => exact iteT ⟨B, G1, m1, S1, r, P1, E1, q2⟩
theorem qe_or {rest : List Expr} (ha : PE X e1 (tE X.K W cl pm a)) (hb : PE X (.BoolOp .Or (e2 :: rest) pos) (tE X.K W cl pm b)) : PE X (.BoolOp .Or (e1 :: e2 :: rest) pos) (tE X.K W cl pm (.orV a b)) := by
  refine PE.imp (pe_orT ha hb) ?_
  rintro σ H Q ⟨B, G, m, S, r, hP, hE, q⟩
  refine tE_mono (stepE hP hE q) ?_
  rintro v H1 ⟨G1, m1, S1, d, i1, f1, P1, E1, r1, q1⟩
  obtain ⟨k, hk, q2⟩ := q1.optB
  obtain ⟨t, e1, e2⟩ := Option.bind_eq_some_iff.mp hk
  refine ⟨k, tru_T P1.fz (rd_ok P1 r1 e1) e2, ?_⟩
  cases k with
  | true => exact iteT (q2 v H1 G1 m1 (pre_rfl m1) (Fz.refl G1) P1 r1)
  | false => exact iteF ⟨B, G1, m1, S1, r, P1, E1, q2⟩
theorem qe_one {op} (ha : PE X e1 (tE X.K W cl pm a)) : PE X (.BoolOp op [e1] pos) (tE X.K W cl pm a) := pe_one ha
theorem qe_not (ha : PE X e1 (tE X.K W cl pm a)) : PE X (.UnaryOp .Not e1 pos) (tE X.K W cl pm (.notV a)) := by
  refine PE.imp (pe_notT ha) ?_
  rintro σ H Q ⟨B, G, m, S, r, hP, hE, q⟩
  refine tE_mono (stepE hP hE q) ?_
  rintro v H1 ⟨G1, m1, S1, d, i1, f1, P1, E1, r1, q1⟩
  obtain ⟨t, ht, q2⟩ := q1.opt1
  obtain ⟨k, hk, rfl⟩ := Option.map_eq_some_iff.mp ht
  obtain ⟨t', e1, e2⟩ := Option.bind_eq_some_iff.mp hk
  exact ⟨k, tru_T P1.fz (rd_ok P1 r1 e1) e2, Post.tree q2 P1 (Al.refl P1.fz) (.bl _)⟩
theorem qe_ife (hc : PT X e3 (tT X.K W cl pm c)) (ha : PE X e1 (tE X.K W cl pm a)) (hb : PE X e2 (tE X.K W cl pm b)) : PE X (.IfExp e3 e1 e2 pos) (tE X.K W cl pm (.ife c a b)) := by
  refine PE.imp (pe_ifExp hc ha hb) ?_
  rintro σ H Q ⟨B, G, m, S, r, hP, hE, q⟩
  refine tT_mono (stepT hP hE q) ?_
  rintro k H1 ⟨G1, m1, S1, i1, f1, P1, E1, q1⟩
  cases k with
  | true => exact iteT ⟨B, G1, m1, S1, r, P1, E1, q1⟩
  | false => exact iteF ⟨B, G1, m1, S1, r, P1, E1, q1⟩

/-! ### tests -/
/-- by its value's truth -/
theorem qt_tru (ha : PE X e1 (tE X.K W cl pm a)) (he : ∀ whole, isTrue e1 X.env whole = (do let v ← whole; standAt e1.pos; holding [v] (truthy v))) : PT X e1 (tT X.K W cl pm (.tru a)) := by
  refine PT.imp (pt_truth ha he) ?_
  rintro σ H Q ⟨B, G, m, S, r, hP, hE, q⟩
  refine tE_mono (stepE hP hE q) ?_
  rintro v H1 ⟨G1, m1, S1, d, i1, f1, P1, E1, r1, q1⟩
  obtain ⟨t, ht, q2⟩ := q1.opt1
  obtain ⟨k, hk, rfl⟩ := Option.map_eq_some_iff.mp ht
  obtain ⟨t', e1, e2⟩ := Option.bind_eq_some_iff.mp hk
  exact ⟨k, tru_T P1.fz (rd_ok P1 r1 e1) e2, Post.treeB q2 P1⟩
theorem qt_cmp (hu : X.A.units + 65 < cLine) {op : CmpOp} (ha : PE X e1 (tE X.K W cl pm a)) (hb : PE X e2 (tE X.K W cl pm b)) (hm : behindInMarks op e2 = false) : PT X (.Compare e1 [op] [e2] pos) (tT X.K W cl pm (.cmp op a b)) := by
  refine PT.imp (pt_cmpR (op_cmp hu op) ha hb hm) ?_
  rintro σ H Q ⟨B, G, m, S, r, hP, hE, q⟩
  refine tE_mono (stepE hP hE q) ?_
  rintro v H1 ⟨G1, m1, S1, d, i1, f1, P1, E1, r1, q1⟩
  refine tE_mono (stepE P1 E1 q1) ?_
  rintro v2 H2 ⟨G2, m2, S2, d2, i2, f2, P2, E2, r2, q2⟩
  obtain ⟨t, ht, q3⟩ := q2.opt1
  split at ht
  · rename_i x y e1 e2
    obtain ⟨k, hk, rfl⟩ := Option.map_eq_some_iff.mp ht
    exact ⟨G2, x, y, k, P2.fz, rd_ok P2 (r1.mono f2 i2) e1, rd_ok P2 r2 e2, hk, k, rfl, Post.treeB q3 P2⟩
  · cases ht
theorem qt_chn (hu : X.A.units + 65 < cLine) {op op2 : CmpOp} (ha : PE X e1 (tE X.K W cl pm a)) (hb : PE X e2 (tE X.K W cl pm b)) (hc : PE X e3 (tE X.K W cl pm c)) (hm : behindInMarks op e2 = false) (hm2 : behindInMarks op2 e3 = false) :
    PT X (.Compare e1 [op, op2] [e2, e3] pos) (tT X.K W cl pm (.chn op op2 a b c)) := by
  refine PT.imp (pt_chain (op_cmp hu op) (op_cmp hu op2) ha hb hc (show lastMarks [op, op2] [e2, e3] = false from hm2)) ?_
  rintro σ H Q ⟨B, G, m, S, r, hP, hE, q⟩
  refine tE_mono (stepE hP hE q) ?_
  rintro v H1 ⟨G1, m1, S1, d, i1, f1, P1, E1, r1, q1⟩
  refine tE_mono (stepE P1 E1 q1) ?_
  rintro v2 H2 ⟨G2, m2, S2, d2, i2, f2, P2, E2, r2, q2⟩
  obtain ⟨t, ht, q3⟩ := q2.optB
  split at ht
  · rename_i x y e1 e2
    refine ⟨G2, x, y, t, P2.fz, rd_ok P2 (r1.mono f2 i2) e1, rd_ok P2 r2 e2, ht, t, rfl, ?_⟩
    cases t with
    | false =>
      refine iteF ?_
      exact ⟨false, rfl, Post.treeB q3 P2⟩
    | true =>
      refine iteT ?_
      refine tE_mono (stepE P2 E2 q3) ?_
      rintro v3 H3 ⟨G3, m3, S3, d3, i3, f3, P3, E3, r3, q4⟩
      obtain ⟨t2, ht2, q5⟩ := q4.opt1
      split at ht2
      · rename_i x2 y2 e3 e4
        obtain ⟨k, hk, rfl⟩ := Option.map_eq_some_iff.mp ht2
        exact ⟨G3, x2, y2, k, P3.fz, rd_ok P3 (r2.mono f3 i3) e3, rd_ok P3 r3 e4, hk, k, rfl, Post.treeB q5 P3⟩
      · cases ht2
  · cases ht
theorem PW.imp {e : Expr} {t t' : TT} (h : PW X e t) (q : ∀ σ H Q, t' σ H Q → t σ H Q) : PW X e t' := ⟨fun wh pins s σ H Q I z => h.run wh pins s σ H Q I (q _ _ _ z)⟩
theorem qw_and1 (ha : PT X e1 (tT X.K W cl pm a)) : PW X (.BoolOp .And [e1] pos) (tT X.K W cl pm a) := pw_and1 ha
theorem qw_or1 (ha : PT X e1 (tT X.K W cl pm a)) : PW X (.BoolOp .Or [e1] pos) (tT X.K W cl pm a) := pw_or1 ha
theorem qw_and {rest : List Expr} (ha : PT X e1 (tT X.K W cl pm a)) (hb : PW X (.BoolOp .And (e2 :: rest) pos) (tT X.K W cl pm b)) : PW X (.BoolOp .And (e1 :: e2 :: rest) pos) (tT X.K W cl pm (.andV a b)) := by
  refine PW.imp (pw_and ha hb) ?_
  rintro σ H Q ⟨B, G, m, S, r, hP, hE, q⟩
  refine tT_mono (stepT hP hE q) ?_
  rintro k H1 ⟨G1, m1, S1, i1, f1, P1, E1, q1⟩
  cases k with
  | true => exact iteT ⟨B, G1, m1, S1, r, P1, E1, q1⟩
  | false => exact iteF (Post.treeB q1 P1)
theorem qw_or {rest : List Expr} (ha : PT X e1 (tT X.K W cl pm a)) (hb : PW X (.BoolOp .Or (e2 :: rest) pos) (tT X.K W cl pm b)) : PW X (.BoolOp .Or (e1 :: e2 :: rest) pos) (tT X.K W cl pm (.orV a b)) := by
  refine PW.imp (pw_or ha hb) ?_
  rintro σ H Q ⟨B, G, m, S, r, hP, hE, q⟩
  refine tT_mono (stepT hP hE q) ?_
  rintro k H1 ⟨G1, m1, S1, i1, f1, P1, E1, q1⟩
  cases k with
  | false => exact iteF ⟨B, G1, m1, S1, r, P1, E1, q1⟩
  | true => exact iteT (Post.treeB q1 P1)
theorem qt_not (ha : PT X e1 (tT X.K W cl pm a)) : PT X (.UnaryOp .Not e1 pos) (tT X.K W cl pm (.notV a)) := by
  refine PT.imp (pt_not ha) ?_
  rintro σ H Q ⟨B, G, m, S, r, hP, hE, q⟩
  refine tT_mono (stepT hP hE q) ?_
  rintro k H1 ⟨G1, m1, S1, i1, f1, P1, E1, q1⟩
  exact Post.treeB q1 P1

/-! ### arguments, displays -/
theorem qa_nil : PA X [] (tA X.K W cl pm .nil) := by
  refine PA.imp pa_nil ?_
  rintro σ H Q ⟨B, G, m, S, r, hP, hE, q⟩
  exact q [] H G m (pre_rfl m) (Fz.refl G) hP ⟨[], rfl, .nil⟩
theorem qa_cons {es : List Expr} (ha : PE X e1 (tE X.K W cl pm a)) (hb : PA X es (tA X.K W cl pm b)) (hs : starEach (e1 :: es) X.env = (false, eval e1 X.env) :: starEach es X.env) : PA X (e1 :: es) (tA X.K W cl pm (.cons a b)) := by
  refine PA.imp (pa_cons ha hb hs) ?_
  rintro σ H Q ⟨B, G, m, S, r, hP, hE, q⟩
  refine tE_mono (stepE hP hE q) ?_
  rintro v H1 ⟨G1, m1, S1, d, i1, f1, P1, E1, r1, q1⟩
  refine tA_mono (stepA P1 E1 q1) ?_
  rintro vs H2 ⟨G2, m2, S2, ds, i2, f2, P2, E2, r2, q2⟩
  exact q2 (v :: vs) H2 G2 m2 (pre_rfl m2) (Fz.refl G2) P2 ⟨d :: ds, rfl, .cons (r1.mono f2 i2) r2⟩
theorem qe_tup {es : List Expr} {k : Nat} (ha : PA X es (tA X.K W cl pm a)) : PE X (.Tuple es k pos) (tE X.K W cl pm (.tup a)) := by
  refine PE.imp (pe_tup ha) ?_
  rintro σ H Q ⟨B, G, m, S, r, hP, hE, q⟩
  refine tA_mono (stepA hP hE q) ?_
  rintro vs H1 ⟨G1, m1, S1, ds, i1, f1, P1, E1, r1, q1⟩
  obtain ⟨t, ht, q2⟩ := q1.opt1
  cases e1 : trL ds with
  | none =>
    have ht : (match trL ds with
      | some ts => if ts.length ≤ line then some (D.t (.tup ts)) else none
      | none => none) = some t := ht
    rw [e1] at ht; cases ht
  | some ts =>
    have ht : (match trL ds with
      | some ts => if ts.length ≤ line then some (D.t (.tup ts)) else none
      | none => none) = some t := ht
    rw [e1] at ht
    simp only at ht
    split at ht
    · rename_i hl
      cases ht
      have rl := r1.tr e1
      refine ⟨by rw [← line_eq, rl.length]; exact hl, fun p hp => ?_⟩
      have al : Al G1 H1 (upd G1 p (.tup vs)) (upd H1 p (.tup vs)) := Al.lay P1.fz hp fun ob u z => by cases z
      exact Post.tree q2 P1 al (.tup upd_same (rl.mono al.fz))
    · cases ht
theorem qe_lst {fr : Bool} {es : List Expr} (ha : PA X es (tA X.K W cl pm a)) : PE X (.List es pos) (tE X.K W cl pm (.lst fr a)) := by
  refine PE.imp (pe_lst ha) ?_
  rintro σ H Q ⟨B, G, m, S, r, hP, hE, q⟩
  refine tA_mono (stepA hP hE q) ?_
  rintro vs H1 ⟨G1, m1, S1, ds, i1, f1, P1, E1, r1, q1⟩
  obtain ⟨t, ht, q2⟩ := q1.optB
  have ht : (match trL ds with
    | some ts => if ts.length ≤ line then some ts else none
    | none => none) = some t := ht
  cases e1 : trL ds with
  | none => rw [e1] at ht; cases ht
  | some ts =>
    rw [e1] at ht
    simp only at ht
    split at ht
    · rename_i hl
      cases ht
      have rl := r1.tr e1
      exact ⟨by rw [← line_eq, rl.length]; exact hl, own_lst P1 q2 rl⟩
    · cases ht
theorem qe_dct {fr tk : Bool} : PE X (.Dict [] [] pos) (tE X.K W cl pm (.dct fr tk)) := by
  cases tk with
  | false =>
    refine PE.imp pe_dnewK ?_
    rintro σ H Q ⟨B, G, m, S, r, hP, hE, q⟩
    exact own_dct (tk := false) hP q
  | true =>
    refine PE.imp pe_dnewT ?_
    rintro σ H Q ⟨B, G, m, S, r, hP, hE, q⟩
    exact own_dct (tk := true) hP q
/-! ### subscripts -/
theorem qe_idx (hu : X.A.units + 1 < cLine) (ha : PE X e1 (tE X.K W cl pm a)) (hb : PE X e2 (tE X.K W cl pm b)) (hs : PlainIx e2) : PE X (.Subscript e1 e2 pos) (tE X.K W cl pm (.idx a b)) := by
  refine PE.imp (pe_ix (ix_T hu) ha hb hs) ?_
  rintro σ H Q ⟨B, G, m, S, r, hP, hE, q⟩
  refine tE_mono (stepE hP hE q) ?_
  rintro v H1 ⟨G1, m1, S1, d, i1, f1, P1, E1, r1, q1⟩
  refine tE_mono (stepE P1 E1 q1) ?_
  rintro v2 H2 ⟨G2, m2, S2, d2, i2, f2, P2, E2, r2, q2⟩
  obtain ⟨t, ht, q3⟩ := q2.opt1
  split at ht
  · rename_i x y e1 e2
    obtain ⟨z, hz, rfl⟩ := Option.map_eq_some_iff.mp ht
    exact ⟨G2, x, y, z, P2.fz, rd_ok P2 (r1.mono f2 i2) e1, rd_ok P2 r2 e2, hz, fun v' H' G' al rp => Post.tree q3 P2 al rp⟩
  · cases ht

/-! ### slices -/
def tO (K : PySem.W.Frag) (W : WX) (cl : Nat → List D → Sto → R D) (pm : Nat → List D → List D → Option (List D)) (lo : Option Unit) (b : C) : TO := match lo with
  | none => tNoPart
  | some _ => tPart (tE K W cl pm b)
theorem tO_mono {K : PySem.W.Frag} {H : Hp} {σ : L2.St} {lo : Option Unit} {Q Q' : Option Int → Hp → Prop} (h : tO K W cl pm lo b σ H Q) (hq : ∀ v H', Q v H' → Q' v H') : tO K W cl pm lo b σ H Q' := by
  cases lo with
  | none => unfold tO at h ⊢; exact hq _ _ h
  | some u => unfold tO at h ⊢; exact tE_mono h fun v H' ⟨i, e, q⟩ => ⟨i, e, hq _ _ q⟩
theorem tO_step {K : PySem.W.Frag} {B G H : Hp} {m : List Addr} {S : Sto} {r : Env} {σ : L2.St} {α β : Type} {Rs : Hp → Hp → List Addr → α → β → Prop} {Q : β → Hp → Prop} {f : Option Int → Sto → R α} {lo : Option Unit} (nl : lo = none → b = .nil) (h : Pre K B G m S H) (e : RelE K G m r σ)
    (q : Post K B W σ G m Rs Q ((ev cl pm b r S).bind fun y S => (R.opt (partT lo y) S).bind f)) :
    tO K W cl pm lo b σ H (fun l H1 => ∃ G1 m1 S1, m <+: m1 ∧ Fz G G1 ∧ Pre K B G1 m1 S1 H1 ∧ RelE K G1 m1 r σ ∧ Post K B W σ G1 m1 Rs Q (f l S1)) := by
  cases lo with
  | none =>
    have hb := nl rfl
    subst hb
    unfold tO
    exact ⟨G, m, S, pre_rfl m, Fz.refl G, h, e, q⟩
  | some u =>
    unfold tO
    refine tE_mono (stepE h e q) ?_
    rintro v H1 ⟨G1, m1, S1, d, i1, f1, P1, E1, r1, q1⟩
    obtain ⟨t, ht, q2⟩ := q1.optB
    unfold partT at ht
    split at ht
    · rename_i z; cases z
    · cases ht
      cases r1 with
      | t r1 => cases r1; exact ⟨_, rfl, G1, m1, S1, i1, f1, P1, E1, q2⟩
    · cases ht
theorem qe_sl {lo hi : Option Unit} {el eh : Option Expr} {p2 : Pos} (ha : PE X e1 (tE X.K W cl pm a)) (hl : PO X el (tO X.K W cl pm lo b)) (hh : PO X eh (tO X.K W cl pm hi c)) (nl : lo = none → b = .nil) (nh : hi = none → c = .nil) :
    PE X (.Subscript e1 (.Slice el eh none p2) pos) (tE X.K W cl pm (.sl false a lo hi b c)) := by
  refine PE.imp (pe_slice sl_G ha hl hh) ?_
  rintro σ H Q ⟨B, G, m, S, r, hP, hE, q⟩
  refine tE_mono (stepE hP hE q) ?_
  rintro v H1 ⟨G1, m1, S1, d, i1, f1, P1, E1, r1, q1⟩
  refine tO_mono (tO_step nl P1 E1 q1) ?_
  rintro l H2 ⟨G2, m2, S2, i2, f2, P2, E2, q2⟩
  refine tO_mono (tO_step nh P2 E2 q2) ?_
  rintro u H3 ⟨G3, m3, S3, i3, f3, P3, E3, q3⟩
  obtain ⟨t, ht, q4⟩ := q3.optB
  obtain ⟨d0, e, ht2⟩ := Option.bind_eq_some_iff.mp ht
  exact ⟨G3, d0, t, P3.fz, rd_ok P3 (r1.mono (f2.trans f3) (i2.trans i3)) e, ht2, fun v' H' G' al rp => Post.tree q4 P3 al rp⟩

/-! ### calls -/
theorem Post.slots {K : PySem.W.Frag} {B G : Hp} {m : List Addr} {σ : L2.St} {α β : Type} {Rs : Hp → Hp → List Addr → α → β → Prop} {Q : β → Hp → Prop} {q : R α} (h : Post K B W σ G m Rs Q q) : Post K B (fun c d _ H => W c d σ H) [] G m Rs Q q := by
  cases q <;> exact h
/-- what a def in short promises -/
def spF (K : PySem.W.Frag) (cl : Nat → List D → Sto → R D) (f np : Nat) : Sp := fun vs H Q E => ∃ B G m S ds, ds.length = np ∧ Pre K B G m S H ∧ RpDs K G m ds vs ∧ Post K B (fun c d _ H => E c d H) [] G m (RD K) Q (cl f ds S)
/-- a def of the text, by its number -/
structure FnAt (X : Cx) (cl : Nat → List D → Sto → R D) (n f : Nat) (x : Str) (np : Nat) : Prop where
  ex : ∃ (a : Addr) (fd : FuncData) (ps : List Str), X.mg x = some (.ref a) ∧ PySem.W.keepIn X.K (.ref a) = true ∧ Binds X.K fd ps [] ∧ FnOk X.prog X.w X.K X.mg X.base (L2.CX X.prog X.w) n a fd ps (spF X.K cl f np)
  ln : ∀ ds S, ds.length ≠ np → cl f ds S = .bad
theorem Post.ln {K : PySem.W.Frag} {B G : Hp} {m : List Addr} {σ : L2.St} {α β : Type} {Rs : Hp → Hp → List Addr → α → β → Prop} {Q : β → Hp → Prop} {q : R α} {p : Prop} (h : Post K B W σ G m Rs Q q) (hb : ¬ p → q = .bad) : p :=
  Classical.byContradiction fun z => by rw [hb z] at h; exact h
theorem qe_call {n f np : Nat} {x : Str} {p : Pos} {es : List Expr} (F : FnAt X cl n f x np) (hr : Room n X.A) (hg : Gl X x) (tk : Takes X W) (ha : PA X (e1 :: es) (tA X.K W cl pm a)) (hdb : (x == ("__debug__" : Str)) = false)
    (he : starEach (e1 :: es) X.env = (false, eval e1 X.env) :: starEach es X.env) (hpl : (backTo pos (starEach es X.env)).any (·.1) = false) : PE X (.Call (.Name x p) (e1 :: es) [] pos) (tE X.K W cl pm (.call f a)) := by
  obtain ⟨ad, fd, ps, hm, hk, hb, hF⟩ := F.ex
  refine PE.imp (pe_callSD (E := fun σ c d H => W c d σ H) hF hr hg hm hk hb .nil (fun σ => passAt tk σ) ha hdb he hpl) ?_
  rintro σ H Q ⟨B, G, m, S, r, hP, hE, q⟩
  refine tA_mono (stepA hP hE q) ?_
  rintro vs H1 ⟨G1, m1, S1, ds, i1, f1, P1, E1, r1, q1⟩
  have q2 : Post X.K B W σ G1 m1 (RD X.K) Q (cl f ds S1) := q1
  rw [List.append_nil]
  exact ⟨B, G1, m1, S1, ds, Post.ln q2 (F.ln ds S1), P1, r1, q2.slots⟩
theorem qe_call0 {n f np : Nat} {x : Str} {p : Pos} (F : FnAt X cl n f x np) (hr : Room n X.A) (hg : Gl X x) (tk : Takes X W) (hdb : (x == ("__debug__" : Str)) = false) : PE X (.Call (.Name x p) [] [] pos) (tE X.K W cl pm (.call f .nil)) := by
  obtain ⟨ad, fd, ps, hm, hk, hb, hF⟩ := F.ex
  refine ⟨fun pins s σ H Q I h => ?_⟩
  obtain ⟨B, G, m, S, r, hP, hE, q⟩ := h
  have q2 : Post X.K B W σ G m (RD X.K) Q (cl f [] S) := q
  refine wpAny_Call_Name_kw (ld_glob I hg hm ?_ hdb)
  exact PySem.W.callWith_K0 I.kIn hk (run_fnSD (E := fun σ c d H => W c d σ H) (vs := []) hF hr hb .nil (passAt tk σ) I .nil ⟨B, G, m, S, [], Post.ln q2 (F.ln [] S), hP, .nil, q2.slots⟩)

/-! ### built-in functions -/
theorem pe_bi {r : List V → Hp → VK → Prop} {p : Pos} {es : List Expr} {t : TA} (b : BI) (hc : CallR X b.vl r) (hg : Gl X b.nm) (hm : X.mg b.nm = none) (ha : PA X (e1 :: es) t)
    (he : starEach (e1 :: es) X.env = (false, eval e1 X.env) :: starEach es X.env) (hpl : (backTo pos (starEach es X.env)).any (·.1) = false) : PE X (.Call (.Name b.nm p) (e1 :: es) [] pos) (tCB r t) := by
  cases b <;> first
    | exact pe_callB hc hg hm (BI.boot _) ha (by decide) (by decide) he hpl
    | exact pe_callTy hc hg hm (BI.boot _) ha (by decide) (by decide) he hpl
def rCL (K : PySem.W.Frag) (f : List T → Option T) : List V → Hp → VK → Prop := fun xs H Q => ∃ G ds es, Fz G H ∧ VwL K G H xs ds ∧ f ds = some (.lst es) ∧ ∀ (vs : List V), RpL K G vs es → ∀ p, H p = none → Q (.ref p) (upd H p (.lst vs))
theorem bi_list_ok : CallR X (BI.vl .list) (rCL X.K (biT .list)) := by
  refine CallR.pick ?_
  rintro xs H Q ⟨G, ds, r, f, hx, hb, q⟩
  unfold biT at hb
  split at hb <;> rename_i hh <;> first | cases hh | skip
  · obtain ⟨x, rfl, h1⟩ := hx.one
    cases hb
    obtain ⟨a, ys, rfl, h2, h3⟩ := h1.lst_inv f
    exact ⟨_, call_list_of, a, ys, rfl, .inl (.inl h2), q _ h3⟩
  · obtain ⟨x, rfl, h1⟩ := hx.one
    cases hb
    obtain ⟨a, ys, rfl, h2, h3⟩ := h1.tup_inv f
    exact ⟨_, call_list_of, a, ys, rfl, .inr (SqT.of h2), q _ h3⟩
  · obtain ⟨x, rfl, h1⟩ := hx.one
    cases hb
    obtain ⟨a, rfl, h2⟩ := h1.scr_inv f
    exact ⟨_, call_list_of, a, _, rfl, .inl h2, q _ (RpL.ints _)⟩
  · cases hb
theorem qe_bi {p : Pos} {es : List Expr} (hc : X.calm = true) (b : BI) (hg : Gl X b.nm) (hm : X.mg b.nm = none) (ha : PA X (e1 :: es) (tA X.K W cl pm a))
    (he : starEach (e1 :: es) X.env = (false, eval e1 X.env) :: starEach es X.env) (hpl : (backTo pos (starEach es X.env)).any (·.1) = false) : PE X (.Call (.Name b.nm p) (e1 :: es) [] pos) (tE X.K W cl pm (.bi false b a)) := by
  refine PE.imp (pe_bi b (bi_ok hc b) hg hm ha he hpl) ?_
  rintro σ H Q ⟨B, G, m, S, r, hP, hE, q⟩
  refine tA_mono (stepA hP hE q) ?_
  rintro vs H1 ⟨G1, m1, S1, ds, i1, f1, P1, E1, r1, q1⟩
  obtain ⟨t, ht, q2⟩ := q1.optB
  obtain ⟨ts, h1, h2⟩ := Option.bind_eq_some_iff.mp ht
  exact ⟨G1, ts, t, P1.fz, r1.vw P1 h1, h2, fun v' H' G' al rp => Post.tree q2 P1 al rp⟩
theorem own_true_lst {K : PySem.W.Frag} {B G : Hp} {m : List Addr} {S : Sto} {σ : L2.St} {Q : VK} {ts : List T} {t : T} (q : Post K B W σ G m (RD K) Q (own true t S)) (h : biT .list ts = some t) : ∃ es, t = .lst es := by
  unfold biT at h
  split at h <;> rename_i hh <;> first | cases hh | skip
  · cases h; exact ⟨_, rfl⟩
  · cases h; exact ⟨_, rfl⟩
  · cases h; exact ⟨_, rfl⟩
  · cases h
theorem qe_biF {p : Pos} {es : List Expr} (hg : Gl X (BI.nm .list)) (hm : X.mg (BI.nm .list) = none) (ha : PA X (e1 :: es) (tA X.K W cl pm a))
    (he : starEach (e1 :: es) X.env = (false, eval e1 X.env) :: starEach es X.env) (hpl : (backTo pos (starEach es X.env)).any (·.1) = false) : PE X (.Call (.Name (BI.nm .list) p) (e1 :: es) [] pos) (tE X.K W cl pm (.bi true .list a)) := by
  refine PE.imp (pe_bi .list bi_list_ok hg hm ha he hpl) ?_
  rintro σ H Q ⟨B, G, m, S, r, hP, hE, q⟩
  refine tA_mono (stepA hP hE q) ?_
  rintro vs H1 ⟨G1, m1, S1, ds, i1, f1, P1, E1, r1, q1⟩
  obtain ⟨t, ht, q2⟩ := q1.optB
  obtain ⟨ts, h1, h2⟩ := Option.bind_eq_some_iff.mp ht
  obtain ⟨es, rfl⟩ := own_true_lst q2 h2
  exact ⟨G1, ts, es, P1.fz, r1.vw P1 h1, h2, fun xs hx => own_lst P1 q2 hx⟩
/-- isinstance(x, c) -/
theorem qe_isi1 {p p2 : Pos} {c : Str} {ty : String} (hg : Gl X "isinstance") (hm : X.mg "isinstance" = none) (hgc : Gl X c) (hmc : X.mg c = none) (hbc : bootBuiltins c = some (.type ty)) (hn : c ≠ "__name__") (hdb : (c == ("__debug__" : Str)) = false)
    (ha : PE X e1 (tE X.K W cl pm a)) (he : starEach [e1, .Name c p2] X.env = (false, eval e1 X.env) :: starEach [.Name c p2] X.env) (hpl : (backTo pos (starEach [.Name c p2] X.env)).any (·.1) = false) (he2 : starEach [.Name c p2] X.env = (false, eval (.Name c p2) X.env) :: starEach [] X.env) :
    PE X (.Call (.Name "isinstance" p) [e1, .Name c p2] [] pos) (tE X.K W cl pm (.isi a [ty] true)) := by
  refine PE.imp (pe_callB call_isi hg hm boot_isinstance (pa_cons ha (pa_cons (pe_bltn (v := .ty ty) hgc hmc hbc rfl hn hdb) pa_nil he2) he) (by decide) (by decide) he hpl) ?_
  rintro σ H Q ⟨B, G, m, S, r, hP, hE, q⟩
  refine tE_mono (stepE hP hE q) ?_
  rintro v H1 ⟨G1, m1, S1, d, i1, f1, P1, E1, r1, q1⟩
  obtain ⟨t, ht, q2⟩ := q1.opt1
  obtain ⟨k, hk, rfl⟩ := Option.map_eq_some_iff.mp ht
  obtain ⟨ty', h1, h2⟩ := Option.bind_eq_some_iff.mp hk
  obtain ⟨t', h3, h4⟩ := Option.bind_eq_some_iff.mp h1
  have hb : kitB ty' ty = some k := by
    unfold isiAny at h2
    split at h2
    · rename_i e; cases h2; exact e
    · rename_i e; unfold isiAny at h2; cases h2; exact e
    · cases h2
  exact ⟨v, .ty ty, .type ty', .type ty, k, rfl, .ty ty, tyT_ok P1.fz (rd_ok P1 r1 h3) h4, kit_ty hb, Post.tree q2 P1 (Al.refl P1.fz) (.bl _)⟩
/-- the names of built-in classes -/
theorem pa_tys {env : PySem.Env} (henv : env = X.env) : ∀ (cs : List (Str × Pos)) (tys : List String), (∀ q ∈ cs, Gl X q.1 ∧ X.mg q.1 = none ∧ q.1 ≠ "__name__" ∧ (q.1 == ("__debug__" : Str)) = false) →
    Paired (fun (q : Str × Pos) (ty : String) => bootBuiltins q.1 = some (.type ty)) cs tys → PA X (cs.map fun q => .Name q.1 q.2) (fun _ H Q => Q (tys.map V.ty) H)
  | [], _, _, .nil => PA.imp pa_nil fun _ _ _ z => z
  | q :: cs, _, h, .cons (b := ty) r t => by
    obtain ⟨h1, h2, h3, h4⟩ := h q List.mem_cons_self
    refine PA.imp (pa_cons (pe_bltn (v := .ty ty) h1 h2 r rfl h3 h4) (pa_tys henv cs _ (fun q' hq => h q' (List.mem_cons_of_mem _ hq)) t) rfl) ?_
    intro σ H Q z
    exact z
theorem kitAny_of {K : PySem.W.Frag} {ty : String} : ∀ {cs : List String} {k : Bool}, isiAny ty cs = some k → PySem.W.kitAny K (.type ty) (cs.map Value.type) = some k
  | [], k, h => by cases h; exact kitAny_nil
  | c :: cs, k, h => by
    unfold isiAny at h
    split at h
    · rename_i e; cases h; exact kitAny_cons (kit_ty e) (fun z => nomatch z) fun _ => rfl
    · rename_i e; exact kitAny_cons (kit_ty e) (fun _ => kitAny_of h) fun z => nomatch z
    · cases h
theorem paired_ty : ∀ (tys : List String), Paired ClsV (tys.map V.ty) (tys.map Value.type)
  | [] => .nil
  | t :: r => .cons (.ty t) (paired_ty r)
theorem qe_isiN {p p2 : Pos} {k0 : Nat} {cs : List (Str × Pos)} {tys : List String} (hg : Gl X "isinstance") (hm : X.mg "isinstance" = none) (hcs : ∀ q ∈ cs, Gl X q.1 ∧ X.mg q.1 = none ∧ q.1 ≠ "__name__" ∧ (q.1 == ("__debug__" : Str)) = false)
    (hp : Paired (fun (q : Str × Pos) (ty : String) => bootBuiltins q.1 = some (.type ty)) cs tys) (hl : tys.length ≤ 1000) (ha : PE X e1 (tE X.K W cl pm a)) (he : starEach [e1, .Tuple (cs.map fun q => .Name q.1 q.2) k0 p2] X.env = (false, eval e1 X.env) :: starEach [.Tuple (cs.map fun q => .Name q.1 q.2) k0 p2] X.env) :
    PE X (.Call (.Name "isinstance" p) [e1, .Tuple (cs.map fun q => .Name q.1 q.2) k0 p2] [] pos) (tE X.K W cl pm (.isi a tys false)) := by
  refine PE.imp (pe_callB call_isiT hg hm boot_isinstance (pa_cons ha (pa_cons (pe_tup (pa_tys rfl cs tys hcs hp)) pa_nil rfl) he) (by decide) (by decide) he rfl) ?_
  rintro σ H Q ⟨B, G, m, S, r, hP, hE, q⟩
  refine tE_mono (stepE hP hE q) ?_
  rintro v H1 ⟨G1, m1, S1, d, i1, f1, P1, E1, r1, q1⟩
  obtain ⟨t, ht, q2⟩ := q1.opt1
  obtain ⟨k, hk, rfl⟩ := Option.map_eq_some_iff.mp ht
  obtain ⟨ty', h1, h2⟩ := Option.bind_eq_some_iff.mp hk
  obtain ⟨t', h3, h4⟩ := Option.bind_eq_some_iff.mp h1
  refine ⟨by rw [List.length_map]; exact Nat.le_trans hl (by decide), fun p hp => ?_⟩
  have al : Al G1 H1 (upd G1 p (.tup (tys.map V.ty))) (upd H1 p (.tup (tys.map V.ty))) := Al.lay P1.fz hp fun ob u z => by cases z
  exact ⟨v, p, _, .type ty', _, k, rfl, upd_same, paired_ty tys, tyT_ok al.fz' ((rd_ok P1 r1 h3).mono al) h4, kitAny_of h2, Post.tree q2 P1 al (.bl _)⟩

/-! ### calls with keywords -/
def gOf {α : Type} (p k : Nat) (ix : List Nat) (d : α) (us ws : List α) : List α := if us.length = p ∧ ws.length = k then ix.map fun j => (us ++ ws).getD j d else []
def pmOf (p k : Nat) (ix : List Nat) (ds es : List D) : Option (List D) := if ds.length = p ∧ es.length = k ∧ ix.all (fun j => j < p + k) then some (ix.map fun j => (ds ++ es).getD j (.l [])) else none
structure KwAt (X : Cx) (cl : Nat → List D → Sto → R D) (n f : Nat) (x : Str) (p k : Nat) (ks : List Str) (ix : List Nat) : Prop where
  ex : ∃ (a : Addr) (fd : FuncData) (ps : List Str), X.mg x = some (.ref a) ∧ PySem.W.keepIn X.K (.ref a) = true ∧ FnOk X.prog X.w X.K X.mg X.base (L2.CX X.prog X.w) n a fd ps (spF X.K cl f ix.length) ∧ ps.length = ix.length ∧
    ∀ (s : Shared) (us ws : List Value), us.length = p → ws.length = k → BindsTo s fd ⟨us, ks.zip ws⟩ (ps.zip (ix.map fun j => (us ++ ws).getD j .none))
  pos : ix ≠ []
theorem vals_getD {vs : List V} {us : List Value} (r : Vals vs us) (j : Nat) : RelV (vs.getD j .non) (us.getD j .none) := by
  rw [List.getD_eq_getElem?_getD, List.getD_eq_getElem?_getD]
  cases e : vs[j]? with
  | none => rw [r.none_of e]; rfl
  | some v =>
    obtain ⟨u, h1, h2⟩ := r.get e
    rw [h1]; exact h2
theorem KwAt.kb {n f : Nat} {x : Str} {p k : Nat} {ks : List Str} {ix : List Nat} (F : KwAt X cl n f x p k ks ix) : ∃ (a : Addr) (fd : FuncData) (ps : List Str), X.mg x = some (.ref a) ∧ PySem.W.keepIn X.K (.ref a) = true ∧ FnOk X.prog X.w X.K X.mg X.base (L2.CX X.prog X.w) n a fd ps (spF X.K cl f ix.length) ∧
    KBinds X.K fd ps ks (gOf p k ix .none) (gOf p k ix .non) := by
  obtain ⟨a, fd, ps, h1, h2, h3, h4, h5⟩ := F.ex
  refine ⟨a, fd, ps, h1, h2, h3, ⟨fun s us ws _ hl => ?_, fun {vs us zs ws} r1 r2 => ?_⟩⟩
  · unfold gOf at hl ⊢
    split
    · rename_i h; exact h5 s us ws h.1 h.2
    · rename_i h
      rw [if_neg h] at hl
      have : ix.length = 0 := by rw [← h4]; exact hl.symm
      exact absurd (List.length_eq_zero_iff.mp this) F.pos
  · unfold gOf
    rw [r1.length, r2.length]
    split
    · have go : ∀ l : List Nat, Vals (l.map fun j => (vs ++ zs).getD j .non) (l.map fun j => (us ++ ws).getD j .none) := fun l => by
        induction l with
        | nil => exact .nil
        | cons j l ih => exact .cons (vals_getD (r1.append r2) j) ih
      exact go ix
    · exact .nil
theorem rpDs_getD {K : PySem.W.Frag} {G : Hp} {m : List Addr} : ∀ {ds : List D} {vs : List V} (j : Nat), j < ds.length → RpDs K G m ds vs → RpD K G m (ds.getD j (.l [])) (vs.getD j .non)
  | _, _, j, h, .nil => by simp at h
  | _, _, 0, _, .cons r _ => r
  | _, _, j + 1, h, .cons _ t => by
    have := rpDs_getD j (by simpa using h) t
    simpa using this
theorem RpDs.append {K : PySem.W.Frag} {G : Hp} {m : List Addr} : ∀ {ds es : List D} {vs ws : List V}, RpDs K G m ds vs → RpDs K G m es ws → RpDs K G m (ds ++ es) (vs ++ ws)
  | _, _, _, _, .nil, s => s
  | _, _, _, _, .cons r t, s => .cons r (RpDs.append t s)
theorem pm_rp {K : PySem.W.Frag} {G : Hp} {m : List Addr} {p k : Nat} {ix : List Nat} {ds es fs : List D} {vs ws : List V} (r1 : RpDs K G m ds vs) (r2 : RpDs K G m es ws) (h : pmOf p k ix ds es = some fs) : RpDs K G m fs (gOf p k ix .non vs ws) := by
  unfold pmOf at h
  split at h
  · rename_i hh
    cases h
    unfold gOf
    rw [← r1.length, ← r2.length, if_pos ⟨hh.1, hh.2.1⟩]
    have go : ∀ l : List Nat, l.all (fun j => j < p + k) = true → RpDs K G m (l.map fun j => (ds ++ es).getD j (.l [])) (l.map fun j => (vs ++ ws).getD j .non) := fun l => by
      induction l with
      | nil => intro _; exact .nil
      | cons j l ih =>
        intro hl
        rw [List.all_cons, Bool.and_eq_true] at hl
        exact .cons (rpDs_getD j (by rw [List.length_append, hh.1, hh.2.1]; exact of_decide_eq_true hl.1) (r1.append r2)) (ih hl.2)
    exact go ix hh.2.2
  · cases h
/-- the values of the keywords -/
def kwEs (kws : List Keyword) : List Expr := kws.map fun q => q.value
theorem run_fnkS {n : Nat} {f : Addr} {fd : FuncData} {ps ks : List Str} {sp : Sp} {E : L2.St → XK} {g : List Value → List Value → List Value} {gV : List V → List V → List V} {pins : List (Addr × Obj)} {σ : L2.St} {H : Hp} {s : Shared} {Q : VK} {us ws : List Value} {vs zs : List V} (F : FnOk X.prog X.w X.K X.mg X.base (L2.CX X.prog X.w) n f fd ps sp) (hr : Room n X.A)
    (hb : KBinds X.K fd ps ks g gV) (hx : PassesAt (L2.CX X.prog X.w) X σ (E σ)) (I : L2.Inv X pins σ H s) (r : Vals vs us) (rz : Vals zs ws) (h : sp (gV vs zs) H Q (E σ)) : wpAny (model X.prog X.w) X.A (call (.ref f) us (ks.zip ws)) (EP X pins σ Q) X.xe s := by
  have r2 := hb.rel r rz
  have hl : (g us ws).length = ps.length := by rw [← r2.length]; exact F.len _ _ _ _ h
  refine wpAny_call (codeAny_mono (F.run X.A X.stack s H ⟨us, ks.zip ws⟩ (g us ws) (gV vs zs) Q (E σ) hr I.env0 (hb.to s us ws I.kIn hl) r2 h) fun r s' hq => ?_)
  cases r with
  | error e => exact hx pins H s e s' I hq
  | ok fl =>
    cases fl with
    | ret u => exact I.after hq
    | next => exact False.elim hq
    | brk => exact False.elim hq
    | cont => exact False.elim hq
theorem pk_of {kws : List Keyword} {t : TA} (h : PA X (kwEs kws) t) : True := trivial
inductive PKq (X : Cx) (W : WX) (cl : Nat → List D → Sto → R D) (pm : Nat → List D → List D → Option (List D)) : List Keyword → C → Prop
  | nil : PKq X W cl pm [] .nil
  | cons {nm : Option Str} {e : Expr} {p : Pos} {kws : List Keyword} {a b : C} : PE X e (tE X.K W cl pm a) → PKq X W cl pm kws b → PKq X W cl pm (⟨nm, e, p⟩ :: kws) (.cons a b)
theorem PKq.pk : ∀ {kws : List Keyword} {c : C}, PKq X W cl pm kws c → PK X kws (tA X.K W cl pm c)
  | _, _, .nil => ⟨fun pos pins s σ H Q I z => by
    obtain ⟨B, G, m, S, r, hP, hE, q⟩ := z
    exact pk_nil.run pos pins s σ H Q I (q [] H G m (pre_rfl m) (Fz.refl G) hP ⟨[], rfl, .nil⟩)⟩
  | _, _, .cons ha hb => ⟨fun pos pins s σ H Q I z => by
    obtain ⟨B, G, m, S, r, hP, hE, q⟩ := z
    refine (pk_cons ha hb.pk).run pos pins s σ H Q I ?_
    refine tE_mono (stepE hP hE q) ?_
    rintro v H1 ⟨G1, m1, S1, d, i1, f1, P1, E1, r1, q1⟩
    refine tA_mono (stepA P1 E1 q1) ?_
    rintro vs H2 ⟨G2, m2, S2, ds, i2, f2, P2, E2, r2, q2⟩
    exact q2 (v :: vs) H2 G2 m2 (pre_rfl m2) (Fz.refl G2) P2 ⟨d :: ds, rfl, .cons (r1.mono f2 i2) r2⟩⟩
theorem kw_fin {f g : Nat} {p k : Nat} {ix : List Nat} {σ : L2.St} {Q : VK} {B G1 G2 H2 : Hp} {m1 m2 : List Addr} {S2 : Sto} {ds es : List D} {vs zs : List V} (hpm : pm g = pmOf p k ix) (ln : ∀ ds S, ds.length ≠ ix.length → cl f ds S = .bad)
    (i2 : m1 <+: m2) (f2 : Fz G1 G2) (P2 : Pre X.K B G2 m2 S2 H2) (r1 : RpDs X.K G1 m1 ds vs) (r2 : RpDs X.K G2 m2 es zs)
    (q2 : Post X.K B W σ G2 m2 (RD X.K) Q ((R.opt (match (D.l ds).ls, (D.l es).ls with
    | some ds, some es => pm g ds es
    | _, _ => none) S2).bind fun ds S => cl f ds S)) : spF X.K cl f ix.length (gOf p k ix .non vs zs) H2 Q (fun c d H => W c d σ H) := by
  obtain ⟨fs, hfs, q3⟩ := q2.optB
  have hfs : pm g ds es = some fs := hfs
  rw [hpm] at hfs
  exact ⟨B, G2, m2, S2, fs, Post.ln q3 (ln fs S2), P2, pm_rp (r1.mono f2 i2) r2 hfs, q3.slots⟩
theorem qe_callk {n f g : Nat} {x : Str} {p k : Nat} {ks : List Str} {ix : List Nat} {np : Pos} {es : List Expr} {kws : List Keyword} (F : KwAt X cl n f x p k ks ix) (hpm : pm g = pmOf p k ix) (ln : ∀ ds S, ds.length ≠ ix.length → cl f ds S = .bad) (hr : Room n X.A) (hg : Gl X x) (tk : Takes X W)
    (ha : PA X (e1 :: es) (tA X.K W cl pm a)) (hkw : PKq X W cl pm kws b) (hall : (backToKw pos (keywordEach kws X.env)).all (·.1.isSome) = true) (hks : (backToKw pos (keywordEach kws X.env)).filterMap (·.1) = ks) (hdb : (x == ("__debug__" : Str)) = false)
    (he : starEach (e1 :: es) X.env = (false, eval e1 X.env) :: starEach es X.env) (hpl : ((backTo pos (starEach (e1 :: es) X.env)).any (·.1) || (backToKw pos (keywordEach kws X.env)).any (·.1.isNone)) = false) :
    PE X (.Call (.Name x np) (e1 :: es) kws pos) (tE X.K W cl pm (.callk f g a b)) := by
  obtain ⟨ad, fd, ps, hm, hk, hF, hb⟩ := F.kb
  refine ⟨fun pins s σ H Q I h => ?_⟩
  obtain ⟨B, G, m, S, r, hP, hE, q⟩ := h
  refine wpAny_Call_Name_kw (ld_glob I hg hm ?_ hdb)
  refine PySem.W.callWith_KW (h₀ := X.base) I.ok.mod.kin hk hall (thn (ha.run pos pins s σ H _ I (stepA hP hE q)) fun us s1 ⟨vs, H1, I1, rv, G1, m1, S1, ds, i1, f1, P1, E1, r1, q1⟩ => ?_) hpl he
  refine thn (hkw.pk.run pos pins s1 σ H1 _ I1 (stepA P1 E1 q1)) fun ws s2 ⟨zs, H2, I2, rz, G2, m2, S2, es', i2, f2, P2, E2, r2, q2⟩ => ⟨I2.kIn, ?_⟩
  rw [hks]
  exact run_fnkS (E := fun σ c d H => W c d σ H) hF hr hb (passAt tk σ) I2 rv rz (kw_fin hpm ln i2 f2 P2 r1 r2 q2)
theorem qe_callk0 {n f g : Nat} {x : Str} {k : Nat} {ks : List Str} {ix : List Nat} {np : Pos} {kws : List Keyword} (F : KwAt X cl n f x 0 k ks ix) (hpm : pm g = pmOf 0 k ix) (ln : ∀ ds S, ds.length ≠ ix.length → cl f ds S = .bad) (hr : Room n X.A) (hg : Gl X x) (tk : Takes X W)
    (hkw : PKq X W cl pm kws b) (hall : (backToKw pos (keywordEach kws X.env)).all (·.1.isSome) = true) (hks : (backToKw pos (keywordEach kws X.env)).filterMap (·.1) = ks) (hdb : (x == ("__debug__" : Str)) = false)
    (hpl : ((backTo pos (starEach [] X.env)).any (·.1) || (backToKw pos (keywordEach kws X.env)).any (·.1.isNone)) = false) :
    PE X (.Call (.Name x np) [] kws pos) (tE X.K W cl pm (.callk f g .nil b)) := by
  obtain ⟨ad, fd, ps, hm, hk, hF, hb⟩ := F.kb
  refine ⟨fun pins s σ H Q I h => ?_⟩
  obtain ⟨B, G, m, S, r, hP, hE, q⟩ := h
  refine wpAny_Call_Name_kw (ld_glob I hg hm ?_ hdb)
  refine PySem.W.callWith_KW0 (h₀ := X.base) I.ok.mod.kin hk hall (thn (hkw.pk.run pos pins s σ H _ I (stepA hP hE q)) fun ws s2 ⟨zs, H2, I2, rz, G2, m2, S2, es', i2, f2, P2, E2, r2, q2⟩ => ⟨I2.kIn, ?_⟩) hpl
  rw [hks]
  exact run_fnkS (E := fun σ c d H => W c d σ H) (vs := []) hF hr hb (passAt tk σ) I2 .nil rz (kw_fin (G1 := G) (m1 := m) (ds := []) (vs := []) hpm ln i2 f2 P2 .nil r2 q2)
end
end Qq

set_option maxHeartbeats 4000000
/-! Q6: what loops go through; comprehensions. -/
namespace Qq
open PySem PySem.Spec PyProof.Rows L2

/-- an iterator over values that stand for the trees ts gives what stands for the items -/
structure SrcOk (K : PySem.W.Frag) (J : It) (vs : List V) (ts is : List T) : Prop where
  go : ∀ i G H, Fz G H → VwL K G H vs ts → i < is.length → J.go i H
  stop : ∀ G H, Fz G H → VwL K G H vs ts → J.stop is.length H
  yld : ∀ i G H x H', Fz G H → VwL K G H vs ts → i < is.length → J.yld i H x H' → ∃ G' t, is[i]? = some t ∧ Al G H G' H' ∧ Rp K G' x t

theorem len_enumT : ∀ (ds : List T) (n : Nat), (enumT n ds).length = ds.length
  | [], _ => rfl
  | d :: r, n => by unfold enumT; rw [List.length_cons, List.length_cons, len_enumT r]
theorem get_enumT : ∀ (ds : List T) (n i : Nat) (d : T), ds[i]? = some d → (enumT n ds)[i]? = some (.tup [.int ((n + i : Nat) : Int), d])
  | [], _, _, _, h => by simp at h
  | e :: r, n, 0, d, h => by simp at h; subst h; rfl
  | e :: r, n, i + 1, d, h => by
    unfold enumT
    rw [List.getElem?_cons_succ] at h ⊢
    rw [get_enumT r (n + 1) i d h]
    have : n + 1 + i = n + (i + 1) := by omega
    rw [this]
theorem len_zipT : ∀ (ds es : List T), (zipT ds es).length = min ds.length es.length
  | [], _ => by simp [zipT]
  | _ :: _, [] => by simp [zipT]
  | d :: r, e :: s => by unfold zipT; rw [List.length_cons, List.length_cons, List.length_cons, len_zipT r s]; omega
theorem get_zipT : ∀ (ds es : List T) (i : Nat) (d e : T), ds[i]? = some d → es[i]? = some e → (zipT ds es)[i]? = some (.tup [d, e])
  | [], _, _, _, _, h, _ => by simp at h
  | _ :: _, [], _, _, _, _, h => by simp at h
  | a :: r, b :: s, 0, d, e, h, h' => by simp at h h'; subst h h'; rfl
  | a :: r, b :: s, i + 1, d, e, h, h' => by
    unfold zipT
    rw [List.getElem?_cons_succ] at h h' ⊢
    exact get_zipT r s i d e h h'
theorem len_upT : ∀ (n : Nat) (a : Int), (upT a n).length = n
  | 0, _ => rfl
  | n + 1, a => by unfold upT; rw [List.length_cons, len_upT n]
theorem get_upT : ∀ (n : Nat) (a : Int) (i : Nat), i < n → (upT a n)[i]? = some (.int (a + (i : Nat)))
  | 0, _, _, h => by omega
  | n + 1, a, 0, _ => by simp [upT]
  | n + 1, a, i + 1, h => by
    unfold upT
    rw [List.getElem?_cons_succ, get_upT n (a + 1) i (by omega)]
    congr 2
    push_cast
    omega
section
variable {K : PySem.W.Frag}
theorem RpL.get' {G : Hp} {vs : List V} {ds : List T} {i : Nat} {v : V} (r : RpL K G vs ds) (h : vs[i]? = some v) : ∃ d, ds[i]? = some d ∧ Rp K G v d := by
  have hi : i < ds.length := by rw [← r.length]; exact (List.getElem?_eq_some_iff.mp h).1
  obtain ⟨v', h1, h2⟩ := r.get (i := i) (d := ds[i]) (by simp [hi])
  rw [h] at h1; cases h1
  exact ⟨_, by simp [hi], h2⟩
theorem src_lst {a : Addr} {ds : List T} : SrcOk K (Itl K a) [.ref a] [.lst ds] ds where
  go := fun i G H f h hi => by
    obtain ⟨x, e, h1⟩ := h.one
    cases e
    obtain ⟨b, xs, e, h2, h3⟩ := h1.lst_inv f
    cases e
    have hi' : i < xs.length := by rw [h3.length]; exact hi
    exact ⟨xs, xs[i], .inl h2, by simp [hi']⟩
  stop := fun G H f h => by
    obtain ⟨x, e, h1⟩ := h.one
    cases e
    obtain ⟨b, xs, e, h2, h3⟩ := h1.lst_inv f
    cases e
    exact ⟨xs, .inl h2, by rw [h3.length]; exact Nat.le_refl _⟩
  yld := fun i G H x H' f h hi y => by
    obtain ⟨x', e, h1⟩ := h.one
    cases e
    obtain ⟨b, xs, e, h2, h3⟩ := h1.lst_inv f
    cases e
    obtain ⟨e, y⟩ := y
    subst e
    obtain ⟨d, h4, h5⟩ := h3.get' (y xs (.inl h2))
    exact ⟨G, d, h4, Al.refl f, h5⟩
theorem src_scr {a : Addr} {ns : List Int} : SrcOk K (Itl K a) [.ref a] [.scr ns] (ns.map T.int) where
  go := fun i G H f h hi => by
    obtain ⟨x, e, h1⟩ := h.one
    cases e
    obtain ⟨b, e, h2⟩ := h1.scr_inv f
    cases e
    have hi' : i < (ns.map V.int).length := by rw [List.length_map] at hi ⊢; exact hi
    exact ⟨_, (ns.map V.int)[i], h2, List.getElem?_eq_getElem hi'⟩
  stop := fun G H f h => by
    obtain ⟨x, e, h1⟩ := h.one
    cases e
    obtain ⟨b, e, h2⟩ := h1.scr_inv f
    cases e
    exact ⟨_, h2, by rw [List.length_map, List.length_map]; exact Nat.le_refl _⟩
  yld := fun i G H x H' f h hi y => by
    obtain ⟨x', e, h1⟩ := h.one
    cases e
    obtain ⟨b, e, h2⟩ := h1.scr_inv f
    cases e
    obtain ⟨e, y⟩ := y
    subst e
    obtain ⟨d, h4, h5⟩ := (RpL.ints (K := K) (G := G) ns).get' (y _ h2)
    exact ⟨G, d, h4, Al.refl f, h5⟩
theorem src_tup {a : Addr} {ds : List T} : SrcOk K (Itt K a) [.ref a] [.tup ds] ds where
  go := fun i G H f h hi => by
    obtain ⟨x, e, h1⟩ := h.one
    cases e
    obtain ⟨b, xs, e, h2, h3⟩ := h1.tup_inv f
    cases e
    have hi' : i < xs.length := by rw [h3.length]; exact hi
    exact ⟨xs, xs[i], SqT.of h2, by simp [hi']⟩
  stop := fun G H f h => by
    obtain ⟨x, e, h1⟩ := h.one
    cases e
    obtain ⟨b, xs, e, h2, h3⟩ := h1.tup_inv f
    cases e
    exact ⟨xs, SqT.of h2, by rw [h3.length]; exact Nat.le_refl _⟩
  yld := fun i G H x H' f h hi y => by
    obtain ⟨x', e, h1⟩ := h.one
    cases e
    obtain ⟨b, xs, e, h2, h3⟩ := h1.tup_inv f
    cases e
    obtain ⟨e, y⟩ := y
    subst e
    obtain ⟨d, h4, h5⟩ := h3.get' (y xs (SqT.of h2))
    exact ⟨G, d, h4, Al.refl f, h5⟩
theorem src_str {z : Str} : SrcOk K (Its z) [.str z] [.str z] (charsT z) where
  go := fun i G H f h hi => by
    unfold charsT at hi
    rw [List.length_map, Array.length_toList] at hi
    exact hi
  stop := fun G H f h => by
    unfold charsT
    show z.cps.size ≤ _
    rw [List.length_map, Array.length_toList]; exact Nat.le_refl _
  yld := fun i G H x H' f h hi y => by
    obtain ⟨e, c, hc, rfl⟩ := y
    subst e
    refine ⟨G, .str ⟨#[c]⟩, ?_, Al.refl f, .str _⟩
    unfold charsT
    rw [List.getElem?_map, Array.getElem?_toList, hc]; rfl
theorem src_rng {lo : Int} {n : Nat} {vs : List V} {ts : List T} : SrcOk K (Itr lo n) vs ts (upT lo n) where
  go := fun i G H f h hi => by rw [len_upT] at hi; exact hi
  stop := fun G H f h => by rw [len_upT]; exact Nat.le_refl n
  yld := fun i G H x H' f h hi y => by
    rw [len_upT] at hi
    obtain ⟨e, rfl⟩ := y
    subst e
    exact ⟨G, _, get_upT n lo i hi, Al.refl f, .int _⟩
theorem pair_al {G H H' : Hp} (f : Fz G H) {p : Addr} {x y : V} {d e : T} (hp : H p = none) (hH : H' = upd H p (.tup [x, y])) (h1 : Rp K G x d) (h2 : Rp K G y e) : ∃ G', Al G H G' H' ∧ Rp K G' (.ref p) (.tup [d, e]) := by
  subst hH
  have al : Al G H (upd G p (.tup [x, y])) (upd H p (.tup [x, y])) := Al.lay f hp fun ob u z => by cases z
  exact ⟨_, al, .tup upd_same (.cons (h1.mono al.fz) (.cons (h2.mono al.fz) .nil))⟩
theorem src_enum {a : Addr} {ds : List T} : SrcOk K (Ite K a) [.ref a] [.lst ds] (enumT 0 ds) where
  go := fun i G H f h hi => by
    rw [len_enumT] at hi
    obtain ⟨x, e, h1⟩ := h.one
    cases e
    obtain ⟨b, xs, e, h2, h3⟩ := h1.lst_inv f
    cases e
    exact walk_enum.goes i H (by rw [h3.length]; exact hi) (.inl h2)
  stop := fun G H f h => by
    rw [len_enumT]
    obtain ⟨x, e, h1⟩ := h.one
    cases e
    obtain ⟨b, xs, e, h2, h3⟩ := h1.lst_inv f
    cases e
    rw [← h3.length]
    exact walk_enum.stops H (.inl h2)
  yld := fun i G H x H' f h hi y => by
    rw [len_enumT] at hi
    obtain ⟨x', e, h1⟩ := h.one
    cases e
    obtain ⟨b, xs, e, h2, h3⟩ := h1.lst_inv f
    cases e
    obtain ⟨p, u, v, rfl, hp, hH, e1, e2⟩ := walk_enum.yields i H x H' (by rw [h3.length]; exact hi) (.inl h2) y
    cases e1
    obtain ⟨d, h4, h5⟩ := h3.get' e2
    obtain ⟨G', al, r⟩ := pair_al f hp hH (.int _) h5
    have := get_enumT ds 0 i d h4
    rw [Nat.zero_add] at this
    exact ⟨G', _, this, al, r⟩
theorem src_enumS {a : Addr} {ns : List Int} : SrcOk K (Ite K a) [.ref a] [.scr ns] (enumT 0 (ns.map T.int)) where
  go := fun i G H f h hi => by
    rw [len_enumT, List.length_map] at hi
    obtain ⟨x, e, h1⟩ := h.one
    cases e
    obtain ⟨b, e, h2⟩ := h1.scr_inv f
    cases e
    exact walk_enum.goes i H (by rw [List.length_map]; exact hi) h2
  stop := fun G H f h => by
    rw [len_enumT, List.length_map]
    obtain ⟨x, e, h1⟩ := h.one
    cases e
    obtain ⟨b, e, h2⟩ := h1.scr_inv f
    cases e
    have := walk_enum.stops H h2
    rw [List.length_map] at this
    exact this
  yld := fun i G H x H' f h hi y => by
    rw [len_enumT, List.length_map] at hi
    obtain ⟨x', e, h1⟩ := h.one
    cases e
    obtain ⟨b, e, h2⟩ := h1.scr_inv f
    cases e
    obtain ⟨p, u, v, rfl, hp, hH, e1, e2⟩ := walk_enum.yields i H x H' (by rw [List.length_map]; exact hi) h2 y
    cases e1
    obtain ⟨d, h4, h5⟩ := (RpL.ints (K := K) (G := G) ns).get' e2
    obtain ⟨G', al, r⟩ := pair_al f hp hH (.int _) h5
    have := get_enumT _ 0 i d h4
    rw [Nat.zero_add] at this
    exact ⟨G', _, this, al, r⟩
theorem src_zip {a b : Addr} {ds es : List T} : SrcOk K (Itz K a b) [.ref a, .ref b] [.lst ds, .lst es] (zipT ds es) where
  go := fun i G H f h hi => by
    rw [len_zipT] at hi
    obtain ⟨x, x', e, h1, h1'⟩ := h.two
    cases e
    obtain ⟨_, xs, e, h2, h3⟩ := h1.lst_inv f
    cases e
    obtain ⟨_, ys, e, h2', h3'⟩ := h1'.lst_inv f
    cases e
    exact (walk_zip rfl).goes i H (by rw [h3.length, h3'.length]; exact hi) ⟨.inl h2, .inl h2'⟩
  stop := fun G H f h => by
    rw [len_zipT]
    obtain ⟨x, x', e, h1, h1'⟩ := h.two
    cases e
    obtain ⟨_, xs, e, h2, h3⟩ := h1.lst_inv f
    cases e
    obtain ⟨_, ys, e, h2', h3'⟩ := h1'.lst_inv f
    cases e
    rw [← h3.length, ← h3'.length]
    exact (walk_zip rfl).stops H ⟨.inl h2, .inl h2'⟩
  yld := fun i G H x H' f h hi y => by
    rw [len_zipT] at hi
    obtain ⟨x1, x', e, h1, h1'⟩ := h.two
    cases e
    obtain ⟨_, xs, e, h2, h3⟩ := h1.lst_inv f
    cases e
    obtain ⟨_, ys, e, h2', h3'⟩ := h1'.lst_inv f
    cases e
    obtain ⟨p, u, v, rfl, hp, hH, e1, e2⟩ := (walk_zip rfl).yields i H x H' (by rw [h3.length, h3'.length]; exact hi) ⟨.inl h2, .inl h2'⟩ y
    obtain ⟨d, h4, h5⟩ := h3.get' e1
    obtain ⟨d', h4', h5'⟩ := h3'.get' e2
    obtain ⟨G', al, r⟩ := pair_al f hp hH h5 h5'
    exact ⟨G', _, get_zipT ds es i d d' h4 h4', al, r⟩
theorem src_zipT {a b : Addr} {ds es : List T} : SrcOk K (RZ.ItzT K a b) [.ref a, .ref b] [.tup ds, .tup es] (zipT ds es) where
  go := fun i G H f h hi => by
    rw [len_zipT] at hi
    obtain ⟨x, x', e, h1, h1'⟩ := h.two
    cases e
    obtain ⟨_, xs, e, h2, h3⟩ := h1.tup_inv f
    cases e
    obtain ⟨_, ys, e, h2', h3'⟩ := h1'.tup_inv f
    cases e
    have i1 : i < xs.length := by rw [h3.length]; omega
    have i2 : i < ys.length := by rw [h3'.length]; omega
    exact ⟨xs, ys, xs[i], ys[i], SqT.of h2, SqT.of h2', by simp [i1], by simp [i2]⟩
  stop := fun G H f h => by
    rw [len_zipT]
    obtain ⟨x, x', e, h1, h1'⟩ := h.two
    cases e
    obtain ⟨_, xs, e, h2, h3⟩ := h1.tup_inv f
    cases e
    obtain ⟨_, ys, e, h2', h3'⟩ := h1'.tup_inv f
    cases e
    exact ⟨xs, ys, SqT.of h2, SqT.of h2', by rw [h3.length, h3'.length]; omega⟩
  yld := fun i G H x H' f h hi y => by
    obtain ⟨x1, x', e, h1, h1'⟩ := h.two
    cases e
    obtain ⟨_, xs, e, h2, h3⟩ := h1.tup_inv f
    cases e
    obtain ⟨_, ys, e, h2', h3'⟩ := h1'.tup_inv f
    cases e
    obtain ⟨p, u, v, rfl, hp, hH, e1, e2⟩ := y
    obtain ⟨d, h4, h5⟩ := h3.get' (e1 xs (SqT.of h2))
    obtain ⟨d', h4', h5'⟩ := h3'.get' (e2 ys (SqT.of h2'))
    obtain ⟨G', al, r⟩ := pair_al f hp hH h5 h5'
    exact ⟨G', _, get_zipT ds es i d d' h4 h4', al, r⟩
end

/-! ### PI -/
section
variable {X : Cx} {W : WX} {cl : Nat → List D → Sto → R D} {pm : Nat → List D → List D → Option (List D)} {pos : Pos} {tg e1 e2 e3 : Expr} {a b c : C}
theorem PI.imp {t t' : TI} (h : PI X tg e1 t) (q : ∀ σ H R, t' σ H R → t σ H R) : PI X tg e1 t' := ⟨fun pins s σ H R I z => h.run pins s σ H R I (q _ _ _ z)⟩
/-- a list, a tuple, a text -/
theorem pi_any {te : TE} (he : PE X e1 te) : PI X tg e1 (fun σ H R => te σ H fun x H1 => (∃ a xs, x = .ref a ∧ SqL X.K H1 a xs ∧ R (Itl X.K a) H1) ∨ (∃ a xs, x = .ref a ∧ SqT X.K H1 a xs ∧ R (Itt X.K a) H1) ∨ ∃ z, x = .str z ∧ R (Its z) H1) := by
  have go : ∀ (P : V → Hp → Prop), (∀ (x : V) (H1 : Hp), P x H1 → True) → True := fun _ _ => trivial
  refine ⟨fun pins s σ H R I h => ?_⟩
  refine thn (he.run pins s σ H _ I h) fun v s1 ⟨x, H1, I1, r1, q1⟩ => ?_
  have one : PE { X with } e1 te := he
  rcases q1 with ⟨a, xs, e, hq, q⟩ | ⟨a, xs, e, hq, q⟩ | ⟨z, e, q⟩
  · subst e
    cases r1
    obtain ⟨its, rv, p, hz⟩ := I1.list hq
    refine wpAny_pyIter_list p.isList ?_
    refine ⟨s1.heap.objs.size, [s1.heap.objs.size], _, _, H1, rfl, I1.kept (t' := s1.toks) fun b o e => Heap.get?_push_of_some _ e, turn_list a _, ⟨_, Heap.get?_push_size _ rfl, rfl, rfl⟩, fun b hb => ?_, q⟩
    have e : b = s1.heap.objs.size := by simpa using hb
    subst e
    exact I1.fpOk (Nat.le_refl _) (I1.hok.fresh (Nat.le_refl _))
  · subst e
    cases r1
    obtain ⟨its, rv, p, hz⟩ := I1.tuple hq
    refine wpAny_pyIter_tuple (show s1.heap.IsTuple a its.toArray from p) ?_
    refine ⟨s1.heap.objs.size, [s1.heap.objs.size], _, _, H1, rfl, I1.kept (t' := s1.toks) fun b o e => Heap.get?_push_of_some _ e, turn_tuple a _, ⟨_, Heap.get?_push_size _ rfl, rfl, rfl⟩, fun b hb => ?_, q⟩
    have e : b = s1.heap.objs.size := by simpa using hb
    subst e
    exact I1.fpOk (Nat.le_refl _) (I1.hok.fresh (Nat.le_refl _))
  · subst e
    obtain ⟨t, rfl⟩ := r1
    cases ha : z.cps.all (· < 128)
    · exact wpAny_pyIter_wide ha (pi_one (tk := s1.toks) I1 _ (turn_str _ z t "str_iterator" (.inr rfl)) ⟨_, Heap.get?_push_size _ rfl, rfl, rfl⟩ q)
    · exact wpAny_pyIter_ascii ha (pi_one (tk := s1.toks) I1 _ (turn_str _ z t "str_ascii_iterator" (.inl rfl)) ⟨_, Heap.get?_push_size _ rfl, rfl, rfl⟩ q)
end
def tI (K : PySem.W.Frag) (W : WX) (cl : Nat → List D → Sto → R D) (pm : Nat → List D → List D → Option (List D)) (k : IK) (l : C) : TI := fun σ H R =>
  tA K W cl pm l σ H (fun vs H1 => ∃ G ts is, Fz G H1 ∧ VwL K G H1 vs ts ∧ itT k ts = some is ∧ ∀ J, SrcOk K J vs ts is → R J H1)
section
variable {X : Cx} {W : WX} {cl : Nat → List D → Sto → R D} {pm : Nat → List D → List D → Option (List D)} {pos p tpos : Pos} {tg e1 e2 e3 : Expr} {a b c l : C} {elts : List Expr} {kk : Nat}
theorem qi_seq (ha : PE X e1 (tE X.K W cl pm a)) : PI X tg e1 (tI X.K W cl pm .seq (.cons a .nil)) := by
  refine PI.imp (pi_any ha) ?_
  rintro σ H R' ⟨B, G, m, S, r, hP, hE, q⟩
  refine tE_mono (stepE hP hE q) ?_
  rintro v H1 ⟨G1, m1, S1, d, i1, f1, P1, E1, r1, q1⟩
  obtain ⟨G2, ts, is, f2, vw, hi, hR⟩ := q1 [v] H1 G1 m1 (pre_rfl m1) (Fz.refl G1) P1 ⟨[d], rfl, .cons r1 .nil⟩
  unfold itT at hi
  split at hi <;> rename_i hk <;> first | cases hk | skip
  · cases hi
    obtain ⟨x, e, h1⟩ := vw.one
    cases e
    obtain ⟨ad, xs, rfl, h2, h3⟩ := h1.lst_inv f2
    exact .inl ⟨ad, xs, rfl, .inl h2, hR _ src_lst⟩
  · cases hi
    obtain ⟨x, e, h1⟩ := vw.one
    cases e
    obtain ⟨ad, xs, rfl, h2, h3⟩ := h1.tup_inv f2
    exact .inr (.inl ⟨ad, xs, rfl, SqT.of h2, hR _ src_tup⟩)
  · cases hi
    obtain ⟨x, e, h1⟩ := vw.one
    cases e
    obtain ⟨ad, rfl, h2⟩ := h1.scr_inv f2
    exact .inl ⟨ad, _, rfl, h2, hR _ src_scr⟩
  · cases hi
    obtain ⟨x, e, h1⟩ := vw.one
    cases e
    cases h1.str_inv
    exact .inr (.inr ⟨_, rfl, hR _ src_str⟩)
  · cases hi
theorem qi_r1 (hg : Gl X "range") (hm : X.mg "range" = none) (ha : PA X [e1] (tA X.K W cl pm l)) (hs : starEach [e1] X.env = [(false, eval e1 X.env)]) : PI X tg (.Call (.Name "range" p) [e1] [] pos) (tI X.K W cl pm .r1 l) := by
  refine PI.imp (pi_range1 hg hm ha hs) ?_
  intro σ H R' q
  refine tA_mono q ?_
  rintro vs H1 ⟨G2, ts, is, f2, vw, hi, hR⟩
  unfold itT at hi
  split at hi <;> rename_i hk <;> first | cases hk | skip
  · obtain ⟨x, rfl, h1⟩ := vw.one
    cases h1.int_inv
    split at hi
    · rename_i hj
      cases hi
      exact ⟨_, rfl, hj.1, by omega, hR _ src_rng⟩
    · cases hi
  · cases hi
theorem qi_r2 (hg : Gl X "range") (hm : X.mg "range" = none) (ha : PA X [e1, e2] (tA X.K W cl pm l)) (hs : starEach [e1, e2] X.env = [(false, eval e1 X.env), (false, eval e2 X.env)]) (hs2 : starEach [e2] X.env = [(false, eval e2 X.env)]) :
    PI X tg (.Call (.Name "range" p) [e1, e2] [] pos) (tI X.K W cl pm .r2 l) := by
  refine PI.imp (pi_range2 hg hm ha hs hs2) ?_
  intro σ H R' q
  refine tA_mono q ?_
  rintro vs H1 ⟨G2, ts, is, f2, vw, hi, hR⟩
  unfold itT at hi
  split at hi <;> rename_i hk <;> first | cases hk | skip
  · obtain ⟨x, y, rfl, h1, h2⟩ := vw.two
    cases h1.int_inv
    cases h2.int_inv
    split at hi
    · rename_i hj
      cases hi
      exact ⟨_, _, rfl, ⟨hj.1, hj.2.1, hj.2.2.1, hj.2.2.2.1⟩, hR _ src_rng⟩
    · cases hi
  · cases hi
theorem qi_enum (hg : Gl X "enumerate") (hm : X.mg "enumerate" = none) (ha : PA X [e1] (tA X.K W cl pm l)) (hs : starEach [e1] X.env = [(false, eval e1 X.env)]) : PI X (.Tuple elts kk tpos) (.Call (.Name "enumerate" p) [e1] [] pos) (tI X.K W cl pm .enum l) := by
  refine PI.imp (pi_enum hg hm ha hs) ?_
  intro σ H R' q
  refine tA_mono q ?_
  rintro vs H1 ⟨G2, ts, is, f2, vw, hi, hR⟩
  unfold itT at hi
  split at hi <;> rename_i hk <;> first | cases hk | skip
  · cases hi
    obtain ⟨x, rfl, h1⟩ := vw.one
    obtain ⟨ad, xs, rfl, h2, h3⟩ := h1.lst_inv f2
    exact ⟨ad, xs, rfl, .inl h2, hR _ src_enum⟩
  · cases hi
    obtain ⟨x, rfl, h1⟩ := vw.one
    obtain ⟨ad, rfl, h2⟩ := h1.scr_inv f2
    exact ⟨ad, _, rfl, h2, hR _ src_enumS⟩
  · cases hi
theorem qi_zip (hg : Gl X "zip") (hm : X.mg "zip" = none) (ha : PA X [e1, e2] (tA X.K W cl pm l)) (hs : starEach [e1, e2] X.env = [(false, eval e1 X.env), (false, eval e2 X.env)]) (hs2 : starEach [e2] X.env = [(false, eval e2 X.env)]) :
    PI X (.Tuple elts kk tpos) (.Call (.Name "zip" p) [e1, e2] [] pos) (tI X.K W cl pm .zip l) := by
  refine PI.imp (RZ.pi_zipA hg hm ha (by rw [hs, hs2]) (by rw [hs2]; rfl)) ?_
  intro σ H R' q
  refine tA_mono q ?_
  rintro vs H1 ⟨G2, ts, is, f2, vw, hi, hR⟩
  unfold itT at hi
  split at hi <;> rename_i hk <;> first | cases hk | skip
  · cases hi
    obtain ⟨x, y, rfl, h1, h2⟩ := vw.two
    obtain ⟨ad, xs, rfl, h2a, h3⟩ := h1.lst_inv f2
    obtain ⟨ad', ys, rfl, h2', h3'⟩ := h2.lst_inv f2
    exact ⟨ad, ad', xs, ys, rfl, .inl ⟨.inl h2a, .inl h2', hR _ src_zip⟩⟩
  · cases hi
    obtain ⟨x, y, rfl, h1, h2⟩ := vw.two
    obtain ⟨ad, xs, rfl, h2a, h3⟩ := h1.tup_inv f2
    obtain ⟨ad', ys, rfl, h2', h3'⟩ := h2.tup_inv f2
    exact ⟨ad, ad', xs, ys, rfl, .inr ⟨SqT.of h2a, SqT.of h2', hR _ src_zipT⟩⟩
  · cases hi
end

/-! ### targets -/
def Tg.len : Tg → Nat
  | .cons _ r => r.len + 1
  | _ => 0
def tgP (K : PySem.W.Frag) : Tg → TG × TGs
  | .n i => (gName i, fun _ _ _ _ => False)
  | .nil => (gTup K 0 gNil, gNil)
  | .cons a r => (gTup K (r.len + 1) (gCons (tgP K a).1 (tgP K r).2), gCons (tgP K a).1 (tgP K r).2)
def Tg.slots : Tg → List Nat
  | .n i => [i]
  | .nil => []
  | .cons a r => a.slots ++ r.slots
theorem wipe_set {σ : L2.St} {i : Nat} {x : Option V} : ∀ {vs : List Nat}, i ∈ vs → wipe (σ.set i x) vs = wipe σ vs
  | v :: vs, h => by
    unfold L2.wipe
    by_cases hv : i ∈ vs
    · rw [wipe_set hv]
    · have hi : i = v := (List.mem_cons.mp h).resolve_right hv
      subst hi
      have go : ∀ (vs : List Nat), i ∉ vs → wipe (σ.set i x) vs = (wipe σ vs).set i x := fun vs => by
        induction vs with
        | nil => intro _; rfl
        | cons w ws ih =>
          intro hn
          rw [List.mem_cons, not_or] at hn
          unfold L2.wipe
          rw [ih hn.2, List.set_comm _ _ hn.1]
      rw [go vs hv, List.set_set]
section
variable {K : PySem.W.Frag} {G H : Hp} {m : List Addr}
theorem tg_ok (f : Fz G H) : ∀ (g : Tg), (∀ (d : T) (v : V) (r r' : Env) (σ : L2.St), Rp K G v d → RelE K G m r σ → (asgX g).1 d r = some r' → ∀ (Q : L2.St → Hp → Prop), (∀ σ', RelE K G m r' σ' → (∀ vs, (∀ i ∈ g.slots, i ∈ vs) → wipe σ' vs = wipe σ vs) → Q σ' H) → (tgP K g).1 v σ H Q) ∧
    (∀ (ds : List T) (vs : List V) (r r' : Env) (σ : L2.St), RpL K G vs ds → RelE K G m r σ → (asgX g).2 ds r = some r' → g.len = vs.length ∧ ∀ (Q : L2.St → Hp → Prop), (∀ σ', RelE K G m r' σ' → (∀ vs, (∀ i ∈ g.slots, i ∈ vs) → wipe σ' vs = wipe σ vs) → Q σ' H) → (tgP K g).2 vs σ H Q)
  | .n i => by
    refine ⟨fun d v r r' σ hr he h Q q => ?_, fun ds vs r r' σ _ _ h => ?_⟩
    · unfold asgX at h
      cases h
      exact q _ (he.set (.t hr) i) fun vs hv => wipe_set (hv i (by simp [Tg.slots]))
    · unfold asgX at h; cases h
  | .nil => by
    refine ⟨fun d v r r' σ hr he h Q q => ?_, fun ds vs r r' σ hl he h => ?_⟩
    · unfold asgX at h
      simp only at h
      split at h
      · cases h
        cases hr with
        | tup hs hl =>
          cases hl
          exact ⟨_, _, rfl, SqT.of (f.tp _ _ hs), rfl, rfl, q _ he fun _ _ => rfl⟩
      · cases h
    · unfold asgX at h
      simp only at h
      split at h
      · cases h
        cases hl
        exact ⟨rfl, fun Q q => ⟨rfl, q _ he fun _ _ => rfl⟩⟩
      · cases h
  | .cons a g => by
    have key : ∀ (d : T) (ds : List T) (vs : List V) (r r' : Env) (σ : L2.St), RpL K G vs (d :: ds) → RelE K G m r σ → (match (asgX a).1 d r with
        | some r' => (asgX g).2 ds r'
        | none => none) = some r' → (Tg.cons a g).len = vs.length ∧ ∀ (Q : L2.St → Hp → Prop), (∀ σ', RelE K G m r' σ' → (∀ vs, (∀ i ∈ (Tg.cons a g).slots, i ∈ vs) → wipe σ' vs = wipe σ vs) → Q σ' H) → gCons (tgP K a).1 (tgP K g).2 vs σ H Q := by
      intro d ds vs r r' σ hl he h
      cases e : (asgX a).1 d r with
      | none => rw [e] at h; cases h
      | some r1 =>
        rw [e] at h
        cases hl with
        | cons z1 z2 =>
          rename_i v1 vs1
          refine ⟨?_, fun Q q => ⟨v1, vs1, rfl, (tg_ok f a).1 d v1 r r1 σ z1 he e _ fun σ1 e1 w1 => ((tg_ok f g).2 ds vs1 r1 r' σ1 z2 e1 h).2 Q fun σ2 e2 w2 => q σ2 e2 fun vs hv => ?_⟩⟩
          · -- the slots play no part in the length
            have : ∀ (g : Tg) (ds : List T) (r r' : Env), (asgX g).2 ds r = some r' → g.len = ds.length := by
              intro g
              induction g with
              | n i => intro _ _ _ z; cases z
              | nil =>
                intro ds r r' z
                unfold asgX at z
                simp only at z
                split at z
                · rfl
                · cases z
              | cons a2 g2 _ ih =>
                intro ds r r' z
                unfold asgX at z
                simp only at z
                split at z
                · rename_i d2 ds2
                  split at z
                  · have := ih _ _ _ z
                    simp only [Tg.len, List.length_cons]; omega
                  · cases z
                · cases z
            have := this g ds r1 r' h
            simp only [Tg.len, List.length_cons, z2.length]; omega
          · rw [w2 vs fun i hi => hv i (by simp [Tg.slots, hi]), w1 vs fun i hi => hv i (by simp [Tg.slots, hi])]
    refine ⟨fun d v r r' σ hr he h Q q => ?_, fun ds vs r r' σ hl he h => ?_⟩
    · unfold asgX at h
      simp only at h
      split at h
      · rename_i d1 ds1
        cases hr with
        | tup hs hl =>
          obtain ⟨k1, k2⟩ := key d1 ds1 _ r r' σ hl he h
          exact ⟨_, _, rfl, SqT.of (f.tp _ _ hs), k1.symm, k2 Q q⟩
      · cases h
    · unfold asgX at h
      simp only at h
      split at h
      · rename_i d1 ds1
        exact key d1 ds1 vs r r' σ hl he h
      · cases h
end
end Qq

set_option maxHeartbeats 4000000
/-! Q7: comprehensions. -/
namespace Qq
open PySem PySem.Spec PyProof.Rows L2

abbrev W0 : WX := fun _ _ _ _ => False
theorem R.bind_assoc {α β γ : Type} (r : R α) (f : α → Sto → R β) (g : β → Sto → R γ) : (r.bind f).bind g = r.bind fun a S => (f a S).bind g := by
  cases r <;> rfl
section
variable {K : PySem.W.Frag} {B G H : Hp} {m : List Addr} {S : Sto}
theorem srcT_inv {k : IK} {ds : List D} {lk : Option Nat} {is : List T} (h : srcT k (.l ds) S = some (lk, is)) : lkOf ds = some lk ∧ is.length ≤ line ∧ ∃ ts, rdL S ds = some ts ∧ itT k ts = some is := by
  unfold srcT at h
  have h : (match lkOf ds, (rdL S ds).bind (itT k) with
    | some lk, some is => if is.length ≤ line then some (lk, is) else none
    | _, _ => none) = some (lk, is) := h
  split at h
  · rename_i lk' is' e1 e2
    split at h
    · rename_i hl
      cases h
      obtain ⟨ts, e3, e4⟩ := Option.bind_eq_some_iff.mp e2
      exact ⟨e1, hl, ts, e3, e4⟩
    · cases h
  · cases h
/-- the trees among what is read -/
theorem vwL_trees : ∀ {ds : List D} {vs : List V} {ts : List T}, RpDs K G m ds vs → rdL S ds = some ts → (∀ d ∈ ds, ∃ t, d = .t t) → RpL K G vs ts
  | [], _, _, h, e, _ => by cases h; cases e; exact .nil
  | d :: r, _, _, h, e, ht => by
    cases h with
    | cons h1 h2 =>
      obtain ⟨t, rfl⟩ := ht d List.mem_cons_self
      unfold rdL at e
      cases e2 : rdL S r with
      | none => rw [e2] at e; cases e
      | some ts =>
        rw [e2] at e
        cases e
        cases h1 with
        | t h1 => exact .cons h1 (vwL_trees h2 e2 fun d hd => ht d (List.mem_cons_of_mem _ hd))
theorem vwL_of : ∀ {vs : List V} {ts : List T}, RpL K G vs ts → VwL K G H vs ts
  | _, _, .nil => .nil
  | _, _, .cons h t => .cons (.r h) (vwL_of t)
theorem lkOf_none : ∀ {ds : List D}, lkOf ds = some none → ∀ d ∈ ds, ∃ t, d = .t t
  | [], _, _, h => by cases h
  | [.t t], _, d, h => by simp at h; exact ⟨t, h⟩
  | [.t t, .t u], _, d, h => by
    simp at h
    rcases h with h | h
    · exact ⟨t, h⟩
    · exact ⟨u, h⟩
  | .t t :: .t u :: .t _ :: _, h, _, _ => by simp [lkOf] at h
  | .t t :: .t u :: .o _ :: _, h, _, _ => by simp [lkOf] at h
  | .t t :: .t u :: .l _ :: _, h, _, _ => by simp [lkOf] at h
  | .t t :: .o _ :: _, h, _, _ => by simp [lkOf] at h
  | .t t :: .l _ :: _, h, _, _ => by simp [lkOf] at h
  | [.o j], h, _, _ => by simp [lkOf] at h
  | .o j :: _ :: _, h, _, _ => by simp [lkOf] at h
  | .l _ :: _, h, _, _ => by simp [lkOf] at h
theorem lkOf_some : ∀ {ds : List D} {j : Nat}, lkOf ds = some (some j) → ds = [.o j]
  | [], _, h => by simp [lkOf] at h
  | [.t t], _, h => by simp [lkOf] at h
  | [.t t, .t u], _, h => by simp [lkOf] at h
  | .t t :: .t u :: .t _ :: _, _, h => by simp [lkOf] at h
  | .t t :: .t u :: .o _ :: _, _, h => by simp [lkOf] at h
  | .t t :: .t u :: .l _ :: _, _, h => by simp [lkOf] at h
  | .t t :: .o _ :: _, _, h => by simp [lkOf] at h
  | .t t :: .l _ :: _, _, h => by simp [lkOf] at h
  | [.o i], j, h => by simp [lkOf] at h; rw [h]
  | .o i :: _ :: _, _, h => by simp [lkOf] at h
  | .l _ :: _, _, h => by simp [lkOf] at h
theorem CellOk.vw {c : Cl} {o : HO} {a : Addr} (h : CellOk K G c o) (ho : H a = some o) : Vw K G H (.ref a) c.tr := by
  induction h with
  | lst q => exact .lst ho q
  | dK q => exact .dK ho q
  | dT q => exact .dT ho q
  | lck q ih => exact ih ho
/-- what is gone through is locked -/
theorem lock_pre (p : Pre K B G m S H) {ds : List D} {vs : List V} {lk : Option Nat} {ts : List T} (r : RpDs K G m ds vs) (hl : lkOf ds = some lk) (ht : rdL S ds = some ts) :
    ∃ B2, Pre K B2 G m (lockS lk S) H ∧ (∀ a, H a = none → B2 a = none) ∧ (∀ G' H', Fz G G' → (∀ a o, B2 a = some o → H' a = some o) → VwL K G' H' vs ts) ∧
      (∀ G' m' S' H', m <+: m' → Fz G G' → Pre K B2 G' m' S' H' → Pre K B G' m' (unlockS lk S S') H') := by
  have hB : ∀ a, H a = none → B a = none := fun a ha => by
    cases e : B a with
    | none => rfl
    | some o => have := (p.hid a o e).1; rw [ha] at this; cases this
  cases lk with
  | none => exact ⟨B, p, hB, fun G' H' f _ => vwL_of ((vwL_trees r ht (lkOf_none hl)).mono f), fun G' m' S' H' _ _ q => q⟩
  | some j =>
    have e := lkOf_some hl
    subst e
    cases r with
    | cons r1 r2 =>
      cases r2
      cases r1 with
      | o ha =>
        rename_i a
        have hj : j < S.length := by rw [← p.len]; exact (List.getElem?_eq_some_iff.mp ha).1
        have hc : S[j]? = some S[j] := by simp [hj]
        obtain ⟨ga, o, ho, q⟩ := p.cells j S[j] a hc ha
        refine ⟨upd B a o, ?_, fun b hb => ?_, fun G' H' f hh => ?_, fun G' m' S' H' hm f q' => ?_⟩
        · show Pre K (upd B a o) G m (match S[j]? with
            | some c => S.set j (.lck c)
            | none => S) H
          rw [hc]
          exact p.lock hc ha ho
        · have hba : b ≠ a := by rintro rfl; rw [ho] at hb; cases hb
          rw [upd_ne hba]; exact hB b hb
        · have e : ts = [S[j].tr] := by
            unfold rdL at ht
            have e1 : rd S (.o j) = some S[j].tr := by
              show (S[j]?).map Cl.tr = _
              rw [hc]; rfl
            rw [e1] at ht
            unfold rdL at ht
            cases ht; rfl
          subst e
          exact .cons ((q.mono f).vw (hh a o upd_same)) .nil
        · show Pre K B G' m' (match S[j]? with
            | some c => S'.set j c
            | none => S') H'
          rw [hc]
          refine q'.unlock (getElem?_pre hm ha) (q.mono f) fun o' e' => ?_
          obtain ⟨x, _, z⟩ := p.hid a o' e'
          rw [ho] at x
          cases x
          obtain ⟨c0, h0⟩ := z j ha
          rw [hc] at h0
          exact ⟨rfl, c0, Option.some.inj h0⟩
end

def RO (K : PySem.W.Frag) : Hp → Hp → List Addr → Option T → Option V → Prop := fun G _ _ o y => match o, y with
  | none, none => True
  | some t, some v => Rp K G v t
  | _, _ => False
section
variable {K : PySem.W.Frag} {B G H : Hp} {m : List Addr} {S : Sto}
theorem take_pre {m m' : List Addr} (h : m <+: m') : m'.take m.length = m := by
  obtain ⟨r, rfl⟩ := h
  exact List.take_left
/-- an element of a comprehension: no exception leaves it, its own things are forgotten -/
theorem Post.nox {α β γ δ : Type} {W W' : WX} {σ σ' : L2.St} {B B' G' : Hp} {Rs : Hp → Hp → List Addr → γ → δ → Prop} {Rr : Hp → Hp → List Addr → α → β → Prop} {Q : δ → Hp → Prop} {Q' : β → Hp → Prop} {r : R α} {h : α → Sto → R γ}
    (q : Post K B W σ G m Rs Q ((r.nox.cut m.length).bind h)) (k : ∀ a S', Post K B W σ G m Rs Q (h a (S'.take m.length)) → ∀ y H' G4 m', m <+: m' → Fz G' G4 → Pre K B' G4 m' S' H' → Rr G4 H' m' a y → Q' y H') : Post K B' W' σ' G' m Rr Q' r := by
  cases r with
  | bad => exact q.elim
  | exc x S' => exact q.elim
  | ok a S' => exact fun y H' G4 m' h1 h2 h3 h4 => k a S' q y H' G4 m' h1 h2 h3 h4
theorem compGo_step {f : T → Sto → R (Option T)} {d : T} {r : List T} {acc : List T} {S : Sto} {k : List T → Sto → R D} :
    ((compGo f (d :: r) S).bind fun ys S' => k (acc ++ ys) S') = (f d S).bind fun o S1 => (compGo f r S1).bind fun ys S' => k ((acc ++ o.toList) ++ ys) S' := by
  show (((f d S).bind fun o S1 => (compGo f r S1).bind fun xs S2 => .ok (match o with
    | some x => x :: xs
    | none => xs) S2).bind fun ys S' => k (acc ++ ys) S') = _
  rw [R.bind_assoc]
  congr 1
  funext o S1
  rw [R.bind_assoc]
  congr 1
  funext xs S2
  cases o with
  | none => show k (acc ++ xs) S2 = k ((acc ++ []) ++ xs) S2; rw [List.append_nil]
  | some x => show k (acc ++ (x :: xs)) S2 = k ((acc ++ [x]) ++ xs) S2; rw [List.append_assoc]; rfl
end
section
variable {X : Cx} {W : WX} {cl : Nat → List D → Sto → R D} {pm : Nat → List D → List D → Option (List D)} {pos : Pos} {tg iter elt : Expr} {ifs : List Expr} {scope : Scope} {own_ : List (Str × Nat)} {g : Tg} {k : IK} {l t e : C} {fr : Bool}
/-- one element -/
def compEl (cl : Nat → List D → Sto → R D) (pm : Nat → List D → List D → Option (List D)) (vs : List Nat) (g : Tg) (t e : C) (r : Env) (d : T) (S0 : Sto) : R (Option T) := match asgT g d (wip r vs) with
  | none => .bad
  | some r' => (((ev cl pm t r' S0).bind fun x S => (R.opt x.bool S).bind fun k S => match k with
    | false => .ok none S
    | true => (ev cl pm e r' S).bind fun y S => R.opt (y.tr.map some) S).nox).cut S0.length
theorem comp_read (hsl : ∀ i ∈ g.slots, i ∈ own_.map (·.2)) :
    ∀ σ H Q, tE X.K W cl pm (.comp fr (own_.map (·.2)) g k l t e) σ H Q → tLc (tI X.K W cl pm k l) (tgP X.K g).1 (tT X.K W0 cl pm t) (tE X.K W0 cl pm e) (own_.map (·.2)) σ H Q := by
  rintro σ H Q ⟨B, G, m, S, r, hP, hE, q⟩
  refine tA_mono (stepA hP hE q) ?_
  rintro vs H1 ⟨G1, m1, S1, ds, i1, f1, P1, E1, r1, q1⟩
  obtain ⟨⟨lk, is⟩, hsrc, q2⟩ := q1.optB
  obtain ⟨hlk, hlen, ts, hts, hit⟩ := srcT_inv hsrc
  obtain ⟨B2, P2, hB2, hvw, hun⟩ := lock_pre P1 r1 hlk hts
  refine ⟨G1, ts, is, P1.fz, r1.vw P1 hts, hit, fun J hJ D hD => ?_⟩
  have hDm : D ∉ m1 := fun hm => by
    obtain ⟨j, hj⟩ := List.getElem?_of_mem hm
    have hi : j < S1.length := by rw [← P1.len]; exact (List.getElem?_eq_some_iff.mp hj).1
    obtain ⟨_, o, ho, _⟩ := P1.cells j S1[j] D (by simp [hi]) hj
    rw [hD] at ho; cases ho
  have hB1 : B D = none := by
    cases e : B D with
    | none => rfl
    | some o => have := (P1.hid D o e).1; rw [hD] at this; cases this
  refine ⟨fun i μ H' => μ = is.length - i ∧ i ≤ is.length ∧ ∃ G' S' acc xs, Fz G1 G' ∧ Pre X.K (upd B2 D (.lst xs)) G' m1 S' H' ∧ RpL X.K G' xs acc ∧ acc.length ≤ i ∧
    Post X.K B W σ G' m1 (RD X.K) Q ((compGo (compEl cl pm (own_.map (·.2)) g t e r) (is.drop i) S').bind fun ys S'' => own fr (.lst (acc ++ ys)) (unlockS lk S1 S'')), ⟨is.length, by simp, Nat.zero_le _, G1, lockS lk S1, [], [], Fz.refl _, P2.hide hD, .nil, Nat.le_refl _, by rw [List.drop_zero]; exact q2⟩, ?_⟩
  rintro i μ H' ⟨rfl, hi, G', S', acc, xs, f', P', racc, hacc, q'⟩
  have hGD : G' D = none := (P'.hid D _ upd_same).2.1
  have hHD : H' D = some (.lst xs) := (P'.hid D _ upd_same).1
  have vw' : VwL X.K G' H' vs ts := hvw G' H' f' fun a o ha => (P'.hid a o (by
    have hne : a ≠ D := by rintro rfl; rw [hB2 _ hD] at ha; cases ha
    rw [upd_ne hne]; exact ha)).1
  by_cases hlt : i < is.length
  · refine .inr ⟨hJ.go i G' H' P'.fz vw' hlt, fun H4 => ∃ G4 S4 acc4 xs4, Fz G1 G4 ∧ Pre X.K (upd B2 D (.lst xs4)) G4 m1 S4 H4 ∧ RpL X.K G4 xs4 acc4 ∧ acc4.length ≤ i + 1 ∧
      Post X.K B W σ G4 m1 (RD X.K) Q ((compGo (compEl cl pm (own_.map (·.2)) g t e r) (is.drop (i + 1)) S4).bind fun ys S'' => own fr (.lst (acc4 ++ ys)) (unlockS lk S1 S'')), fun H4 h4 => ⟨is.length - (i + 1), by omega, rfl, hlt, h4⟩, fun x H2 hy => ?_⟩
    obtain ⟨G2, d, hd, al, rx⟩ := hJ.yld i G' H' x H2 P'.fz vw' hlt hy
    have hdrop : is.drop i = d :: is.drop (i + 1) := by
      rw [List.drop_eq_getElem_cons hlt]
      congr 1
      rw [List.getElem?_eq_getElem hlt] at hd
      exact Option.some.inj hd
    have estep := compGo_step (f := compEl cl pm (own_.map (·.2)) g t e r) (d := d) (r := is.drop (i + 1)) (acc := acc) (S := S') (k := fun zs S'' => own fr (.lst zs) (unlockS lk S1 S''))
    rw [hdrop, estep] at q'
    have P3 := al.pre P'
    have f3 : Fz G1 G2 := f'.trans al.fz
    have racc3 := racc.mono al.fz
    have q3 : Post X.K B W σ G2 m1 (RD X.K) Q ((compEl cl pm (own_.map (·.2)) g t e r d S').bind fun o S1_1 => (compGo (compEl cl pm (own_.map (·.2)) g t e r) (is.drop (i + 1)) S1_1).bind fun ys S'' => own fr (.lst ((acc ++ o.toList) ++ ys)) (unlockS lk S1 S'')) := q'.later (pre_rfl m1) al.fz
    unfold compEl at q3
    cases hr : asgT g d (wip r (own_.map (·.2))) with
    | none => rw [hr] at q3; exact q3.elim
    | some r' =>
      rw [hr] at q3
      simp only at q3
      rw [← P'.len] at q3
      have eW : RelE X.K G2 m1 (wip r (own_.map (·.2))) (wipe σ (own_.map (·.2))) := (E1.mono f3 (pre_rfl m1)).wipe _
      refine (tg_ok P3.fz g).1 d x _ r' _ rx eW hr _ fun σ2 e2 w2 => ⟨?_, ?_⟩
      · have h1 := w2 (own_.map (·.2)) hsl
        have idem : ∀ (vs : List Nat) (σ : L2.St), wipe (wipe σ vs) vs = wipe σ vs := fun vs σ => by
          have hall : ∀ (ws : List Nat), (∀ i ∈ ws, i ∈ vs) → wipe (wipe σ ws) vs = wipe σ vs := fun ws => by
            induction ws with
            | nil => intro _; rfl
            | cons w ws ih =>
              intro hw
              have e1 : wipe σ (w :: ws) = (wipe σ ws).set w none := rfl
              rw [e1, wipe_set (hw w List.mem_cons_self), ih fun i hi => hw i (List.mem_cons_of_mem _ hi)]
          exact hall vs fun _ h => h
        rw [h1, idem]
      · have core : Post X.K (upd B2 D (.lst xs)) W0 σ2 G2 m1 (RO X.K) (fun y H4 => match y with
            | none => ∃ G4 S4 acc4 xs4, Fz G1 G4 ∧ Pre X.K (upd B2 D (.lst xs4)) G4 m1 S4 H4 ∧ RpL X.K G4 xs4 acc4 ∧ acc4.length ≤ i + 1 ∧
              Post X.K B W σ G4 m1 (RD X.K) Q ((compGo (compEl cl pm (own_.map (·.2)) g t e r) (is.drop (i + 1)) S4).bind fun ys S'' => own fr (.lst (acc4 ++ ys)) (unlockS lk S1 S''))
            | some v => ∃ accv, H4 D = some (.lst accv) ∧ accv.length < sizeLine ∧ ∃ G4 S4 acc4 xs4, Fz G1 G4 ∧ Pre X.K (upd B2 D (.lst xs4)) G4 m1 S4 (upd H4 D (.lst (accv ++ [v]))) ∧ RpL X.K G4 xs4 acc4 ∧ acc4.length ≤ i + 1 ∧
              Post X.K B W σ G4 m1 (RD X.K) Q ((compGo (compEl cl pm (own_.map (·.2)) g t e r) (is.drop (i + 1)) S4).bind fun ys S'' => own fr (.lst (acc4 ++ ys)) (unlockS lk S1 S'')))
            ((ev cl pm t r' S').bind fun x S => (R.opt x.bool S).bind fun k S => match k with
              | false => .ok none S
              | true => (ev cl pm e r' S).bind fun y S => R.opt (y.tr.map some) S) := by
          refine Post.nox q3 fun o S4 q4 y H4 G4 m4 hm4 f4 P4 ro => ?_
          have P5 : Pre X.K (upd B2 D (.lst xs)) G4 m1 (S4.take m1.length) H4 := by
            have := P4.take m1.length
            rw [take_pre hm4] at this
            exact this
          have q5 := q4.later (pre_rfl m1) f4
          cases o with
          | none =>
            cases y with
            | some _ => exact ro.elim
            | none =>
              rw [show acc ++ (none : Option T).toList = acc from List.append_nil acc] at q5
              exact ⟨G4, _, acc, xs, f3.trans f4, P5, racc3.mono f4, by omega, q5⟩
          | some tv =>
            cases y with
            | none => exact ro.elim
            | some v =>
              have rv : Rp X.K G4 v tv := ro
              refine ⟨xs, (P5.hid D _ upd_same).1, ?_, G4, _, acc ++ [tv], xs ++ [v], f3.trans f4, P5.rehide hDm, (racc3.mono f4).append (.cons rv .nil), by rw [List.length_append]; simp; omega, q5⟩
              rw [racc.length, ← line_eq]; omega
        refine tT_mono (stepT P3 e2 core) ?_
        rintro b H3 ⟨G3, m3, S3, i3, f3', P3', E3, q4⟩
        cases b with
        | false =>
          refine iteF ?_
          exact q4 none H3 G3 m3 (pre_rfl m3) (Fz.refl G3) P3' trivial
        | true =>
          refine iteT ?_
          refine tE_mono (stepE P3' E3 q4) ?_
          rintro v H4 ⟨G4, m4, S4, dd, i4, f4, P4, E4, r4, q5⟩
          obtain ⟨o, ho, q6⟩ := q5.opt1
          cases r4 with
          | o _ => cases ho
          | t r4 =>
            cases ho
            exact q6 (some v) H4 G4 m4 (pre_rfl m4) (Fz.refl G4) P4 r4
  · have ei : i = is.length := by omega
    subst ei
    refine .inl ⟨hJ.stop G' H' P'.fz vw', ?_⟩
    rw [List.drop_length] at q'
    have q3 : Post X.K B W σ G' m1 (RD X.K) Q (own fr (.lst (acc ++ [])) (unlockS lk S1 S')) := q'
    rw [List.append_nil] at q3
    have P4 := hun G' m1 S' H' (pre_rfl m1) f' (P'.unhide (hB2 D hD))
    cases fr with
    | false =>
      obtain ⟨f5, P5⟩ := P4.frzAt hHD hGD hDm hB1 fun ob u z => by cases z
      exact q3 (.ref D) H' _ m1 (pre_rfl m1) f5 P5 (.t (.lst (.inl upd_same) (racc.mono f5)))
    | true =>
      have P5 := P4.ownAt hHD hGD hDm hB1 (CellOk.lst racc)
      refine q3 (.ref D) H' G' (m1 ++ [D]) ⟨[D], rfl⟩ (Fz.refl G') P5 (.o ?_)
      rw [← P4.len, List.getElem?_append_right (Nat.le_refl _), Nat.sub_self]; rfl
theorem qe_comp (hc : X.calm = true) (hN : X.N.Nodup) (hi : PI X tg iter (tI X.K W cl pm k l)) (ok : BlkOk X.N X.env.scope scope own_) (hsl : ∀ i ∈ g.slots, i ∈ own_.map (·.2))
    (hg : ∀ (s : Shared) (H : Hp) (C : Addr) (cl : List (Str × Addr)) (fp : List Addr), PG (X.blk s H scope (compEnvC scope cl C X.env) fp) tg (tgP X.K g).1) (ht : ∀ (s : Shared) (H : Hp) (C : Addr) (cl' : List (Str × Addr)) (fp : List Addr), PTs (X.blk s H scope (compEnvC scope cl' C X.env) fp) ifs (tT X.K W0 cl pm t))
    (he : ∀ (s : Shared) (H : Hp) (C : Addr) (cl' : List (Str × Addr)) (fp : List Addr), PE (X.blk s H scope (compEnvC scope cl' C X.env) fp) elt (tE X.K W0 cl pm e)) (hs : ∀ x, foldedSetIterable iter X.env x = pure x) :
    PE X (.ListComp elt [⟨tg, iter, ifs, 0⟩] scope pos) (tE X.K W cl pm (.comp fr (own_.map (·.2)) g k l t e)) :=
  PE.imp (pe_lc hc hN hi ok hg ht he hs) (comp_read hsl)
end
end Qq

set_option maxHeartbeats 4000000
/-! Q8: methods of built-in types. -/
namespace Qq
open PySem PySem.Spec PyProof.Rows L2

theorem MI.facts (mi : MI) : PlainAttrs mi.T ∧ Slot mi.T mi.nm mi.id ∧ typeOf (.builtin mi.id) = pure (.type "method_descriptor") := by
  cases mi
  · exact ⟨PySem.F.plainAttrs_list, PySem.F.slot_list_append, PySem.F.type_list_append⟩
  · exact ⟨PySem.F.plainAttrs_list, PySem.F.slot_list_pop, PySem.F.type_list_pop⟩
  · exact ⟨PySem.F.plainAttrs_dict, PySem.F.slot_dict_get, PySem.F.type_dict_get⟩
  · exact ⟨PySem.F.plainAttrs_dict, PySem.F.slot_dict_pop, PySem.F.type_dict_pop⟩
  · exact ⟨PySem.F.plainAttrs_str, PySem.F.slot_str_join, PySem.F.type_str_join⟩
section
variable {K : PySem.W.Frag} {G H : Hp}
theorem RpL.dropLast : ∀ {vs : List V} {ds : List T}, RpL K G vs ds → RpL K G vs.dropLast ds.dropLast
  | _, _, .nil => .nil
  | _, _, .cons r .nil => .nil
  | _, _, .cons r (.cons r2 t) => .cons r (RpL.dropLast (.cons r2 t))
theorem RpK.drop (k : Key) : ∀ {vs : List (Key × V)} {ds : List (Key × T)}, RpK K G vs ds → RpK K G (dropK vs k) (dropT ds k)
  | _, _, .nil => .nil
  | _, _, .cons (k := j) (v := v) (d := d) (vs := vs) (ds := ds) r q => by
    unfold dropT
    by_cases e : j = k
    · rw [if_pos e]
      have : dropK ((j, v) :: vs) k = dropK vs k := by unfold dropK; rw [List.filter_cons_of_neg]; simpa using e
      rw [this]; exact RpK.drop k q
    · rw [if_neg e]
      have : dropK ((j, v) :: vs) k = (j, v) :: dropK vs k := by unfold dropK; rw [List.filter_cons_of_pos]; simpa using e
      rw [this]; exact .cons r (RpK.drop k q)
theorem RpK.any (k : Key) : ∀ {vs : List (Key × V)} {ds : List (Key × T)}, RpK K G vs ds → (vs.any fun kv => decide (kv.1 = k)) = ds.any fun kv => decide (kv.1 = k)
  | _, _, .nil => rfl
  | _, _, .cons r q => by rw [List.any_cons, List.any_cons, RpK.any k q]
theorem RpK.repl (k : Key) {v : V} {d : T} (r : Rp K G v d) : ∀ {vs : List (Key × V)} {ds : List (Key × T)}, RpK K G vs ds → RpK K G (vs.map fun kv => if kv.1 = k then (kv.1, v) else kv) (ds.map fun kv => if kv.1 = k then (kv.1, d) else kv)
  | _, _, .nil => .nil
  | _, _, .cons (k := j) r' q => by
    rw [List.map_cons, List.map_cons]
    by_cases e : j = k
    · simp only [e, if_true]
      exact .cons r (RpK.repl k r q)
    · simp only [e, if_false]
      exact .cons r' (RpK.repl k r q)
theorem RpK.append : ∀ {vs ws : List (Key × V)} {ds es : List (Key × T)}, RpK K G vs ds → RpK K G ws es → RpK K G (vs ++ ws) (ds ++ es)
  | _, _, _, _, .nil, s => s
  | _, _, _, _, .cons r t, s => .cons r (RpK.append t s)
theorem RpK.put (k : Key) {v : V} {d : T} (r : Rp K G v d) {vs : List (Key × V)} {ds : List (Key × T)} (h : RpK K G vs ds) : RpK K G (putK vs k v) (putT ds k d) := by
  unfold putK putT
  rw [h.any k]
  split
  · exact h.repl k r
  · exact h.append (.cons r .nil)
theorem RpQ.any (k : List Key) : ∀ {vs : List (List Key × V)} {ds : List (List Key × T)}, RpQ K G vs ds → (vs.any fun kv => decide (kv.1 = k)) = ds.any fun kv => decide (kv.1 = k)
  | _, _, .nil => rfl
  | _, _, .cons r q => by rw [List.any_cons, List.any_cons, RpQ.any k q]
theorem RpQ.repl (k : List Key) {v : V} {d : T} (r : Rp K G v d) : ∀ {vs : List (List Key × V)} {ds : List (List Key × T)}, RpQ K G vs ds → RpQ K G (vs.map fun kv => if kv.1 = k then (kv.1, v) else kv) (ds.map fun kv => if kv.1 = k then (kv.1, d) else kv)
  | _, _, .nil => .nil
  | _, _, .cons (k := j) r' q => by
    rw [List.map_cons, List.map_cons]
    by_cases e : j = k
    · simp only [e, if_true]
      exact .cons r (RpQ.repl k r q)
    · simp only [e, if_false]
      exact .cons r' (RpQ.repl k r q)
theorem RpQ.append : ∀ {vs ws : List (List Key × V)} {ds es : List (List Key × T)}, RpQ K G vs ds → RpQ K G ws es → RpQ K G (vs ++ ws) (ds ++ es)
  | _, _, _, _, .nil, s => s
  | _, _, _, _, .cons r t, s => .cons r (RpQ.append t s)
theorem RpQ.put (k : List Key) {v : V} {d : T} (r : Rp K G v d) {vs : List (List Key × V)} {ds : List (List Key × T)} (h : RpQ K G vs ds) : RpQ K G (putK vs k v) (putT ds k d) := by
  unfold putK putT
  rw [h.any k]
  split
  · exact h.repl k r
  · exact h.append (.cons r .nil)
end
/-! ### the built-in methods by values -/
section
variable {X : Cx}
theorem mt_dget (hu : X.A.units + 1 < cLine) : MtR X "dict.get" (fun x xs H Q => ∃ a, x = .ref a ∧ ((∃ y o, xs = [y] ∧ DGet H a y o ∧ Q (o.getD .non) H) ∨ ∃ y z o, xs = [y, z] ∧ DGet H a y o ∧ Q (o.getD z) H)) := by
  intro pins s σ H x xs v us Q I rx rs h
  obtain ⟨a, rfl, h⟩ := h
  cases rx
  rcases h with ⟨y, o, rfl, g, q⟩ | ⟨y, z, o, rfl, g, q⟩
  · obtain ⟨u, rfl, ru⟩ := vals1 rs
    exact d_get1 hu I g ru fun w' s' I' r' => ⟨_, H, I', r', q⟩
  · obtain ⟨u, u', rfl, ru, ru'⟩ := vals2 rs
    exact d_get2 hu I g ru ru' fun w' s' I' r' => ⟨_, H, I', r', q⟩
theorem mt_dpop : MtR X "dict.pop" (fun x xs H Q => ∃ a kvs k more, x = .ref a ∧ xs = kV k :: more ∧ H a = some (.dK kvs) ∧ ((∃ v, (more = [] ∨ ∃ z, more = [z]) ∧ valV kvs k = some v ∧ Q v (upd H a (.dK (dropK kvs k)))) ∨ ∃ z, more = [z] ∧ valV kvs k = none ∧ Q z H)) := by
  intro pins s σ H x xs v us Q I rx rs h
  obtain ⟨a, kvs, k, more, rfl, rfl, hH, h⟩ := h
  cases rx
  rcases h with ⟨v, hm, hv, q⟩ | ⟨z, rfl, hv, q⟩
  · rcases hm with rfl | ⟨z, rfl⟩
    · obtain ⟨u, rfl, ru⟩ := vals1 rs
      exact d_pop I hH ru hv (.inl rfl) fun w' s' I' r' => ⟨v, _, I', r', q⟩
    · obtain ⟨u, u', rfl, ru, ru'⟩ := vals2 rs
      exact d_pop I hH ru hv (.inr ⟨u', rfl⟩) fun w' s' I' r' => ⟨v, _, I', r', q⟩
  · obtain ⟨u, u', rfl, ru, ru'⟩ := vals2 rs
    exact d_popD I hH ru hv fun s' I' => ⟨z, H, I', ru', q⟩
def TyIs (X : Cx) (Ty : String) (x : V) (H : Hp) : Prop := ∀ (pins : List (Addr × Obj)) (s : Shared) (σ : L2.St) (v : Value), L2.Inv X pins σ H s → RelV x v → s.TypeIs v Ty ∧ ∀ a, v = .ref a → ∃ ob, s.heap.get? a = some ob ∧ ob.dict = none
theorem TyIs.of {Ty : String} {x : V} {H : Hp} (h : tyV X.K Ty x H) : TyIs X Ty x H := fun pins s σ v I r => tyV_is I r h
theorem TyIs.dct {a : Addr} {H : Hp} (h : IsD H a) : TyIs X "dict" (.ref a) H := fun pins s σ v I r => by
  cases r
  obtain ⟨h1, h2, _⟩ := isD_at I h
  exact ⟨h1, h2⟩
theorem miOf_ty {G H : Hp} {x : V} {t : T} {m : Str} {mi : MI} (f : Fz G H) (hx : Vw X.K G H x t) (h : miOf t m = some mi) : m = mi.nm ∧ TyIs X mi.T x H := by
  unfold miOf at h
  split at h
  · obtain ⟨a, xs, rfl, h1, _⟩ := hx.lst_inv f
    split at h
    · cases h; rename_i e; exact ⟨e, .of (.inl ⟨rfl, _, .inl h1⟩)⟩
    · split at h
      · cases h; rename_i e; exact ⟨e, .of (.inl ⟨rfl, _, .inl h1⟩)⟩
      · cases h
  · obtain ⟨a, xs, rfl, h1, _⟩ := hx.dK_inv f
    split at h
    · cases h; rename_i e; exact ⟨e, .dct (.inl ⟨_, h1⟩)⟩
    · split at h
      · cases h; rename_i e; exact ⟨e, .dct (.inl ⟨_, h1⟩)⟩
      · cases h
  · obtain ⟨a, xs, rfl, h1, _⟩ := hx.dT_inv f
    split at h
    · cases h; rename_i e; exact ⟨e, .dct (.inr ⟨_, h1⟩)⟩
    · cases h
  · cases hx.str_inv
    split at h
    · cases h; rename_i e; exact ⟨e, .of rfl⟩
    · cases h
  · cases h
theorem sumL_eq : ∀ ys : List Str, sumL ys = (ys.map (·.length)).sum
  | [] => rfl
  | y :: r => by unfold sumL; rw [sumL_eq r]; rfl
theorem joinT_inv {a : Str} {ds : List T} {t : T} (h : joinT a ds = some t) : ∃ ys, ds = ys.map T.str ∧ (ys.map (·.length)).sum + ys.length * a.length ≤ 16777216 ∧ t = .str (Txt.join a ys) := by
  unfold joinT at h
  split at h
  · rename_i ys e
    split at h
    · rename_i hl
      cases h
      exact ⟨ys, strsT_inv e, by rw [← sumL_eq]; exact hl, rfl⟩
    · cases h
  · cases h
/-- the method's rule, from what the short form says -/
theorem mth_ok {W : WX} {B G H : Hp} {m : List Addr} {S : Sto} {σ : L2.St} {Q : VK} {mi : MI} {d : D} {ds : List D} {x : V} {xs : List V} (hu : X.A.units + 1 < cLine) (p : Pre X.K B G m S H) (r1 : RpD X.K G m d x) (r2 : RpDs X.K G m ds xs)
    (q : Post X.K B W σ G m (RD X.K) Q (mthS mi d ds S)) : ∃ r, MtR X mi.id r ∧ r x xs H Q := by
  have cell : ∀ {i : Nat} {a : Addr} {c : Cl}, m[i]? = some a → S[i]? = some c → (∀ c0, c ≠ .lck c0) → ∃ o, H a = some o ∧ CellOk X.K G c o := fun h1 h2 _ => (p.cells _ _ _ h2 h1).2
  unfold mthS at q
  split at q
  · -- append
    cases r1 with
    | o ha =>
      cases r2 with
      | cons z1 z2 =>
        cases z2
        cases z1 with
        | t z1 =>
          split at q
          · rename_i xs0 hs
            split at q
            · rename_i hl
              obtain ⟨o, ho, hc⟩ := cell ha hs (fun c0 z => by cases z)
              cases hc with
              | lst hc =>
                refine ⟨_, mt_append, _, _, _, rfl, rfl, ho, by rw [hc.length, ← line_eq]; exact hl, ?_⟩
                exact q .non _ G m (pre_rfl m) (Fz.refl G) (p.put hs (fun c0 z => by cases z) ha (.lst (hc.append (.cons z1 .nil)))) (.t .non)
            · exact q.elim
          · exact q.elim
  · -- pop()
    cases r1 with
    | o ha =>
      cases r2
      split at q
      · rename_i xs0 hs
        split at q
        · rename_i y hy
          obtain ⟨o, ho, hc⟩ := cell ha hs (fun c0 z => by cases z)
          cases hc with
          | lst hc =>
            rw [← hc.length] at hy
            obtain ⟨v, h1, h2⟩ := hc.get hy
            refine ⟨_, mt_pop, _, _, v, rfl, rfl, ho, h1, ?_⟩
            exact q v _ G m (pre_rfl m) (Fz.refl G) (p.put hs (fun c0 z => by cases z) ha (.lst hc.dropLast)) (.t h2)
        · exact q.elim
      · exact q.elim
  · -- pop(k)
    cases r1 with
    | o ha =>
      cases r2 with
      | cons z1 z2 =>
        cases z2
        cases z1 with
        | t z1 =>
          cases z1
          split at q
          · rename_i xs0 hs
            split at q
            · rename_i hk
              split at q
              · rename_i j hj
                split at q
                · rename_i y hy
                  obtain ⟨o, ho, hc⟩ := cell ha hs (fun c0 z => by cases z)
                  cases hc with
                  | lst hc =>
                    obtain ⟨v, h1, h2⟩ := hc.get hy
                    rw [← hc.length] at hj
                    refine ⟨_, mt_popAt, _, _, _, j, v, rfl, rfl, ho, hk.1, hk.2, hj, h1, ?_⟩
                    exact q v _ G m (pre_rfl m) (Fz.refl G) (p.put hs (fun c0 z => by cases z) ha (.lst (hc.eraseIdx j))) (.t h2)
                · exact q.elim
              · exact q.elim
            · exact q.elim
          · exact q.elim
  · -- get(k)
    cases r2 with
    | cons z1 z2 =>
      cases z2
      obtain ⟨t, ht, q2⟩ := q.opt1
      split at ht
      · rename_i d0 e0 h1 h2
        obtain ⟨ov, h3, rfl⟩ := Option.map_eq_some_iff.mp ht
        obtain ⟨a, vo, rfl, g, h4⟩ := getT_ok p.fz (rd_ok p r1 h1) (rd_ok p z1 h2) h3
        refine ⟨_, mt_dget hu, a, rfl, .inl ⟨_, vo, rfl, g, ?_⟩⟩
        rcases h4 with ⟨rfl, rfl⟩ | ⟨v, t, rfl, rfl, h5⟩
        · exact Post.tree q2 p (Al.refl p.fz) .non
        · exact Post.tree q2 p (Al.refl p.fz) h5
      · cases ht
  · -- get(k, z)
    cases r2 with
    | cons z1 z2 =>
      cases z2 with
      | cons z3 z4 =>
        cases z4
        split at q
        · rename_i d0 e0 h1 h2
          split at q
          · rename_i v0 h3
            obtain ⟨a, vo, rfl, g, h4⟩ := getT_ok p.fz (rd_ok p r1 h1) (rd_ok p z1 h2) h3
            refine ⟨_, mt_dget hu, a, rfl, .inr ⟨_, _, vo, rfl, g, ?_⟩⟩
            rcases h4 with ⟨e, _⟩ | ⟨v, t, e, rfl, h5⟩
            · cases e
            · cases e; exact Post.tree q p (Al.refl p.fz) h5
          · rename_i h3
            obtain ⟨a, vo, rfl, g, h4⟩ := getT_ok p.fz (rd_ok p r1 h1) (rd_ok p z1 h2) h3
            refine ⟨_, mt_dget hu, a, rfl, .inr ⟨_, _, vo, rfl, g, ?_⟩⟩
            rcases h4 with ⟨_, rfl⟩ | ⟨v, t, e, _, _⟩
            · exact q _ H G m (pre_rfl m) (Fz.refl G) p z3
            · cases e
          · exact q.elim
        · exact q.elim
  · -- pop(k) of a dict
    cases r1 with
    | o ha =>
      cases r2 with
      | cons z1 z2 =>
        cases z2
        split at q
        · rename_i kvs k0 hs hk
          obtain ⟨t0, h1, h2⟩ := Option.bind_eq_some_iff.mp hk
          have ek := keyT_v (rd_ok p z1 h1) h2
          subst ek
          split at q
          · rename_i v0 hv
            obtain ⟨o, ho, hc⟩ := cell ha hs (fun c0 z => by cases z)
            cases hc with
            | dK hc =>
              rcases hc.val k0 with ⟨e1, _⟩ | ⟨v, t, e1, e2, h5⟩
              · rw [hv] at e1; cases e1
              · rw [hv] at e1; cases e1
                refine ⟨_, mt_dpop, _, _, k0, [], rfl, rfl, ho, .inl ⟨v, .inl rfl, e2, ?_⟩⟩
                exact q v _ G m (pre_rfl m) (Fz.refl G) (p.put hs (fun c0 z => by cases z) ha (.dK (hc.drop k0))) (.t h5)
          · exact q.elim
        · exact q.elim
  · -- pop(k, z)
    cases r1 with
    | o ha =>
      cases r2 with
      | cons z1 z2 =>
        cases z2 with
        | cons z3 z4 =>
          cases z4
          split at q
          · rename_i kvs k0 hs hk
            obtain ⟨t0, h1, h2⟩ := Option.bind_eq_some_iff.mp hk
            have ek := keyT_v (rd_ok p z1 h1) h2
            subst ek
            obtain ⟨o, ho, hc⟩ := cell ha hs (fun c0 z => by cases z)
            cases hc with
            | dK hc =>
              rcases hc.val k0 with ⟨e1, e2⟩ | ⟨v, t, e1, e2, h5⟩
              · rw [e1] at q
                refine ⟨_, mt_dpop, _, _, k0, _, rfl, rfl, ho, .inr ⟨_, rfl, e2, ?_⟩⟩
                exact q _ H G m (pre_rfl m) (Fz.refl G) p z3
              · rw [e1] at q
                refine ⟨_, mt_dpop, _, _, k0, _, rfl, rfl, ho, .inl ⟨v, .inr ⟨_, rfl⟩, e2, ?_⟩⟩
                exact q v _ G m (pre_rfl m) (Fz.refl G) (p.put hs (fun c0 z => by cases z) ha (.dK (hc.drop k0))) (.t h5)
          · exact q.elim
  · -- join
    cases r2 with
    | cons z1 z2 =>
      cases z2
      obtain ⟨t, ht, q2⟩ := q.opt1
      split at ht
      · rename_i a0 ds0 h1 h2
        obtain ⟨t', h3, rfl⟩ := Option.map_eq_some_iff.mp ht
        obtain ⟨ys, rfl, hl, rfl⟩ := joinT_inv h3
        cases (rd_ok p r1 h1).str_inv
        obtain ⟨a, xs0, rfl, h4, h5⟩ := (rd_ok p z1 h2).lst_inv p.fz
        rw [h5.strs_inv] at h4
        exact ⟨_, mt_join, _, a, ys, rfl, rfl, .inl (.inl h4), hl, Post.tree q2 p (Al.refl p.fz) (.str _)⟩
      · rename_i a0 ds0 h1 h2
        obtain ⟨t', h3, rfl⟩ := Option.map_eq_some_iff.mp ht
        obtain ⟨ys, rfl, hl, rfl⟩ := joinT_inv h3
        cases (rd_ok p r1 h1).str_inv
        obtain ⟨a, xs0, rfl, h4, h5⟩ := (rd_ok p z1 h2).tup_inv p.fz
        rw [h5.strs_inv] at h4
        exact ⟨_, mt_join, _, a, ys, rfl, rfl, .inr (SqT.of h4), hl, Post.tree q2 p (Al.refl p.fz) (.str _)⟩
      · cases ht
  · exact q.elim
/-- o.m(..), the method by what o is -/
theorem qe_mth {W : WX} {cl : Nat → List D → Sto → R D} {pm : Nat → List D → List D → Option (List D)} {o e : Expr} {es : List Expr} {m : Str} {apos cpos : Pos} {a l : C} (hu : X.A.units + 1 < cLine) (ho : PE X o (tE X.K W cl pm a)) (ha : PA X (e :: es) (tA X.K W cl pm l))
    (hbase : attributeBase o m X.env (eval o X.env) = eval o X.env)
    (hfew : ((backTo cpos (starEach (e :: es) X.env)).all (fun x => !x.1) && (backToKw cpos (keywordEach [] X.env)).all (fun x => x.1.isSome)
      && decide ((e :: es).length + ([] : List Keyword).length + (if ([] : List Keyword).isEmpty then 0 else 1) < 30)) = true)
    (hline : (apos.endLine == cpos.line) = true) (hs : starEach (e :: es) X.env = (false, eval e X.env) :: starEach es X.env) (hplain : (backTo cpos (starEach es X.env)).any (·.1) = false) :
    PE X (.Call (.Attribute o m apos) (e :: es) [] cpos) (tE X.K W cl pm (.mth m a l)) := by
  refine ⟨fun pins s σ H Q I h => ?_⟩
  obtain ⟨B, G, mm, S, r, hP, hE, q⟩ := h
  refine wpAny_Call_method_late hbase hfew hline rfl (thn (ho.run pins s σ H _ I (stepE hP hE q)) fun v s1 ⟨x, H1, I1, r1, G1, m1, S1, d, i1, f1, P1, E1, rd1, q1⟩ => ?_)
  obtain ⟨mi, hmi, q2⟩ := q1.optB
  obtain ⟨t, ht, hmi2⟩ := Option.bind_eq_some_iff.mp hmi
  obtain ⟨em, ty⟩ := miOf_ty P1.fz (rd_ok P1 rd1 ht) hmi2
  obtain ⟨pa, slot, hty⟩ := mi.facts
  obtain ⟨h1, h2⟩ := ty pins s1 σ v I1 r1
  subst em
  refine ⟨mi.T, mi.id, pa, slot, hty, h1, h2, ?_⟩
  have hA := ha.run cpos pins s1 σ H1 _ I1 (stepA P1 E1 q2)
  rw [hs] at hA ⊢
  refine Calls.callWith_builtin (by show (false || (backTo cpos (starEach es X.env)).any (·.1)) = false; rw [hplain] <;> rfl) (Calls.evalArgs_plain ?_)
  refine thn hA fun us s2 ⟨vs, H2, I2, rv, G2, m2, S2, ds, i2, f2, P2, E2, rd2, q3⟩ => ?_
  obtain ⟨rr, hr, hq⟩ := mth_ok hu P2 (rd1.mono f2 i2) rd2 (show Post X.K B W σ G2 m2 (RD X.K) Q (mthS mi d ds S2) from q3)
  exact hr pins s2 σ H2 x vs v us Q I2 r1 rv hq
theorem qe_mth0 {W : WX} {cl : Nat → List D → Sto → R D} {pm : Nat → List D → List D → Option (List D)} {o : Expr} {m : Str} {apos cpos : Pos} {a : C} (hu : X.A.units + 1 < cLine) (ho : PE X o (tE X.K W cl pm a))
    (hbase : attributeBase o m X.env (eval o X.env) = eval o X.env) (hline : (apos.endLine == cpos.line) = true) : PE X (.Call (.Attribute o m apos) [] [] cpos) (tE X.K W cl pm (.mth m a .nil)) := by
  refine ⟨fun pins s σ H Q I h => ?_⟩
  obtain ⟨B, G, mm, S, r, hP, hE, q⟩ := h
  refine wpAny_Call_method0_late hbase hline (thn (ho.run pins s σ H _ I (stepE hP hE q)) fun v s1 ⟨x, H1, I1, r1, G1, m1, S1, d, i1, f1, P1, E1, rd1, q1⟩ => ?_)
  obtain ⟨mi, hmi, q2⟩ := q1.optB
  obtain ⟨t, ht, hmi2⟩ := Option.bind_eq_some_iff.mp hmi
  obtain ⟨em, ty⟩ := miOf_ty P1.fz (rd_ok P1 rd1 ht) hmi2
  obtain ⟨pa, slot, hty⟩ := mi.facts
  obtain ⟨h1, h2⟩ := ty pins s1 σ v I1 r1
  subst em
  obtain ⟨rr, hr, hq⟩ := mth_ok (ds := []) hu P1 rd1 .nil (show Post X.K B W σ G1 m1 (RD X.K) Q (mthS mi d [] S1) from q2)
  exact ⟨mi.T, mi.id, pa, slot, hty, h1, h2, Calls.callWith_builtin rfl (PySem.evalArgs_none (hr pins s1 σ H1 x [] v [] Q I1 r1 .nil hq))⟩
end
end Qq

set_option maxHeartbeats 4000000
/-! Q9: statements. -/
namespace Qq
open PySem PySem.Spec PyProof.Rows L2

inductive FV where
  | nx | brk | cnt | ret (v : V)
abbrev EW (E : XK) : WX := fun c d _ H => E c d H
def flR (K : PySem.W.Frag) (G : Hp) (m : List Addr) : Fl → FV → Prop
  | .nx, .nx => True
  | .brk, .brk => True
  | .cnt, .cnt => True
  | .ret d, .ret v => RpD K G m d v
  | _, _ => False
def RS (K : PySem.W.Frag) : Hp → Hp → List Addr → Fl × Env → FV × L2.St → Prop := fun G _ m x y => RelE K G m x.2 y.2 ∧ flR K G m x.1 y.1
def QS (D : Ends) : FV × L2.St → Hp → Prop := fun y H => match y.1 with
  | .nx => D.nx y.2 H
  | .brk => D.bk y.2 H
  | .cnt => D.ct y.2 H
  | .ret v => D.rt v H
section
variable (K : PySem.W.Frag) (E : XK) (wf : Nat) (cl : Nat → List D → Sto → R D) (pm : Nat → List D → List D → Option (List D))
def tS (P : P) : TS := fun D σ H => ∃ B G m S r, Pre K B G m S H ∧ RelE K G m r σ ∧ Post K B (EW E) σ G m (RS K) (QS D) (exec wf cl pm P r S)
end
theorem PS.imp {X : Cx} {e : Stmt} {t t' : TS} (h : PS X e t) (q : ∀ D σ H, t' D σ H → t D σ H) : PS X e t' := ⟨fun pins s σ H D I z => h.run pins s σ H D I (q _ _ _ z)⟩
theorem PSs.imp {X : Cx} {e : List Stmt} {t t' : TS} (h : PSs X e t) (q : ∀ D σ H, t' D σ H → t D σ H) : PSs X e t' := ⟨fun pins s σ H D I z => h.run pins s σ H D I (q _ _ _ z)⟩
theorem Post.ws {α β : Type} {K : PySem.W.Frag} {B : Hp} {E : XK} {σ σ' : L2.St} {G : Hp} {m : List Addr} {Rr : Hp → Hp → List Addr → α → β → Prop} {Q : β → Hp → Prop} {r : R α} (h : Post K B (EW E) σ G m Rr Q r) : Post K B (EW E) σ' G m Rr Q r := by
  cases r with
  | ok d S => exact h
  | exc x S => exact h
  | bad => exact h

section
variable {X : Cx} {E : XK} {wf : Nat} {cl : Nat → List D → Sto → R D} {pm : Nat → List D → List D → Option (List D)} {pos tpos p2 : Pos} {e1 e2 e3 : Expr} {a b c l o i : C} {st : Stmt} {sts sts2 : List Stmt} {s t : P}
theorem qs_nil : PSs X [] (tS X.K E wf cl pm .nil) := by
  refine PSs.imp pss_nil ?_
  rintro D σ H ⟨B, G, m, S, r, hP, hE, q⟩
  exact q (.nx, σ) H G m (pre_rfl m) (Fz.refl G) hP ⟨hE, trivial⟩
theorem qs_seq (h1 : PS X st (tS X.K E wf cl pm s)) (h2 : PSs X sts (tS X.K E wf cl pm t)) : PSs X (st :: sts) (tS X.K E wf cl pm (.seq s t)) := by
  refine PSs.imp (pss_cons h1 h2) ?_
  rintro D σ H ⟨B, G, m, S, r, hP, hE, q⟩
  refine ⟨B, G, m, S, r, hP, hE, (Post.bind (Rr := RS X.K) q).mono ?_⟩
  rintro ⟨fv, σ1⟩ H1 ⟨G1, m1, S1, ⟨fl, r1⟩, i1, f1, P1, ⟨E1, hf⟩, q1⟩
  have E1 : RelE X.K G1 m1 r1 σ1 := E1
  cases fl with
  | nx =>
    cases fv with
    | nx => exact ⟨B, G1, m1, S1, r1, P1, E1, q1.ws⟩
    | brk => exact hf.elim
    | cnt => exact hf.elim
    | ret v => exact hf.elim
  | brk =>
    cases fv with
    | brk => exact q1 (.brk, σ1) H1 G1 m1 (pre_rfl m1) (Fz.refl G1) P1 ⟨E1, trivial⟩
    | nx => exact hf.elim
    | cnt => exact hf.elim
    | ret v => exact hf.elim
  | cnt =>
    cases fv with
    | cnt => exact q1 (.cnt, σ1) H1 G1 m1 (pre_rfl m1) (Fz.refl G1) P1 ⟨E1, trivial⟩
    | nx => exact hf.elim
    | brk => exact hf.elim
    | ret v => exact hf.elim
  | ret d =>
    cases fv with
    | ret v => exact q1 (.ret v, σ1) H1 G1 m1 (pre_rfl m1) (Fz.refl G1) P1 ⟨E1, hf⟩
    | nx => exact hf.elim
    | brk => exact hf.elim
    | cnt => exact hf.elim
theorem qs_pass : PS X (.Pass pos) (tS X.K E wf cl pm .pass) := by
  refine PS.imp ps_pass ?_
  rintro D σ H ⟨B, G, m, S, r, hP, hE, q⟩
  exact q (.nx, σ) H G m (pre_rfl m) (Fz.refl G) hP ⟨hE, trivial⟩
theorem qs_doc {x j} : PS X (.Expr (.Constant (.str x) j pos) tpos) (tS X.K E wf cl pm .pass) := by
  refine PS.imp ps_doc ?_
  rintro D σ H ⟨B, G, m, S, r, hP, hE, q⟩
  exact q (.nx, σ) H G m (pre_rfl m) (Fz.refl G) hP ⟨hE, trivial⟩
theorem qs_brk : PS X (.Break pos) (tS X.K E wf cl pm .brk) := by
  refine PS.imp ps_break ?_
  rintro D σ H ⟨B, G, m, S, r, hP, hE, q⟩
  exact q (.brk, σ) H G m (pre_rfl m) (Fz.refl G) hP ⟨hE, trivial⟩
theorem qs_cnt : PS X (.Continue pos) (tS X.K E wf cl pm .cnt) := by
  refine PS.imp ps_continue ?_
  rintro D σ H ⟨B, G, m, S, r, hP, hE, q⟩
  exact q (.cnt, σ) H G m (pre_rfl m) (Fz.refl G) hP ⟨hE, trivial⟩
theorem qs_never : PS X st (tS X.K E wf cl pm .never) := by
  refine PS.imp ps_never ?_
  rintro D σ H ⟨B, G, m, S, r, hP, hE, q⟩
  exact q.elim
theorem qs_drop (he : PE X e1 (tE X.K (EW E) cl pm c)) (hs : swapsWith e1 none pos.line X.env = pure false) : PS X (.Expr e1 pos) (tS X.K E wf cl pm (.drop c)) := by
  refine PS.imp (ps_expr he hs) ?_
  rintro D σ H ⟨B, G, m, S, r, hP, hE, q⟩
  refine tE_mono (stepE hP hE q) ?_
  rintro v H1 ⟨G1, m1, S1, d, i1, f1, P1, E1, r1, q1⟩
  exact q1 (.nx, σ) H1 G1 m1 (pre_rfl m1) (Fz.refl G1) P1 ⟨E1, trivial⟩
theorem qs_ret (he : PE X e1 (tE X.K (EW E) cl pm c)) : PS X (.Return (some e1) pos) (tS X.K E wf cl pm (.ret c)) := by
  refine PS.imp (ps_ret he) ?_
  rintro D σ H ⟨B, G, m, S, r, hP, hE, q⟩
  refine tE_mono (stepE hP hE q) ?_
  rintro v H1 ⟨G1, m1, S1, d, i1, f1, P1, E1, r1, q1⟩
  exact q1 (.ret v, σ) H1 G1 m1 (pre_rfl m1) (Fz.refl G1) P1 ⟨E1, r1⟩
theorem qs_retN : PS X (.Return none pos) (tS X.K E wf cl pm .retN) := by
  refine PS.imp ps_retN ?_
  rintro D σ H ⟨B, G, m, S, r, hP, hE, q⟩
  exact q (.ret .non, σ) H G m (pre_rfl m) (Fz.refl G) hP ⟨hE, .t .non⟩
theorem qs_ite (hc : PT X e1 (tT X.K (EW E) cl pm c)) (ha : PSs X sts (tS X.K E wf cl pm s)) (hb : PSs X sts2 (tS X.K E wf cl pm t)) : PS X (.If e1 sts sts2 pos) (tS X.K E wf cl pm (.ite c s t)) := by
  refine PS.imp (ps_if hc ha hb) ?_
  rintro D σ H ⟨B, G, m, S, r, hP, hE, q⟩
  refine tT_mono (stepT hP hE q) ?_
  rintro k H1 ⟨G1, m1, S1, i1, f1, P1, E1, q1⟩
  cases k with
  | true => exact iteT ⟨B, G1, m1, S1, r, P1, E1, q1⟩
  | false => exact iteF ⟨B, G1, m1, S1, r, P1, E1, q1⟩
theorem asgD_tree {g : Tg} {d : T} {r : Env} : asgD g (.t d) r = asgT g d r := by cases g <;> rfl
theorem asg_read {g : Tg} {te : TE} (ht : ∀ σ H Q, tE X.K (EW E) cl pm c σ H Q → te σ H Q) : ∀ D σ H, tS X.K E wf cl pm (.asg g c) D σ H → tAsg te (tgP X.K g).1 D σ H := by
  rintro D σ H ⟨B, G, m, S, r, hP, hE, q⟩
  refine ht _ _ _ (tE_mono (stepE hP hE q) ?_)
  rintro v H1 ⟨G1, m1, S1, d, i1, f1, P1, E1, r1, q1⟩
  obtain ⟨⟨fl, r2⟩, ho, q2⟩ := q1.opt1
  obtain ⟨r3, hr, he⟩ := Option.map_eq_some_iff.mp ho
  obtain ⟨rfl, rfl⟩ := Prod.mk.inj he
  have fin : ∀ σ', RelE X.K G1 m1 r3 σ' → D.nx σ' H1 := fun σ' e => q2 (.nx, σ') H1 G1 m1 (pre_rfl m1) (Fz.refl G1) P1 ⟨e, trivial⟩
  cases r1 with
  | t r1 =>
    rw [asgD_tree] at hr
    exact (tg_ok P1.fz g).1 _ _ _ _ _ r1 E1 hr _ fun σ' e _ => fin σ' e
  | o hoo =>
    cases g with
    | n i => cases hr; exact fin _ (E1.set (.o hoo) i)
    | nil => cases hr
    | cons _ _ => cases hr
theorem qs_asg {tg : Expr} {g : Tg} (he : PE X e1 (tE X.K (EW E) cl pm c)) (hg : PG X tg (tgP X.K g).1) (hs : swapsWithSole [tg] e1 pos.line X.env = pure false) (hw : swappedStores [tg] e1 X.env = pure none) (h1 : (assignEach [tg] X.env).map (·.2) = [assign tg X.env]) :
    PS X (.Assign [tg] e1 pos) (tS X.K E wf cl pm (.asg g c)) := PS.imp (ps_asg he hg hs hw h1) (asg_read fun _ _ _ h => h)
/-- name = [..] on one line -/
theorem qs_asgLc {n : Nat} {y : Str} {py spos : Pos} {tg iter elt : Expr} {ifs : List Expr} {scope : Scope} {own_ : List (Str × Nat)} {g : Tg} {k : IK} {t e : C} {fr : Bool}
    (hc : X.calm = true) (hN : X.N.Nodup) (hy : X.N[n]? = some y) (hyl : X.env.scope.names.lookup y = some .local)
    (hsw : swapsWith (.ListComp elt [⟨tg, iter, ifs, 0⟩] scope pos) (some (.Name y py)) spos.line X.env = pure true)
    (hi : PI X tg iter (tI X.K (EW E) cl pm k l)) (ok : BlkOk X.N X.env.scope scope own_) (hsl : ∀ i ∈ g.slots, i ∈ own_.map (·.2))
    (hg : ∀ (s : Shared) (H : Hp) (C : Addr) (cl : List (Str × Addr)) (fp : List Addr), PG (X.blk s H scope (compEnvC scope cl C X.env) fp) tg (tgP X.K g).1) (ht : ∀ (s : Shared) (H : Hp) (C : Addr) (cl' : List (Str × Addr)) (fp : List Addr), PTs (X.blk s H scope (compEnvC scope cl' C X.env) fp) ifs (tT X.K W0 cl pm t))
    (he : ∀ (s : Shared) (H : Hp) (C : Addr) (cl' : List (Str × Addr)) (fp : List Addr), PE (X.blk s H scope (compEnvC scope cl' C X.env) fp) elt (tE X.K W0 cl pm e)) (hs : ∀ x, foldedSetIterable iter X.env x = pure x) :
    PS X (.Assign [.Name y py] (.ListComp elt [⟨tg, iter, ifs, 0⟩] scope pos) spos) (tS X.K E wf cl pm (.asg (.n n) (.comp fr (own_.map (·.2)) g k l t e))) :=
  PS.imp (ps_setLc hc hN hy hyl hsw hi ok hg ht he hs) (asg_read (g := .n n) (comp_read hsl))
theorem qs_par {n n2 : Nat} {x y : Str} {px py pt pos : Pos} {kt k2 pt2} (hc : X.calm = true) (hN : X.N.Nodup) (hi : X.N[n]? = some x) (hj : X.N[n2]? = some y) (hij : n ≠ n2)
    (hx : X.env.scope.names.lookup x = some .local) (hy : X.env.scope.names.lookup y = some .local) (ha : PA X [e1, e2] (tA X.K (EW E) cl pm l))
    (hw : swappedStores [.Tuple [.Name x px, .Name y py] kt pt] (.Tuple [e1, e2] k2 pt2) X.env = pure (some [x, y]))
    (hs : swapsWithSole [.Tuple [.Name x px, .Name y py] kt pt] (.Tuple [e1, e2] k2 pt2) pos.line X.env = pure false) :
    PS X (.Assign [.Tuple [.Name x px, .Name y py] kt pt] (.Tuple [e1, e2] k2 pt2) pos) (tS X.K E wf cl pm (.par [n, n2] l)) := by
  refine PS.imp (ps_par hc hN hi hj hij hx hy ha hw hs) ?_
  rintro D σ H ⟨B, G, m, S, r, hP, hE, q⟩
  refine tA_mono (stepA hP hE q) ?_
  rintro vs H1 ⟨G1, m1, S1, ds, i1, f1, P1, E1, r1, q1⟩
  obtain ⟨⟨fl, r2⟩, ho, q2⟩ := q1.opt1
  obtain ⟨r3, hr, he⟩ := Option.map_eq_some_iff.mp ho
  obtain ⟨rfl, rfl⟩ := Prod.mk.inj he
  have hr : asgP [n, n2] ds r = some r3 := hr
  cases r1 with
  | nil => cases hr
  | cons z1 r1 =>
    cases r1 with
    | nil => cases hr
    | cons z2 r1 =>
      cases r1 with
      | cons _ _ => cases hr
      | nil =>
        cases hr
        exact ⟨_, _, rfl, q2 (.nx, _) H1 G1 m1 (pre_rfl m1) (Fz.refl G1) P1 ⟨(E1.set z1 n).set z2 n2, trivial⟩⟩
theorem qs_par3 {n n2 n3 : Nat} {x y z : Str} {px py pz pt pos : Pos} {kt k2 pt2} (hc : X.calm = true) (hN : X.N.Nodup) (hi : X.N[n]? = some x) (hj : X.N[n2]? = some y) (hl : X.N[n3]? = some z) (hij : n ≠ n2) (hil : n ≠ n3) (hjl : n2 ≠ n3)
    (hx : X.env.scope.names.lookup x = some .local) (hy : X.env.scope.names.lookup y = some .local) (hz : X.env.scope.names.lookup z = some .local) (ha : PA X [e1, e2, e3] (tA X.K (EW E) cl pm l))
    (hw : swappedStores [.Tuple [.Name x px, .Name y py, .Name z pz] kt pt] (.Tuple [e1, e2, e3] k2 pt2) X.env = pure (some [x, y, z]))
    (hs : swapsWithSole [.Tuple [.Name x px, .Name y py, .Name z pz] kt pt] (.Tuple [e1, e2, e3] k2 pt2) pos.line X.env = pure false) :
    PS X (.Assign [.Tuple [.Name x px, .Name y py, .Name z pz] kt pt] (.Tuple [e1, e2, e3] k2 pt2) pos) (tS X.K E wf cl pm (.par [n, n2, n3] l)) := by
  refine PS.imp (ps_par3 hc hN hi hj hl hij hil hjl hx hy hz ha hw hs) ?_
  rintro D σ H ⟨B, G, m, S, r, hP, hE, q⟩
  refine tA_mono (stepA hP hE q) ?_
  rintro vs H1 ⟨G1, m1, S1, ds, i1, f1, P1, E1, r1, q1⟩
  obtain ⟨⟨fl, r2⟩, ho, q2⟩ := q1.opt1
  obtain ⟨r3, hr, he⟩ := Option.map_eq_some_iff.mp ho
  obtain ⟨rfl, rfl⟩ := Prod.mk.inj he
  have hr : asgP [n, n2, n3] ds r = some r3 := hr
  cases r1 with
  | nil => cases hr
  | cons z1 r1 =>
    cases r1 with
    | nil => cases hr
    | cons z2 r1 =>
      cases r1 with
      | nil => cases hr
      | cons z3 r1 =>
        cases r1 with
        | cons _ _ => cases hr
        | nil =>
          cases hr
          exact ⟨_, _, _, rfl, q2 (.nx, _) H1 G1 m1 (pre_rfl m1) (Fz.refl G1) P1 ⟨((E1.set z1 n).set z2 n2).set z3 n3, trivial⟩⟩
/-- += and -= of ints -/
theorem qs_aug {n : Nat} {x : Str} {op : Operator} (hop : op = .Add ∨ op = .Sub) (hN : X.N.Nodup) (hi : X.N[n]? = some x) (hx : Loc X.env.scope x) (he : PE X e1 (tE X.K (EW E) cl pm c)) (hf : X.fn x = true ∨ X.env.scope.names.lookup x = some .local) :
    PS X (.AugAssign (.Name x tpos) op e1 pos) (tS X.K E wf cl pm (.aug n op c)) := by
  have key : ∀ (ti : TIp), PIp X op ti → (∀ i j H Q, (match op with
      | .Add => Q (V.int (i + j)) H
      | .Sub => Q (V.int (i - j)) H
      | _ => False) → ti (.int i) (.int j) H Q) → PS X (.AugAssign (.Name x tpos) op e1 pos) (tS X.K E wf cl pm (.aug n op c)) := by
    intro ti ho hti
    refine PS.imp (ps_aug hN hi hx he ho hf) ?_
    rintro D σ H ⟨B, G, m, S, r, hP, hE, q⟩
    obtain ⟨d, hd, q⟩ := q.optB
    split at hd
    · rename_i d' hd'
      cases hd
      obtain ⟨v, hv, rv⟩ := hE.at_ _ _ hd'
      refine ⟨v, hv, ?_⟩
      refine tE_mono (stepE hP hE q) ?_
      rintro w H1 ⟨G1, m1, S1, dd, i1, f1, P1, E1, r1, q1⟩
      obtain ⟨⟨fl, r2⟩, ho, q2⟩ := q1.opt1
      have rv1 := rv.mono f1 i1
      generalize hrd : rd S1 dd = od at ho
      split at ho
      · rename_i a' b'
        cases ho
        cases (rd_ok P1 r1 hrd).int_inv
        cases rv1 with
        | t rv1 =>
          cases rv1
          refine hti _ _ _ _ ?_
          exact q2 (.nx, _) H1 G1 m1 (pre_rfl m1) (Fz.refl G1) P1 ⟨E1.set (.t (.int _)) n, trivial⟩
      · rename_i a' b'
        cases ho
        cases (rd_ok P1 r1 hrd).int_inv
        cases rv1 with
        | t rv1 =>
          cases rv1
          refine hti _ _ _ _ ?_
          exact q2 (.nx, _) H1 G1 m1 (pre_rfl m1) (Fz.refl G1) P1 ⟨E1.set (.t (.int _)) n, trivial⟩
      · cases ho
    · cases hd
  rcases hop with rfl | rfl
  · exact key _ ip_add fun i j H Q q => ⟨i, j, rfl, rfl, q⟩
  · exact key _ ip_sub fun i j H Q q => ⟨i, j, rfl, rfl, q⟩

/-! ### o[i] = v -/
def rSet : V → V → V → Hp → (Hp → Prop) → Prop := fun o i v H Q => rSetL o i v H Q ∨ ∃ a H', o = .ref a ∧ DPut H a i v H' ∧ Q H'
theorem set_any (hu : X.A.units + 65 < cLine) : PSet X rSet := by
  intro pins s σ H o i v ov iv u Q I ro ri rv h
  rcases h with h | ⟨a, H', rfl, g, q⟩
  · exact set_list pins s σ H o i v ov iv u Q I ro ri rv h
  · obtain rfl : ov = Value.ref a := ro
    exact d_setItem (by omega) I g ri rv fun s' I' => ⟨H', I', q⟩
theorem qs_setI (hu : X.A.units + 65 < cLine) (hv : PE X e1 (tE X.K (EW E) cl pm c)) (ho : PE X e2 (tE X.K (EW E) cl pm o)) (hi : PE X e3 (tE X.K (EW E) cl pm i))
    (ha : ∀ v, assign (.Subscript e2 e3 tpos) X.env v = (do
      let ov ← holding [v] (eval e2 X.env)
      let iv ← holding [v, ov] (eval e3 X.env)
      standAt tpos
      holding [v, ov, iv] (setItem ov iv v)
      release [v, ov, iv] [])) (hs : swapsWithSole [.Subscript e2 e3 tpos] e1 pos.line X.env = pure false) (hw : swappedStores [.Subscript e2 e3 tpos] e1 X.env = pure none) (h1 : (assignEach [.Subscript e2 e3 tpos] X.env).map (·.2) = [assign (.Subscript e2 e3 tpos) X.env]) :
    PS X (.Assign [.Subscript e2 e3 tpos] e1 pos) (tS X.K E wf cl pm (.setI o i c)) := by
  refine PS.imp (ps_asg hv (pg_sub ho hi (set_any hu) ha) hs hw h1) ?_
  rintro D σ H ⟨B, G, m, S, r, hP, hE, q⟩
  refine tE_mono (stepE hP hE q) ?_
  rintro v H1 ⟨G1, m1, S1, dv, i1, f1, P1, E1, r1, q1⟩
  refine tE_mono (stepE P1 E1 q1) ?_
  rintro x H2 ⟨G2, m2, S2, dx, i2, f2, P2, E2, r2, q2⟩
  refine tE_mono (stepE P2 E2 q2) ?_
  rintro y H3 ⟨G3, m3, S3, dy, i3, f3, P3, E3, r3, q3⟩
  have rv := r1.mono (f2.trans f3) (i2.trans i3)
  have rx := r2.mono f3 i3
  split at q3
  · rename_i z a e t hrd
    cases rv with
    | t rv =>
      cases rx with
      | o ha =>
        rename_i ad
        split at q3
        · rename_i xs hS
          obtain ⟨ga, ho, hob, cok⟩ := P3.cells a _ ad hS ha
          cases cok with
          | lst rl =>
            split at q3
            · rename_i k
              split at q3
              · rename_i j hj
                cases (rd_ok P3 r3 hrd).int_inv
                refine .inl ⟨ad, _, k, j, rfl, rfl, hob, by rw [rl.length]; exact hj, ?_⟩
                have P4 := P3.put hS (fun _ z => by cases z) ha (.lst (rl.set rv j))
                exact q3 (.nx, σ) _ G3 m3 (pre_rfl m3) (Fz.refl G3) P4 ⟨E3, trivial⟩
              · exact q3.elim
            · exact q3.elim
        · rename_i kvs hS
          obtain ⟨ga, ho, hob, cok⟩ := P3.cells a _ ad hS ha
          cases cok with
          | dK rl =>
            split at q3
            · rename_i k hk
              split at q3
              · rename_i hlen
                have hy : y = kV k := keyT_v (rd_ok P3 r3 hrd) hk
                subst hy
                refine .inr ⟨ad, _, rfl, DPut.k hob (by rw [rl.length, ← line_eq]; exact hlen), ?_⟩
                have P4 := P3.put hS (fun _ z => by cases z) ha (.dK (rl.put k rv))
                exact q3 (.nx, σ) _ G3 m3 (pre_rfl m3) (Fz.refl G3) P4 ⟨E3, trivial⟩
              · exact q3.elim
            · exact q3.elim
        · rename_i kvs hS
          obtain ⟨ga, ho, hob, cok⟩ := P3.cells a _ ad hS ha
          cases cok with
          | dT rl =>
            split at q3
            · rename_i es
              split at q3
              · rename_i k hk
                split at q3
                · rename_i hlen
                  obtain ⟨b, ys, rfl, hb, hl⟩ := (rd_ok P3 r3 hrd).tup_inv P3.fz
                  have hy := keysT_r hl hk
                  subst hy
                  refine .inr ⟨ad, _, rfl, DPut.t hob hb (by rw [rl.length, ← line_eq]; exact hlen), ?_⟩
                  have P4 := P3.put hS (fun _ z => by cases z) ha (.dT (rl.put k rv))
                  exact q3 (.nx, σ) _ G3 m3 (pre_rfl m3) (Fz.refl G3) P4 ⟨E3, trivial⟩
                · exact q3.elim
              · exact q3.elim
            · exact q3.elim
        · exact q3.elim
  · exact q3.elim

/-! ### loops -/
theorem qs_whl (hp : PassesOwn (model X.prog X.w) X.A X.env X.xe) (hc : PT X e1 (tT X.K (EW E) cl pm c)) (hb : PSs X sts (tS X.K E wf cl pm s)) : PS X (.While e1 sts [] pos) (tS X.K E wf cl pm (.whl c s)) := by
  refine PS.imp (ps_while hp hc hb) ?_
  rintro D σ H ⟨B, G, m, S, r, hP, hE, q⟩
  have q : Post X.K B (EW E) σ G m (RS X.K) (QS D) (whlGo (fun r S => (ev cl pm c r S).bind fun x S => R.opt x.bool S) (fun r S => exec wf cl pm s r S) wf r S) := q
  refine ⟨fun n σ H => ∃ G m S r, Pre X.K B G m S H ∧ RelE X.K G m r σ ∧ Post X.K B (EW E) σ G m (RS X.K) (QS D) (whlGo (fun r S => (ev cl pm c r S).bind fun x S => R.opt x.bool S) (fun r S => exec wf cl pm s r S) n r S), ⟨wf, G, m, S, r, hP, hE, q⟩, ?_⟩
  rintro n σ H ⟨G, m, S, r, hP, hE, q⟩
  cases n with
  | zero => exact q.elim
  | succ n =>
    unfold whlGo at q
    rw [R.bind_assoc] at q
    refine tT_mono (stepT hP hE q) ?_
    rintro k H1 ⟨G1, m1, S1, i1, f1, P1, E1, q1⟩
    cases k with
    | false => exact iteF (q1 (.nx, σ) H1 G1 m1 (pre_rfl m1) (Fz.refl G1) P1 ⟨E1, trivial⟩)
    | true =>
      refine iteT ⟨fun σ H => ∃ G m S r, Pre X.K B G m S H ∧ RelE X.K G m r σ ∧ Post X.K B (EW E) σ G m (RS X.K) (QS D) (whlGo (fun r S => (ev cl pm c r S).bind fun x S => R.opt x.bool S) (fun r S => exec wf cl pm s r S) n r S), fun σ' H' h => ⟨n, Nat.lt_succ_self n, h⟩, ?_⟩
      refine ⟨B, G1, m1, S1, r, P1, E1, (Post.bind (Rr := RS X.K) q1).mono ?_⟩
      rintro ⟨fv, σ2⟩ H2 ⟨G2, m2, S2, ⟨fl, r2⟩, i2, f2, P2, ⟨E2, hf⟩, q2⟩
      have E2 : RelE X.K G2 m2 r2 σ2 := E2
      cases fl with
      | nx =>
        cases fv with
        | nx => exact ⟨G2, m2, S2, r2, P2, E2, q2.ws⟩
        | brk => exact hf.elim
        | cnt => exact hf.elim
        | ret v => exact hf.elim
      | brk =>
        cases fv with
        | brk => exact q2 (.nx, σ2) H2 G2 m2 (pre_rfl m2) (Fz.refl G2) P2 ⟨E2, trivial⟩
        | nx => exact hf.elim
        | cnt => exact hf.elim
        | ret v => exact hf.elim
      | cnt =>
        cases fv with
        | cnt => exact ⟨G2, m2, S2, r2, P2, E2, q2.ws⟩
        | nx => exact hf.elim
        | brk => exact hf.elim
        | ret v => exact hf.elim
      | ret d =>
        cases fv with
        | ret v => exact q2 (.ret v, σ2) H2 G2 m2 (pre_rfl m2) (Fz.refl G2) P2 ⟨E2, hf⟩
        | nx => exact hf.elim
        | brk => exact hf.elim
        | cnt => exact hf.elim
def forEl (wf : Nat) (cl : Nat → List D → Sto → R D) (pm : Nat → List D → List D → Option (List D)) (g : Tg) (s : P) (d : T) (r : Env) (S : Sto) : R (Fl × Env) := match asgT g d r with
  | none => .bad
  | some r' => exec wf cl pm s r' S
theorem qs_for {tg iter : Expr} {g : Tg} {k : IK} (hp : PassesOwn (model X.prog X.w) X.A X.env X.xe) (hc : X.calm = true) (hi : PI X tg iter (tI X.K (EW E) cl pm k l)) (hg : PG X tg (tgP X.K g).1) (hb : PSs X sts (tS X.K E wf cl pm s)) (hs : ∀ x, foldedSetIterable iter X.env x = pure x) :
    PS X (.For tg iter sts [] pos) (tS X.K E wf cl pm (.for_ g k l s)) := by
  refine PS.imp (ps_for hp hc hi hg hb hs) ?_
  rintro D σ H ⟨B, G, m, S, r, hP, hE, q⟩
  refine tA_mono (stepA hP hE q) ?_
  rintro vs H1 ⟨G1, m1, S1, ds, i1, f1, P1, E1, r1, q1⟩
  obtain ⟨⟨lk, is⟩, hsrc, q2⟩ := q1.optB
  obtain ⟨hlk, hlen, ts, hts, hit⟩ := srcT_inv hsrc
  obtain ⟨B2, P2, hB2, hvw, hun⟩ := lock_pre P1 r1 hlk hts
  refine ⟨G1, ts, is, P1.fz, r1.vw P1 hts, hit, fun J hJ => ?_⟩
  refine ⟨fun i μ σ H' => μ = is.length - i ∧ i ≤ is.length ∧ ∃ G' m' S' r', m1 <+: m' ∧ Fz G1 G' ∧ Pre X.K B2 G' m' S' H' ∧ RelE X.K G' m' r' σ ∧
    Post X.K B (EW E) σ G' m' (RS X.K) (QS D) ((forGo (forEl wf cl pm g s) (is.drop i) r' S').bind fun fr S'' => .ok fr (unlockS lk S1 S'')), ⟨is.length, by simp, Nat.zero_le _, G1, m1, lockS lk S1, r, pre_rfl m1, Fz.refl _, P2, E1, by rw [List.drop_zero]; exact q2⟩, ?_⟩
  rintro i μ σ H' ⟨rfl, hi, G', m', S', r', im, f', P', E', q'⟩
  have vw' : VwL X.K G' H' vs ts := hvw G' H' f' fun a o ha => (P'.hid a o ha).1
  by_cases hlt : i < is.length
  · refine .inr ⟨hJ.go i G' H' P'.fz vw' hlt, fun σ4 H4 => ∃ G4 m4 S4 r4, m1 <+: m4 ∧ Fz G1 G4 ∧ Pre X.K B2 G4 m4 S4 H4 ∧ RelE X.K G4 m4 r4 σ4 ∧
      Post X.K B (EW E) σ4 G4 m4 (RS X.K) (QS D) ((forGo (forEl wf cl pm g s) (is.drop (i + 1)) r4 S4).bind fun fr S'' => .ok fr (unlockS lk S1 S'')), fun σ4 H4 h4 => ⟨is.length - (i + 1), by omega, rfl, hlt, h4⟩, fun x H2 hy => ?_⟩
    obtain ⟨G2, d, hd, al, rx⟩ := hJ.yld i G' H' x H2 P'.fz vw' hlt hy
    have hdrop : is.drop i = d :: is.drop (i + 1) := by
      rw [List.drop_eq_getElem_cons hlt]
      congr 1
      rw [List.getElem?_eq_getElem hlt] at hd
      exact Option.some.inj hd
    rw [hdrop] at q'
    unfold forGo at q'
    rw [R.bind_assoc] at q'
    have P3 := al.pre P'
    have q3 := q'.later (pre_rfl m') al.fz
    cases hr : asgT g d r' with
    | none => unfold forEl at q3; rw [hr] at q3; exact q3.elim
    | some r2 =>
      unfold forEl at q3
      rw [hr] at q3
      simp only at q3
      refine (tg_ok P3.fz g).1 d x _ r2 _ rx (E'.mono al.fz (pre_rfl m')) hr _ fun σ2 e2 w2 => ?_
      refine ⟨B2, G2, m', S', r2, P3, e2, ?_⟩
      have go : ∀ (r : R (Fl × Env)) (f : Fl × Env → Sto → R (Fl × Env)), Post X.K B (EW E) σ G2 m' (RS X.K) (QS D) (r.bind f) →
          Post X.K B2 (EW E) σ2 G2 m' (RS X.K) (fun y H4 => ∃ G4 m4 S4 x, m' <+: m4 ∧ Fz G2 G4 ∧ Pre X.K B2 G4 m4 S4 H4 ∧ RS X.K G4 H4 m4 x y ∧ Post X.K B (EW E) σ G4 m4 (RS X.K) (QS D) (f x S4)) r := by
        intro r f h
        cases r with
        | bad => exact h
        | exc x S => exact fun c dd H5 G5 m5 _ _ _ z => False.elim z
        | ok x S =>
          intro y H4 G4 m4 h1 h2 h3 h4
          have h' : Post X.K B (EW E) σ G2 m' (RS X.K) (QS D) (f x S) := h
          exact ⟨G4, m4, S, x, h1, h2, h3, h4, h'.later h1 h2⟩
      refine (go _ _ q3).mono ?_
      rintro ⟨fv, σ4⟩ H4 ⟨G4, m4, S4, ⟨fl, r4⟩, i4, f4, P4, ⟨E4, hf⟩, q4⟩
      have E4 : RelE X.K G4 m4 r4 σ4 := E4
      have im4 := im.trans i4
      have ff4 : Fz G1 G4 := (f'.trans al.fz).trans f4
      cases fl with
      | nx =>
        cases fv with
        | nx => exact ⟨G4, m4, S4, r4, im4, ff4, P4, E4, q4.ws⟩
        | brk => exact hf.elim
        | cnt => exact hf.elim
        | ret v => exact hf.elim
      | brk =>
        cases fv with
        | brk => exact q4 (.nx, σ4) H4 G4 m4 (pre_rfl m4) (Fz.refl G4) (hun _ _ _ _ im4 ff4 P4) ⟨E4, trivial⟩
        | nx => exact hf.elim
        | cnt => exact hf.elim
        | ret v => exact hf.elim
      | cnt =>
        cases fv with
        | cnt => exact ⟨G4, m4, S4, r4, im4, ff4, P4, E4, q4.ws⟩
        | nx => exact hf.elim
        | brk => exact hf.elim
        | ret v => exact hf.elim
      | ret d =>
        cases fv with
        | ret v => exact q4 (.ret v, σ4) H4 G4 m4 (pre_rfl m4) (Fz.refl G4) (hun _ _ _ _ im4 ff4 P4) ⟨E4, hf⟩
        | nx => exact hf.elim
        | brk => exact hf.elim
        | cnt => exact hf.elim
  · have ei : i = is.length := by omega
    subst ei
    rw [List.drop_length] at q'
    exact .inl ⟨hJ.stop G' H' P'.fz vw', q' (.nx, σ) H' G' m' (pre_rfl m') (Fz.refl G') (hun _ _ _ _ im f' P') ⟨E', trivial⟩⟩
end
end Qq

set_option maxHeartbeats 400000
/-! Q10: from the text to what is said in short: expressions. -/
namespace Qq
open PySem PySem.Spec PyProof.Rows L2

def gd {α : Type} (b : Bool) (o : Option α) : Option α := match b with
  | true => o
  | false => none
theorem gd_some {α : Type} {b : Bool} {o : Option α} {c : α} (h : gd b o = some c) : b = true ∧ o = some c := by
  cases b with
  | true => exact ⟨rfl, h⟩
  | false => cases h

/-- what a def is read with -/
structure Gm where
  N : List Str
  fns : List (Str × (Nat × Nat))
  kws : List ((Str × Nat × List Str) × (Nat × List Nat))
  own : List Str
  tks : List Str
  kp : Bool

def posOf : List Str → Str → Option Nat
  | [], _ => none
  | y :: r, x => if y = x then some 0 else (posOf r x).map (· + 1)
theorem posOf_get : ∀ {N : List Str} {x : Str} {i : Nat}, posOf N x = some i → N[i]? = some x
  | y :: r, x, i, h => by
    unfold posOf at h
    split at h
    · rename_i e; subst e; cases h; rfl
    · obtain ⟨j, hj, rfl⟩ := Option.map_eq_some_iff.mp h
      rw [List.getElem?_cons_succ]; exact posOf_get hj
  | [], _, _, h => by cases h
def kwOf : List ((Str × Nat × List Str) × (Nat × List Nat)) → (Str × Nat × List Str) → Option (Nat × (Nat × List Nat))
  | [], _ => none
  | (k, v) :: r, x => if k = x then some (0, v) else (kwOf r x).map fun q => (q.1 + 1, q.2)
theorem kwOf_get : ∀ {N : List ((Str × Nat × List Str) × (Nat × List Nat))} {x : Str × Nat × List Str} {q : Nat × (Nat × List Nat)}, kwOf N x = some q → N[q.1]? = some (x, q.2)
  | (k, v) :: r, x, q, h => by
    unfold kwOf at h
    split at h
    · rename_i e; subst e; cases h; rfl
    · obtain ⟨j, hj, rfl⟩ := Option.map_eq_some_iff.mp h
      rw [List.getElem?_cons_succ]; exact kwOf_get hj
  | [], _, _, h => by cases h
def pmT (kws : List ((Str × Nat × List Str) × (Nat × List Nat))) (g : Nat) (ds es : List D) : Option (List D) := match kws[g]? with
  | some ((_, p, ks), (_, ix)) => pmOf p ks.length ix ds es
  | none => none
theorem pmT_at {kws : List ((Str × Nat × List Str) × (Nat × List Nat))} {g : Nat} {x : Str} {p : Nat} {ks : List Str} {f : Nat} {ix : List Nat} (h : kws[g]? = some ((x, p, ks), (f, ix))) : pmT kws g = pmOf p ks.length ix := by
  funext ds es
  unfold pmT
  rw [h]

/-! ### look at the text -/
def isStar : Expr → Bool
  | .Starred _ _ => true
  | _ => false
def isComp : Expr → Bool
  | .ListComp _ _ _ _ => true
  | .SetComp _ _ _ _ => true
  | .DictComp _ _ _ _ _ => true
  | _ => false
def isSetE : Expr → Bool
  | .Set _ _ _ => true
  | _ => false
def isSlc : Expr → Bool
  | .Slice _ _ _ _ => true
  | _ => false
theorem star_cons {env : PySem.Env} {e : Expr} (es : List Expr) (h : isStar e = false) : starEach (e :: es) env = (false, eval e env) :: starEach es env := by
  cases e <;> first | rfl | cases h
theorem assignEach_one {env : PySem.Env} {e : Expr} (h : isStar e = false) : (assignEach [e] env).map (·.2) = [assign e env] := by
  cases e <;> first | rfl | cases h
theorem assignEach_cons {env : PySem.Env} {e : Expr} (es : List Expr) (h : isStar e = false) : assignEach (e :: es) env = (false, assign e env) :: assignEach es env := by
  cases e <;> first | rfl | cases h
theorem star_any {env : PySem.Env} {pos : Pos} : ∀ {es : List Expr}, es.all (fun e => !isStar e) = true → (backTo pos (starEach es env)).any (·.1) = false
  | [], _ => rfl
  | e :: es, h => by
    rw [List.all_cons, Bool.and_eq_true] at h
    rw [star_cons es (by simpa using h.1)]
    show (false || (backTo pos (starEach es env)).any (·.1)) = false
    rw [star_any h.2]; rfl
theorem star_all {env : PySem.Env} {pos : Pos} : ∀ {es : List Expr}, es.all (fun e => !isStar e) = true → (backTo pos (starEach es env)).all (fun x => !x.1) = true
  | [], _ => rfl
  | e :: es, h => by
    rw [List.all_cons, Bool.and_eq_true] at h
    rw [star_cons es (by simpa using h.1)]
    show (true && (backTo pos (starEach es env)).all (fun x => !x.1)) = true
    rw [star_all h.2]; rfl
theorem plain_ix {e : Expr} (h : isSlc e = false) : PlainIx e := fun o i => by
  cases e <;> first | rfl | cases h
theorem folded_pure {env : PySem.Env} {e : Expr} (h : isSetE e = false) : ∀ x, foldedSetIterable e env x = pure x := fun x => by
  cases e <;> first | rfl | cases h
theorem swaps_no {env : PySem.Env} {e : Expr} {t : Option Expr} {l : Nat} (h : isComp e = false) : swapsWith e t l env = pure false := by
  cases e <;> first | rfl | cases h
theorem kwEach_some {env : PySem.Env} {pos : Pos} : ∀ {kws : List Keyword}, kws.all (fun k => k.arg.isSome) = true → (backToKw pos (keywordEach kws env)).all (·.1.isSome) = true ∧ (backToKw pos (keywordEach kws env)).any (·.1.isNone) = false
  | [], _ => ⟨rfl, rfl⟩
  | ⟨a, v, p⟩ :: r, h => by
    rw [List.all_cons, Bool.and_eq_true] at h
    obtain ⟨i1, i2⟩ := kwEach_some (env := env) (pos := pos) h.2
    cases a with
    | none => simp at h
    | some a =>
      exact ⟨(by show (true && (backToKw pos (keywordEach r env)).all (·.1.isSome)) = true; rw [i1]; rfl), (by show (false || (backToKw pos (keywordEach r env)).any (·.1.isNone)) = false; rw [i2]; rfl)⟩
theorem kwEach_nm {env : PySem.Env} {pos : Pos} : ∀ (kws : List Keyword), (backToKw pos (keywordEach kws env)).filterMap (·.1) = kws.filterMap (·.arg)
  | [] => rfl
  | ⟨a, v, p⟩ :: r => by
    have := kwEach_nm (env := env) (pos := pos) r
    cases a with
    | none => exact this
    | some a => show a :: (backToKw pos (keywordEach r env)).filterMap (·.1) = a :: r.filterMap (·.arg); rw [this]

/-! ### the names in use -/
def bltOnes : List Str := ["len", "abs", "int", "str", "min", "max", "all", "any", "sum", "list", "tuple", "sorted", "range", "enumerate", "zip", "isinstance", "bool", "dict", "set"]
structure CtxOk (Γ : Gm) (cl : Nat → List D → Sto → R D) (W : WX) (n : Nat) (sc : Scope) (X : Cx) : Prop where
  sc : X.env.scope = sc
  N : X.N = Γ.N
  nd : Γ.N.Nodup
  calm : X.calm = true
  room : Room n X.A
  fn : ∀ x f np, Γ.fns.lookup x = some (f, np) → FnAt X cl n f x np
  kw : ∀ (g : Nat) x p ks f ix, Γ.kws[g]? = some ((x, p, ks), (f, ix)) → KwAt X cl n f x p ks.length ks ix ∧ ∀ ds S, ds.length ≠ ix.length → cl f ds S = .bad
  bl : ∀ x, bltOnes.contains x = true → X.mg x = none
  tk : Takes X W
theorem CtxOk.blk {Γ : Gm} {cl : Nat → List D → Sto → R D} {W : WX} {n : Nat} {sc : Scope} {X : Cx} (h : CtxOk Γ cl W n sc X) (s : Shared) (H : Hp) (scope : Scope) (cl' : List (Str × Addr)) (C : Addr) (fp : List Addr) :
    CtxOk Γ cl W0 n (relS scope sc) (X.blk s H scope (compEnvC scope cl' C X.env) fp) where
  sc := by rw [← h.sc]; rfl
  N := h.N
  nd := h.nd
  calm := h.calm
  room := h.room
  fn := fun x f np e => ⟨(h.fn x f np e).ex, (h.fn x f np e).ln⟩
  kw := fun g x p ks f ix e => ⟨⟨(h.kw g x p ks f ix e).1.ex, (h.kw g x p ks f ix e).1.pos⟩, (h.kw g x p ks f ix e).2⟩
  bl := h.bl
  tk := takes0

section
variable {Γ : Gm} {cl : Nat → List D → Sto → R D} {W : WX} {n : Nat} {sc : Scope} {X : Cx}
def glB (sc : Scope) (x : Str) : Bool := decide (sc.names.lookup x = some .globalImplicit)
theorem CtxOk.gl (h : CtxOk Γ cl W n sc X) {x : Str} (e : glB sc x = true) : Gl X x := by
  have e := of_decide_eq_true e
  show X.env.scope.names.lookup x = _
  rw [h.sc]; exact e
def visB (sc : Scope) (x : Str) : Bool := match sc.names.lookup x with
  | some .local => true
  | some .cell => true
  | some .free => true
  | _ => false
theorem CtxOk.vis (h : CtxOk Γ cl W n sc X) {x : Str} (e : visB sc x = true) : Vis X.env.scope x := by
  rw [h.sc]
  unfold visB at e
  unfold Vis
  split at e <;> first | (rename_i q; rw [q]; simp; done) | cases e
def dbg (x : Str) : Bool := decide ((x == ("__debug__" : Str)) = false ∧ (x == ("__classdict__" : Str)) = false)
end

def trName (Γ : Gm) (sc : Scope) (x : Str) : Option C := gd (visB sc x && dbg x) ((posOf Γ.N x).map .var)
def trCst : Const → Option T
  | .none => some .non
  | .bool b => some (.bl b)
  | .int i => some (.int i)
  | .str s => some (.str s)
  | _ => none
def allBI : List (BI × Nat) := [(.len, 1), (.abs, 1), (.int, 1), (.str, 1), (.min2, 2), (.max2, 2), (.all, 1), (.any, 1), (.sum, 1), (.list, 1), (.tuple, 1), (.sorted, 1), (.minL, 1), (.maxL, 1)]
def biOf (x : Str) (k : Nat) : Option BI := (allBI.find? fun q => decide (q.1.nm = x ∧ q.2 = k)).map (·.1)
theorem biOf_nm {x : Str} {k : Nat} {b : BI} (h : biOf x k = some b) : b.nm = x := by
  unfold biOf at h
  obtain ⟨q, hq, rfl⟩ := Option.map_eq_some_iff.mp h
  have := List.find?_some hq
  exact (of_decide_eq_true this).1
theorem BI.in_ones (b : BI) : bltOnes.contains b.nm = true := by cases b <;> decide +kernel
def tyNm (sc : Scope) : Expr → Option (Str × Pos × String)
  | .Name c p => gd (glB sc c && dbg c && decide (c ≠ "__name__") && bltOnes.contains c) (match bootBuiltins c with
    | some (.type ty) => some (c, p, ty)
    | _ => none)
  | _ => none
def tyNms (sc : Scope) : List Expr → Option (List (Str × Pos × String))
  | [] => some []
  | e :: r => match tyNm sc e, tyNms sc r with
    | some a, some b => some (a :: b)
    | _, _ => none
def ownB (N : List Str) (scope : Scope) : List (Str × Nat) := scope.names.filterMap fun q => match q.2 with
  | .local => (posOf N q.1).map fun i => (q.1, i)
  | .cell => (posOf N q.1).map fun i => (q.1, i)
  | _ => none
theorem ownB_ix {N : List Str} {scope : Scope} : ∀ p ∈ ownB N scope, N[p.2]? = some p.1 := fun p hp => by
  unfold ownB at hp
  obtain ⟨q, _, e⟩ := List.mem_filterMap.mp hp
  split at e
  · obtain ⟨i, hi, rfl⟩ := Option.map_eq_some_iff.mp e; exact posOf_get hi
  · obtain ⟨i, hi, rfl⟩ := Option.map_eq_some_iff.mp e; exact posOf_get hi
  · cases e
def blkB (N : List Str) (sc scope : Scope) : Bool := decide (scope.kind = .function) && scope.names.all (fun y => decide (scope.names.lookup y.1 = some y.2)) &&
  scope.names.all (fun y => decide (y.2 = .free → sc.names.lookup y.1 = some .cell ∨ sc.names.lookup y.1 = some .free)) &&
  scope.names.all (fun y => decide (y.2 = .local ∨ y.2 = .cell → y.1 ∈ (ownB N scope).map (·.1) ∨ y.1 ∉ N))
theorem blkB_ok {N : List Str} {sc scope : Scope} (h : blkB N sc scope = true) : BlkOk N sc scope (ownB N scope) := by
  unfold blkB at h
  rw [Bool.and_eq_true, Bool.and_eq_true, Bool.and_eq_true] at h
  obtain ⟨⟨⟨h1, h2⟩, h3⟩, h4⟩ := h
  exact ⟨of_decide_eq_true h1, fun y hy => of_decide_eq_true (List.all_eq_true.mp h2 y hy), ownB_ix, fun y hy => of_decide_eq_true (List.all_eq_true.mp h3 y hy), fun y hy => of_decide_eq_true (List.all_eq_true.mp h4 y hy)⟩
/-- targets; fb: what may be stored into a cell -/
def trG (Γ : Gm) (sc : Scope) (fb : Str → Bool) : Nat → Expr → Option Tg
  | 0, _ => none
  | n + 1, .Name x _ => gd (match sc.names.lookup x with
    | some .local => true
    | some .cell => fb x
    | _ => false) ((posOf Γ.N x).map .n)
  | n + 1, .Tuple es _ _ => es.foldr (fun e r => match trG Γ sc fb n e, r with
    | some a, some r => gd (!isStar e) (some (.cons a r))
    | _, _ => none) (some .nil)
  | _, _ => none

structure Trs where
  E : Scope → Bool → Bool → Expr → Option C
  T : Scope → Expr → Option C
section
variable (Γ : Gm) (r : Trs)
def trEs (sc : Scope) : List Expr → Option C
  | [] => some .nil
  | e :: es => gd (!isStar e) ((r.E sc false false e).bind fun a => (trEs sc es).map fun b => .cons a b)
def trKw (sc : Scope) : List Keyword → Option C
  | [] => some .nil
  | k :: es => gd k.arg.isSome ((r.E sc false false k.value).bind fun a => (trKw sc es).map fun b => .cons a b)
def trAnd (sc : Scope) (fr tk : Bool) : List Expr → Option C
  | [] => none
  | [e] => r.E sc fr tk e
  | e :: es => (r.E sc fr tk e).bind fun a => (trAnd sc fr tk es).map fun b => .andV a b
def trOr (sc : Scope) (fr tk : Bool) : List Expr → Option C
  | [] => none
  | [e] => r.E sc fr tk e
  | e :: es => (r.E sc fr tk e).bind fun a => (trOr sc fr tk es).map fun b => .orV a b
def twAnd (sc : Scope) : List Expr → Option C
  | [] => none
  | [e] => r.T sc e
  | e :: es => (r.T sc e).bind fun a => (twAnd sc es).map fun b => .andV a b
def twOr (sc : Scope) : List Expr → Option C
  | [] => none
  | [e] => r.T sc e
  | e :: es => (r.T sc e).bind fun a => (twOr sc es).map fun b => .orV a b
/-- what is gone through -/
def trI (sc : Scope) (tg it : Expr) : Option (IK × C) := match it with
  | .Call (.Name x p) args [] pos =>
    if x = "range" then gd (glB sc x && args.all fun e => !isStar e) (match args with
      | [a] => (trEs r sc args).map fun l => (.r1, l)
      | [a, b] => (trEs r sc args).map fun l => (.r2, l)
      | _ => none)
    else if x = "enumerate" then gd (glB sc x && args.all fun e => !isStar e) (match args, tg with
      | [a], .Tuple _ _ _ => (trEs r sc args).map fun l => (.enum, l)
      | _, _ => none)
    else if x = "zip" then gd (glB sc x && args.all fun e => !isStar e) (match args, tg with
      | [a, b], .Tuple _ _ _ => (trEs r sc args).map fun l => (.zip, l)
      | _, _ => none)
    else (r.E sc false false it).map fun a => (.seq, .cons a .nil)
  | _ => (r.E sc false false it).map fun a => (.seq, .cons a .nil)
def trLc (sc : Scope) (fr : Bool) (elt tg iter : Expr) (ifs : List Expr) (scope : Scope) : Option C :=
  gd (blkB Γ.N sc scope && !isSetE iter) ((trI r sc tg iter).bind fun kl => (trG Γ (relS scope sc) (fun x => scope.names.lookup x == some .cell) 4 tg).bind fun g =>
    gd (g.slots.all fun i => decide (i ∈ List.map (fun (q : Str × Nat) => q.2) (ownB Γ.N scope))) ((match ifs with
      | [] => some (C.cst (.bl true))
      | [c] => r.T (relS scope sc) c
      | _ => (none : Option C)).bind fun (t : C) => (r.E (relS scope sc) false false elt).map fun e => C.comp fr (List.map (fun (q : Str × Nat) => q.2) (ownB Γ.N scope)) g kl.1 kl.2 t e))
def trIsi (sc : Scope) (args : List Expr) : Option C := match args with
  | [a, .Name c p] => (tyNm sc (.Name c p)).bind fun q => (r.E sc false false a).map fun a => C.isi a [q.2.2] true
  | [a, .Tuple cs k p] => (tyNms sc cs).bind fun qs => gd (decide (qs.length ≤ 1000)) ((r.E sc false false a).map fun a => C.isi a (qs.map fun q => q.2.2) false)
  | _ => none
def trBlt (sc : Scope) (fr : Bool) (x : Str) (args : List Expr) : Option C := match args with
  | [] => none
  | a :: as => (biOf x (a :: as).length).bind fun b => (trEs r sc (a :: as)).map fun l => C.bi (fr && decide (b = .list)) b l
def trKwC (sc : Scope) (x : Str) (args : List Expr) (kws : List Keyword) : Option C :=
  gd (kws.all fun k => k.arg.isSome) ((kwOf Γ.kws (x, args.length, kws.filterMap (·.arg))).bind fun q => (trEs r sc args).bind fun l => (trKw r sc kws).map fun k => C.callk q.2.1 q.1 l k)
def trCall (sc : Scope) (fr : Bool) (x : Str) (args : List Expr) (kws : List Keyword) : Option C :=
  gd (glB sc x && dbg x && args.all (fun e => !isStar e)) (match kws with
    | [] => (match Γ.fns.lookup x with
      | some q => (trEs r sc args).map fun l => C.call q.1 l
      | none => if x = "isinstance" then trIsi r sc args else trBlt r sc fr x args)
    | k :: ks => trKwC Γ r sc x args (k :: ks))
def trMth (sc : Scope) (o : Expr) (m : Str) (apos : Pos) (args : List Expr) (cpos : Pos) : Option C :=
  gd (args.all (fun e => !isStar e) && decide (args.length < 30) && (apos.endLine == cpos.line) && (match o with
    | .Call _ _ _ _ => false
    | _ => true)) ((r.E sc false false o).bind fun a => (trEs r sc args).map fun l => .mth m a l)
def trPart (sc : Scope) : Option Expr → Option (Option Unit × C)
  | none => some (none, .nil)
  | some e => (r.E sc false false e).map fun a => (some (), a)
def trSub (sc : Scope) (a i : Expr) : Option C := match i with
  | .Slice lo hi none _ => (r.E sc false false a).bind fun a => (trPart r sc lo).bind fun l => (trPart r sc hi).map fun h => .sl false a l.1 h.1 l.2 h.2
  | .Slice _ _ (some _) _ => none
  | _ => (r.E sc false false a).bind fun a => (r.E sc false false i).map fun b => .idx a b
def trCmp (sc : Scope) (a : Expr) (ops : List CmpOp) (es : List Expr) : Option C := match ops, es with
  | [op], [b] => gd (!behindInMarks op b) ((r.E sc false false a).bind fun a => (r.E sc false false b).map fun b => .cmp op a b)
  | [op, op2], [b, c] => gd (!behindInMarks op b && !behindInMarks op2 c) ((r.E sc false false a).bind fun a => (r.E sc false false b).bind fun b => (r.E sc false false c).map fun c => .chn op op2 a b c)
  | _, _ => none
def stE (sc : Scope) (fr tk : Bool) (e : Expr) : Option C := match e with
  | .Name x _ => trName Γ sc x
  | .Constant c _ _ => (trCst c).map .cst
  | .BinOp a op b _ => (r.E sc false false a).bind fun a => (r.E sc false false b).map fun b => .bin false op a b
  | .UnaryOp .USub a _ => (r.E sc false false a).map .neg
  | .UnaryOp .Not a _ => (r.E sc false false a).map .notV
  | .BoolOp .And vs _ => trAnd r sc fr tk vs
  | .BoolOp .Or vs _ => trOr r sc fr tk vs
  | .Compare a ops es _ => trCmp r sc a ops es
  | .IfExp t a b _ => (r.T sc t).bind fun t => (r.E sc fr tk a).bind fun a => (r.E sc fr tk b).map fun b => .ife t a b
  | .Tuple es _ _ => (trEs r sc es).map .tup
  | .List es _ => (trEs r sc es).map (.lst fr)
  | .Dict [] [] _ => some (.dct fr tk)
  | .ListComp elt [⟨tg, iter, ifs, 0⟩] scope _ => trLc Γ r sc fr elt tg iter ifs scope
  | .Call (.Name x _) args kws _ => trCall Γ r sc fr x args kws
  | .Call (.Attribute o m apos) args [] cpos => trMth r sc o m apos args cpos
  | .Subscript a i _ => trSub r sc a i
  | _ => none
def stT (sc : Scope) (e : Expr) : Option C := match e with
  | .Compare a ops es _ => trCmp r sc a ops es
  | .BoolOp .And vs _ => twAnd r sc vs
  | .BoolOp .Or vs _ => twOr r sc vs
  | .UnaryOp .Not a _ => (r.T sc a).map .notV
  | .Name _ _ => (r.E sc false false e).map .tru
  | .Call _ _ _ _ => (r.E sc false false e).map .tru
  | .Subscript _ _ _ => (r.E sc false false e).map .tru
  | .BinOp _ _ _ _ => (r.E sc false false e).map .tru
  | _ => none
end
def trs (Γ : Gm) : Nat → Trs
  | 0 => ⟨fun _ _ _ _ => none, fun _ _ => none⟩
  | n + 1 => ⟨stE Γ (trs Γ n), stT (trs Γ n)⟩

/-! ### it is what the text does -/
theorem trG_ok {Γ : Gm} {sc : Scope} {X : Cx} {fb : Str → Bool} (hsc : X.env.scope = sc) (hN : X.N = Γ.N) (hnd : Γ.N.Nodup) (hc : X.calm = true) (hfb : ∀ x, fb x = true → X.fn x = true) : ∀ (n : Nat) (e : Expr) (g : Tg), trG Γ sc fb n e = some g → PG X e (tgP X.K g).1
  | 0, _, _, h => by cases h
  | n + 1, e, g, h => by
    unfold trG at h
    split at h
    · rename_i hn; cases hn
    · rename_i m x p hm
      obtain ⟨h1, h2⟩ := gd_some h
      obtain ⟨i, hi, rfl⟩ := Option.map_eq_some_iff.mp h2
      have hi' := posOf_get hi
      rw [← hN] at hi'
      split at h1
      · rename_i q
        rw [← hsc] at q
        exact pg_name (by rw [hN]; exact hnd) hi' (.inl q) (.inr q)
      · rename_i q
        rw [← hsc] at q
        exact pg_name (by rw [hN]; exact hnd) hi' (.inr q) (.inl (hfb _ h1))
      · cases h1
    · rename_i m es k p hm
      cases hm
      have key : ∀ (es : List Expr) (g : Tg), es.foldr (fun e r => match trG Γ sc fb n e, r with
          | some a, some r => gd (!isStar e) (some (Tg.cons a r))
          | _, _ => none) (some .nil) = some g → PGs X es (tgP X.K g).2 ∧ (assignEach es X.env).length = g.len ∧ (assignEach es X.env).findIdx? (·.1) = none ∧ (tgP X.K g).1 = gTup X.K g.len (tgP X.K g).2 := by
        intro es
        induction es with
        | nil => intro g h; cases h; exact ⟨pgs_nil, rfl, rfl, rfl⟩
        | cons e es ih =>
          intro g h
          rw [List.foldr_cons] at h
          split at h
          · rename_i a r' ha hr
            obtain ⟨h1, h2⟩ := gd_some h
            cases h2
            have hs : isStar e = false := by simpa using h1
            obtain ⟨i1, i2, i3, i4⟩ := ih r' hr
            have hae := assignEach_cons (env := X.env) es hs
            refine ⟨pgs_cons (trG_ok hsc hN hnd hc hfb n e a ha) i1 (by rw [hae]; rfl), ?_, ?_, rfl⟩
            · rw [hae, List.length_cons, i2]; rfl
            · rw [hae, List.findIdx?_cons]
              show (if false = true then some 0 else _) = none
              rw [if_neg Bool.false_ne_true, i3]; rfl
          · cases h
      obtain ⟨i1, i2, i3, i4⟩ := key _ _ h
      rw [i4]
      exact pg_tup hc i1 i2 i3
    · cases h

structure TrsOk (Γ : Gm) (r : Trs) : Prop where
  E : ∀ (cl : Nat → List D → Sto → R D) (W : WX) (n : Nat) (sc : Scope) (X : Cx), CtxOk Γ cl W n sc X → ∀ fr tk e c, r.E sc fr tk e = some c → PE X e (tE X.K W cl (pmT Γ.kws) c)
  T : ∀ (cl : Nat → List D → Sto → R D) (W : WX) (n : Nat) (sc : Scope) (X : Cx), CtxOk Γ cl W n sc X → ∀ e c, r.T sc e = some c → PT X e (tT X.K W cl (pmT Γ.kws) c)
section
variable {Γ : Gm} {r : Trs} {cl : Nat → List D → Sto → R D} {W : WX} {n : Nat} {sc : Scope} {X : Cx}
theorem CtxOk.hu (h : CtxOk Γ cl W n sc X) : X.A.units + 65 < cLine := by have := h.room.un; omega
theorem trEs_ok (o : TrsOk Γ r) (x : CtxOk Γ cl W n sc X) : ∀ (es : List Expr) (c : C), trEs r sc es = some c → PA X es (tA X.K W cl (pmT Γ.kws) c)
  | [], c, h => by cases h; exact qa_nil
  | e :: es, c, h => by
    unfold trEs at h
    obtain ⟨h1, h⟩ := gd_some h
    obtain ⟨a, ha, h⟩ := Option.bind_eq_some_iff.mp h
    obtain ⟨b, hb, rfl⟩ := Option.map_eq_some_iff.mp h
    exact qa_cons (o.E cl W n sc X x _ _ e a ha) (trEs_ok o x es b hb) (star_cons es (by simpa using h1))
theorem trKw_ok (o : TrsOk Γ r) (x : CtxOk Γ cl W n sc X) : ∀ (es : List Keyword) (c : C), trKw r sc es = some c → PKq X W cl (pmT Γ.kws) es c
  | [], c, h => by cases h; exact .nil
  | ⟨nm, v, p⟩ :: es, c, h => by
    unfold trKw at h
    obtain ⟨h1, h⟩ := gd_some h
    obtain ⟨a, ha, h⟩ := Option.bind_eq_some_iff.mp h
    obtain ⟨b, hb, rfl⟩ := Option.map_eq_some_iff.mp h
    exact .cons (o.E cl W n sc X x _ _ v a ha) (trKw_ok o x es b hb)
theorem trAnd_ok (o : TrsOk Γ r) (x : CtxOk Γ cl W n sc X) {fr tk : Bool} {pos : Pos} : ∀ (es : List Expr) (c : C), trAnd r sc fr tk es = some c → PE X (.BoolOp .And es pos) (tE X.K W cl (pmT Γ.kws) c)
  | [], c, h => by cases h
  | [e], c, h => qe_one (o.E cl W n sc X x _ _ e c h)
  | e :: e2 :: es, c, h => by
    unfold trAnd at h
    obtain ⟨a, ha, h⟩ := Option.bind_eq_some_iff.mp h
    obtain ⟨b, hb, rfl⟩ := Option.map_eq_some_iff.mp h
    exact qe_and (o.E cl W n sc X x _ _ e a ha) (trAnd_ok o x (e2 :: es) b hb)
theorem trOr_ok (o : TrsOk Γ r) (x : CtxOk Γ cl W n sc X) {fr tk : Bool} {pos : Pos} : ∀ (es : List Expr) (c : C), trOr r sc fr tk es = some c → PE X (.BoolOp .Or es pos) (tE X.K W cl (pmT Γ.kws) c)
  | [], c, h => by cases h
  | [e], c, h => qe_one (o.E cl W n sc X x _ _ e c h)
  | e :: e2 :: es, c, h => by
    unfold trOr at h
    obtain ⟨a, ha, h⟩ := Option.bind_eq_some_iff.mp h
    obtain ⟨b, hb, rfl⟩ := Option.map_eq_some_iff.mp h
    exact qe_or (o.E cl W n sc X x _ _ e a ha) (trOr_ok o x (e2 :: es) b hb)
theorem twAnd_ok (o : TrsOk Γ r) (x : CtxOk Γ cl W n sc X) {pos : Pos} : ∀ (es : List Expr) (c : C), twAnd r sc es = some c → PW X (.BoolOp .And es pos) (tT X.K W cl (pmT Γ.kws) c)
  | [], c, h => by cases h
  | [e], c, h => qw_and1 (o.T cl W n sc X x e c h)
  | e :: e2 :: es, c, h => by
    unfold twAnd at h
    obtain ⟨a, ha, h⟩ := Option.bind_eq_some_iff.mp h
    obtain ⟨b, hb, rfl⟩ := Option.map_eq_some_iff.mp h
    exact qw_and (o.T cl W n sc X x e a ha) (twAnd_ok o x (e2 :: es) b hb)
theorem twOr_ok (o : TrsOk Γ r) (x : CtxOk Γ cl W n sc X) {pos : Pos} : ∀ (es : List Expr) (c : C), twOr r sc es = some c → PW X (.BoolOp .Or es pos) (tT X.K W cl (pmT Γ.kws) c)
  | [], c, h => by cases h
  | [e], c, h => qw_or1 (o.T cl W n sc X x e c h)
  | e :: e2 :: es, c, h => by
    unfold twOr at h
    obtain ⟨a, ha, h⟩ := Option.bind_eq_some_iff.mp h
    obtain ⟨b, hb, rfl⟩ := Option.map_eq_some_iff.mp h
    exact qw_or (o.T cl W n sc X x e a ha) (twOr_ok o x (e2 :: es) b hb)
theorem bl_in (x : CtxOk Γ cl W n sc X) {y : Str} (h : bltOnes.contains y = true := by decide +kernel) : X.mg y = none := x.bl y h
theorem trI_ok (o : TrsOk Γ r) (x : CtxOk Γ cl W n sc X) {tg it : Expr} {k : IK} {l : C} (h : trI r sc tg it = some (k, l)) : PI X tg it (tI X.K W cl (pmT Γ.kws) k l) := by
  have other : (r.E sc false false it).map (fun a => (IK.seq, C.cons a .nil)) = some (k, l) → PI X tg it (tI X.K W cl (pmT Γ.kws) k l) := fun h => by
    obtain ⟨a, ha, e⟩ := Option.map_eq_some_iff.mp h
    cases e
    exact qi_seq (o.E cl W n sc X x _ _ it a ha)
  unfold trI at h
  split at h
  · rename_i y p args pos
    split at h
    · rename_i hy
      subst hy
      obtain ⟨h1, h⟩ := gd_some h
      rw [Bool.and_eq_true] at h1
      split at h
      · obtain ⟨l', hl, e⟩ := Option.map_eq_some_iff.mp h
        cases e
        have := h1.2
        rw [List.all_cons, Bool.and_eq_true] at this
        exact qi_r1 (x.gl h1.1) (bl_in x) (trEs_ok o x _ _ hl) (star_cons _ (by simpa using this.1))
      · obtain ⟨l', hl, e⟩ := Option.map_eq_some_iff.mp h
        cases e
        have := h1.2
        rw [List.all_cons, Bool.and_eq_true, List.all_cons, Bool.and_eq_true] at this
        refine qi_r2 (x.gl h1.1) (bl_in x) (trEs_ok o x _ _ hl) ?_ (star_cons _ (by simpa using this.2.1))
        rw [star_cons _ (by simpa using this.1), star_cons _ (by simpa using this.2.1)]; rfl
      · cases h
    · split at h
      · rename_i hy
        subst hy
        obtain ⟨h1, h⟩ := gd_some h
        rw [Bool.and_eq_true] at h1
        split at h
        · obtain ⟨l', hl, e⟩ := Option.map_eq_some_iff.mp h
          cases e
          have := h1.2
          rw [List.all_cons, Bool.and_eq_true] at this
          exact qi_enum (x.gl h1.1) (bl_in x) (trEs_ok o x _ _ hl) (star_cons _ (by simpa using this.1))
        · cases h
      · split at h
        · rename_i hy
          subst hy
          obtain ⟨h1, h⟩ := gd_some h
          rw [Bool.and_eq_true] at h1
          split at h
          · obtain ⟨l', hl, e⟩ := Option.map_eq_some_iff.mp h
            cases e
            have := h1.2
            rw [List.all_cons, Bool.and_eq_true, List.all_cons, Bool.and_eq_true] at this
            refine qi_zip (x.gl h1.1) (bl_in x) (trEs_ok o x _ _ hl) ?_ (star_cons _ (by simpa using this.2.1))
            rw [star_cons _ (by simpa using this.1), star_cons _ (by simpa using this.2.1)]; rfl
          · cases h
        · exact other h
  · exact other h
theorem pts_yes {X : Cx} {cl : Nat → List D → Sto → R D} {W : WX} {pm : Nat → List D → List D → Option (List D)} : PTs X [] (tT X.K W cl pm (.cst (.bl true))) := ⟨fun pins s σ H Q I z => by
  obtain ⟨B, G, m, S, r, hP, hE, q⟩ := z
  exact pts_nil.run pins s σ H Q I (Post.treeB q hP)⟩
/-- the parts of a comprehension -/
theorem trLc_ok (o : TrsOk Γ r) (x : CtxOk Γ cl W n sc X) {fr : Bool} {elt tg iter : Expr} {ifs : List Expr} {scope : Scope} {c : C} (h : trLc Γ r sc fr elt tg iter ifs scope = some c) :
    ∃ k l g t e, c = .comp fr ((ownB Γ.N scope).map (·.2)) g k l t e ∧ PI X tg iter (tI X.K W cl (pmT Γ.kws) k l) ∧ BlkOk X.N X.env.scope scope (ownB Γ.N scope) ∧ (∀ i ∈ g.slots, i ∈ (ownB Γ.N scope).map (·.2)) ∧
      (∀ (s : Shared) (H : Hp) (C : Addr) (cl' : List (Str × Addr)) (fp : List Addr), PG (X.blk s H scope (compEnvC scope cl' C X.env) fp) tg (tgP X.K g).1) ∧
      (∀ (s : Shared) (H : Hp) (C : Addr) (cl' : List (Str × Addr)) (fp : List Addr), PTs (X.blk s H scope (compEnvC scope cl' C X.env) fp) ifs (tT X.K W0 cl (pmT Γ.kws) t)) ∧
      (∀ (s : Shared) (H : Hp) (C : Addr) (cl' : List (Str × Addr)) (fp : List Addr), PE (X.blk s H scope (compEnvC scope cl' C X.env) fp) elt (tE X.K W0 cl (pmT Γ.kws) e)) ∧ ∀ x, foldedSetIterable iter X.env x = pure x := by
  unfold trLc at h
  obtain ⟨h1, h⟩ := gd_some h
  rw [Bool.and_eq_true] at h1
  obtain ⟨⟨k, l⟩, hi, h⟩ := Option.bind_eq_some_iff.mp h
  obtain ⟨g, hg, h⟩ := Option.bind_eq_some_iff.mp h
  obtain ⟨h2, h⟩ := gd_some h
  obtain ⟨t, ht, h⟩ := Option.bind_eq_some_iff.mp h
  obtain ⟨e, he, rfl⟩ := Option.map_eq_some_iff.mp h
  refine ⟨k, l, g, t, e, rfl, trI_ok o x hi, by rw [x.N, x.sc]; exact blkB_ok h1.1, fun i hi => of_decide_eq_true (List.all_eq_true.mp h2 i hi), fun s H C cl' fp => ?_, fun s H C cl' fp => ?_, fun s H C cl' fp => ?_, folded_pure (by simpa using h1.2)⟩
  · have y := x.blk s H scope cl' C fp
    exact trG_ok y.sc y.N y.nd y.calm (fun _ z => z) 4 tg g hg
  · have y := x.blk s H scope cl' C fp
    split at ht
    · cases ht; exact pts_yes
    · exact pts_one (o.T cl W0 n _ _ y _ _ ht)
    · cases ht
  · have y := x.blk s H scope cl' C fp
    exact o.E cl W0 n _ _ y _ _ elt e he
theorem dbg_ok {x : Str} (h : dbg x = true) : (x == ("__debug__" : Str)) = false ∧ (x == ("__classdict__" : Str)) = false := of_decide_eq_true h
theorem tyNm_ok {e : Expr} {q : Str × Pos × String} (h : tyNm sc e = some q) : e = .Name q.1 q.2.1 ∧ glB sc q.1 = true ∧ (q.1 == ("__debug__" : Str)) = false ∧ q.1 ≠ "__name__" ∧ bltOnes.contains q.1 = true ∧ bootBuiltins q.1 = some (.type q.2.2) := by
  unfold tyNm at h
  split at h
  · obtain ⟨h1, h⟩ := gd_some h
    rw [Bool.and_eq_true, Bool.and_eq_true, Bool.and_eq_true] at h1
    split at h
    · rename_i c p ty hb
      cases h
      exact ⟨rfl, h1.1.1.1, (dbg_ok h1.1.1.2).1, of_decide_eq_true h1.1.2, h1.2, hb⟩
    · cases h
  · cases h
theorem tyNms_ok (x : CtxOk Γ cl W n sc X) : ∀ {es : List Expr} {qs : List (Str × Pos × String)}, tyNms sc es = some qs → es = (qs.map fun q => (q.1, q.2.1)).map (fun q => Expr.Name q.1 q.2) ∧
    (∀ q ∈ qs.map (fun q => (q.1, q.2.1)), Gl X q.1 ∧ X.mg q.1 = none ∧ q.1 ≠ "__name__" ∧ (q.1 == ("__debug__" : Str)) = false) ∧ Paired (fun (q : Str × Pos) (ty : String) => bootBuiltins q.1 = some (.type ty)) (qs.map fun q => (q.1, q.2.1)) (qs.map (·.2.2))
  | [], _, h => by
    cases h
    exact ⟨rfl, ⟨fun q hq => absurd hq (List.not_mem_nil), Paired.nil⟩⟩
  | e :: es, qs, h => by
    unfold tyNms at h
    split at h
    · rename_i a b ha hb
      cases h
      obtain ⟨h1, h2, h3, h4, h5, h6⟩ := tyNm_ok ha
      obtain ⟨i1, i2, i3⟩ := tyNms_ok x hb
      refine ⟨by rw [h1, i1]; rfl, ⟨fun q hq => ?_, Paired.cons h6 i3⟩⟩
      rcases List.mem_cons.mp hq with rfl | hq
      · exact ⟨x.gl h2, x.bl _ h5, h4, h3⟩
      · exact i2 q hq
    · cases h
theorem trIsi_ok (o : TrsOk Γ r) (x : CtxOk Γ cl W n sc X) {np pos : Pos} {args : List Expr} {c : C} (hg : Gl X "isinstance") (hst : args.all (fun e => !isStar e) = true) (h : trIsi r sc args = some c) : PE X (.Call (.Name "isinstance" np) args [] pos) (tE X.K W cl (pmT Γ.kws) c) := by
  unfold trIsi at h
  split at h
  · rename_i a c' p
    obtain ⟨q, hq, h⟩ := Option.bind_eq_some_iff.mp h
    obtain ⟨a', ha, rfl⟩ := Option.map_eq_some_iff.mp h
    obtain ⟨e1, h2, h3, h4, h5, h6⟩ := tyNm_ok hq
    cases e1
    rw [List.all_cons, Bool.and_eq_true] at hst
    exact qe_isi1 hg (bl_in x) (x.gl h2) (x.bl _ h5) h6 h4 h3 (o.E cl W n sc X x _ _ a a' ha) (star_cons _ (by simpa using hst.1)) rfl rfl
  · rename_i a cs k p
    obtain ⟨qs, hq, h⟩ := Option.bind_eq_some_iff.mp h
    obtain ⟨hl, h⟩ := gd_some h
    obtain ⟨a', ha, rfl⟩ := Option.map_eq_some_iff.mp h
    obtain ⟨e1, h2, h3⟩ := tyNms_ok x hq
    rw [List.all_cons, Bool.and_eq_true] at hst
    rw [e1]
    exact qe_isiN hg (bl_in x) h2 h3 (by rw [List.length_map]; exact of_decide_eq_true hl) (o.E cl W n sc X x _ _ a a' ha) (star_cons _ (by simpa using hst.1))
  · cases h
theorem trBlt_ok (o : TrsOk Γ r) (x : CtxOk Γ cl W n sc X) {fr : Bool} {y : Str} {np pos : Pos} {args : List Expr} {c : C} (hg : Gl X y) (hst : args.all (fun e => !isStar e) = true) (h : trBlt r sc fr y args = some c) : PE X (.Call (.Name y np) args [] pos) (tE X.K W cl (pmT Γ.kws) c) := by
  unfold trBlt at h
  split at h
  · cases h
  · rename_i e es
    obtain ⟨b, hb, h⟩ := Option.bind_eq_some_iff.mp h
    obtain ⟨l, hL, rfl⟩ := Option.map_eq_some_iff.mp h
    have hn := biOf_nm hb
    subst hn
    rw [List.all_cons, Bool.and_eq_true] at hst
    have s1 : isStar e = false := by simpa using hst.1
    have hm := x.bl _ b.in_ones
    cases hfr : (fr && decide (b = .list)) with
    | false => exact qe_bi x.calm b hg hm (trEs_ok o x _ _ hL) (star_cons es s1) (star_any hst.2)
    | true =>
      rw [Bool.and_eq_true] at hfr
      have := of_decide_eq_true hfr.2
      subst this
      exact qe_biF hg hm (trEs_ok o x _ _ hL) (star_cons es s1) (star_any hst.2)
theorem trKwC_ok (o : TrsOk Γ r) (x : CtxOk Γ cl W n sc X) {y : Str} {np pos : Pos} {args : List Expr} {kws : List Keyword} {c : C} (hg : Gl X y) (hdb : (y == ("__debug__" : Str)) = false) (hst : args.all (fun e => !isStar e) = true) (h : trKwC Γ r sc y args kws = some c) : PE X (.Call (.Name y np) args kws pos) (tE X.K W cl (pmT Γ.kws) c) := by
  unfold trKwC at h
  obtain ⟨hks, h⟩ := gd_some h
  obtain ⟨⟨g, f, ix⟩, hk, h⟩ := Option.bind_eq_some_iff.mp h
  obtain ⟨l, hL, h⟩ := Option.bind_eq_some_iff.mp h
  obtain ⟨kc, hK, rfl⟩ := Option.map_eq_some_iff.mp h
  have hget := kwOf_get hk
  obtain ⟨F, ln⟩ := x.kw _ _ _ _ _ _ hget
  obtain ⟨k1, k2⟩ := kwEach_some (env := X.env) (pos := pos) hks
  cases args with
  | nil =>
    cases hL
    exact qe_callk0 F (pmT_at hget) ln x.room hg x.tk (trKw_ok o x _ _ hK) k1 (kwEach_nm _) hdb (by rw [k2]; rfl)
  | cons e es =>
    have hst2 := hst
    rw [List.all_cons, Bool.and_eq_true] at hst2
    exact qe_callk F (pmT_at hget) ln x.room hg x.tk (trEs_ok o x _ _ hL) (trKw_ok o x _ _ hK) k1 (kwEach_nm _) hdb (star_cons es (by simpa using hst2.1)) (by rw [k2, star_any hst]; rfl)
theorem trCall_ok (o : TrsOk Γ r) (x : CtxOk Γ cl W n sc X) {fr : Bool} {y : Str} {np pos : Pos} {args : List Expr} {kws : List Keyword} {c : C} (h : trCall Γ r sc fr y args kws = some c) : PE X (.Call (.Name y np) args kws pos) (tE X.K W cl (pmT Γ.kws) c) := by
  unfold trCall at h
  obtain ⟨h1, h⟩ := gd_some h
  rw [Bool.and_eq_true, Bool.and_eq_true] at h1
  obtain ⟨⟨hg, hdb⟩, hst⟩ := h1
  have hg := x.gl hg
  have hdb := (dbg_ok hdb).1
  cases kws with
  | cons k ks => exact trKwC_ok o x hg hdb hst h
  | nil =>
    cases hl : Γ.fns.lookup y with
    | some q =>
      obtain ⟨f, np'⟩ := q
      rw [hl] at h
      obtain ⟨l, hL, rfl⟩ := Option.map_eq_some_iff.mp h
      have F := x.fn _ _ _ hl
      cases args with
      | nil => cases hL; exact qe_call0 F x.room hg x.tk hdb
      | cons e es =>
        have hst2 := hst
        rw [List.all_cons, Bool.and_eq_true] at hst2
        exact qe_call F x.room hg x.tk (trEs_ok o x _ _ hL) hdb (star_cons es (by simpa using hst2.1)) (star_any hst2.2)
    | none =>
      rw [hl] at h
      have h : (if y = "isinstance" then trIsi r sc args else trBlt r sc fr y args) = some c := h
      by_cases hy : y = "isinstance"
      · rw [if_pos hy] at h
        subst hy
        exact trIsi_ok o x hg hst h
      · rw [if_neg hy] at h
        exact trBlt_ok o x hg hst h
theorem trMth_ok (o : TrsOk Γ r) (x : CtxOk Γ cl W n sc X) {e : Expr} {m : Str} {apos cpos : Pos} {args : List Expr} {c : C} (h : trMth r sc e m apos args cpos = some c) : PE X (.Call (.Attribute e m apos) args [] cpos) (tE X.K W cl (pmT Γ.kws) c) := by
  unfold trMth at h
  obtain ⟨h1, h⟩ := gd_some h
  rw [Bool.and_eq_true, Bool.and_eq_true, Bool.and_eq_true] at h1
  obtain ⟨⟨⟨h1, h2⟩, h3⟩, h4⟩ := h1
  obtain ⟨a, ha, h⟩ := Option.bind_eq_some_iff.mp h
  obtain ⟨l, hL, rfl⟩ := Option.map_eq_some_iff.mp h
  have hb : attributeBase e m X.env (eval e X.env) = eval e X.env := by cases e <;> first | rfl | cases h4
  have hu : X.A.units + 1 < cLine := by have := x.hu; omega
  cases args with
  | nil => cases hL; exact qe_mth0 hu (o.E cl W n sc X x _ _ e a ha) hb h3
  | cons e1 es =>
    have h1' := h1
    rw [List.all_cons, Bool.and_eq_true] at h1
    refine qe_mth hu (o.E cl W n sc X x _ _ e a ha) (trEs_ok o x _ _ hL) hb ?_ h3 (star_cons es (by simpa using h1.1)) (star_any h1.2)
    rw [star_all h1']
    show (true && true && decide ((e1 :: es).length + 0 + 0 < 30)) = true
    rw [Bool.true_and, Bool.true_and]
    exact h2
theorem trPart_ok (o : TrsOk Γ r) (x : CtxOk Γ cl W n sc X) {e : Option Expr} {l : Option Unit × C} (h : trPart r sc e = some l) : PO X e (tO X.K W cl (pmT Γ.kws) l.1 l.2) ∧ (l.1 = none → l.2 = .nil) := by
  unfold trPart at h
  split at h
  · cases h; exact ⟨po_none, fun _ => rfl⟩
  · obtain ⟨a, ha, rfl⟩ := Option.map_eq_some_iff.mp h
    exact ⟨po_some (o.E cl W n sc X x _ _ _ a ha), fun z => by cases z⟩
theorem trSub_ok (o : TrsOk Γ r) (x : CtxOk Γ cl W n sc X) {e i : Expr} {pos : Pos} {c : C} (h : trSub r sc e i = some c) : PE X (.Subscript e i pos) (tE X.K W cl (pmT Γ.kws) c) := by
  unfold trSub at h
  split at h
  · obtain ⟨a, ha, h⟩ := Option.bind_eq_some_iff.mp h
    obtain ⟨l, hl, h⟩ := Option.bind_eq_some_iff.mp h
    obtain ⟨u, hu, rfl⟩ := Option.map_eq_some_iff.mp h
    obtain ⟨p1, p2⟩ := trPart_ok o x hl
    obtain ⟨p3, p4⟩ := trPart_ok o x hu
    exact qe_sl (o.E cl W n sc X x _ _ _ a ha) p1 p3 p2 p4
  · cases h
  · rename_i n1 n2
    obtain ⟨a, ha, h⟩ := Option.bind_eq_some_iff.mp h
    obtain ⟨b, hb, rfl⟩ := Option.map_eq_some_iff.mp h
    refine qe_idx (by have := x.hu; omega) (o.E cl W n sc X x _ _ _ a ha) (o.E cl W n sc X x _ _ _ b hb) (plain_ix ?_)
    cases i with
    | Slice lo hi st p =>
      cases st with
      | none => exact absurd rfl (n1 lo hi p)
      | some s => exact absurd rfl (n2 lo hi s p)
    | _ => rfl
theorem trCmp_ok (o : TrsOk Γ r) (x : CtxOk Γ cl W n sc X) {e : Expr} {ops : List CmpOp} {es : List Expr} {pos : Pos} {c : C} (h : trCmp r sc e ops es = some c) : PE X (.Compare e ops es pos) (tE X.K W cl (pmT Γ.kws) c) ∧ PT X (.Compare e ops es pos) (tT X.K W cl (pmT Γ.kws) c) := by
  unfold trCmp at h
  split at h
  · obtain ⟨h1, h⟩ := gd_some h
    obtain ⟨a, ha, h⟩ := Option.bind_eq_some_iff.mp h
    obtain ⟨b, hb, rfl⟩ := Option.map_eq_some_iff.mp h
    have m : _ = false := Bool.not_eq_true' _ ▸ h1
    exact ⟨qe_cmp x.hu (o.E cl W n sc X x _ _ _ a ha) (o.E cl W n sc X x _ _ _ b hb) (by simpa using h1), qt_cmp x.hu (o.E cl W n sc X x _ _ _ a ha) (o.E cl W n sc X x _ _ _ b hb) (by simpa using h1)⟩
  · obtain ⟨h1, h⟩ := gd_some h
    rw [Bool.and_eq_true] at h1
    obtain ⟨a, ha, h⟩ := Option.bind_eq_some_iff.mp h
    obtain ⟨b, hb, h⟩ := Option.bind_eq_some_iff.mp h
    obtain ⟨c, hc, rfl⟩ := Option.map_eq_some_iff.mp h
    exact ⟨qe_chn x.hu (o.E cl W n sc X x _ _ _ a ha) (o.E cl W n sc X x _ _ _ b hb) (o.E cl W n sc X x _ _ _ c hc) (by simpa using h1.1) (by simpa using h1.2), qt_chn x.hu (o.E cl W n sc X x _ _ _ a ha) (o.E cl W n sc X x _ _ _ b hb) (o.E cl W n sc X x _ _ _ c hc) (by simpa using h1.1) (by simpa using h1.2)⟩
  · cases h
theorem trCst_ok {c : Const} {t : T} {k : Nat} {pos : Pos} (h : trCst c = some t) : PE X (.Constant c k pos) (tE X.K W cl (pmT Γ.kws) (.cst t)) := by
  unfold trCst at h
  split at h
  · cases h; exact qe_cst pe_non fun _ => .non
  · cases h; exact qe_cst pe_bl fun _ => .bl _
  · cases h; exact qe_cst pe_int fun _ => .int _
  · cases h; exact qe_cst pe_str fun _ => .str _
  · cases h
theorem stE_ok (o : TrsOk Γ r) (x : CtxOk Γ cl W n sc X) {fr tk : Bool} {e : Expr} {c : C} (h : stE Γ r sc fr tk e = some c) : PE X e (tE X.K W cl (pmT Γ.kws) c) := by
  unfold stE at h
  split at h
  · unfold trName at h
    obtain ⟨h1, h⟩ := gd_some h
    rw [Bool.and_eq_true] at h1
    obtain ⟨i, hi, rfl⟩ := Option.map_eq_some_iff.mp h
    exact qe_var (by rw [x.N]; exact posOf_get hi) (x.vis h1.1) (dbg_ok h1.2).1 (dbg_ok h1.2).2
  · obtain ⟨t, ht, rfl⟩ := Option.map_eq_some_iff.mp h
    exact trCst_ok ht
  · obtain ⟨a, ha, h⟩ := Option.bind_eq_some_iff.mp h
    obtain ⟨b, hb, rfl⟩ := Option.map_eq_some_iff.mp h
    exact qe_bin (o.E cl W n sc X x _ _ _ a ha) (o.E cl W n sc X x _ _ _ b hb)
  · obtain ⟨a, ha, rfl⟩ := Option.map_eq_some_iff.mp h
    exact qe_neg (o.E cl W n sc X x _ _ _ a ha)
  · obtain ⟨a, ha, rfl⟩ := Option.map_eq_some_iff.mp h
    exact qe_not (o.E cl W n sc X x _ _ _ a ha)
  · exact trAnd_ok o x _ _ h
  · exact trOr_ok o x _ _ h
  · exact (trCmp_ok o x h).1
  · obtain ⟨t, ht, h⟩ := Option.bind_eq_some_iff.mp h
    obtain ⟨a, ha, h⟩ := Option.bind_eq_some_iff.mp h
    obtain ⟨b, hb, rfl⟩ := Option.map_eq_some_iff.mp h
    exact qe_ife (o.T cl W n sc X x _ t ht) (o.E cl W n sc X x _ _ _ a ha) (o.E cl W n sc X x _ _ _ b hb)
  · obtain ⟨l, hl, rfl⟩ := Option.map_eq_some_iff.mp h
    exact qe_tup (trEs_ok o x _ _ hl)
  · obtain ⟨l, hl, rfl⟩ := Option.map_eq_some_iff.mp h
    exact qe_lst (trEs_ok o x _ _ hl)
  · cases h; exact qe_dct
  · obtain ⟨k, l, g, t, e, rfl, h1, h2, h3, h4, h5, h6, h7⟩ := trLc_ok o x h
    exact qe_comp x.calm (by rw [x.N]; exact x.nd) h1 h2 h3 h4 h5 h6 h7
  · exact trCall_ok o x h
  · exact trMth_ok o x h
  · exact trSub_ok o x h
  · cases h
theorem stT_ok (o : TrsOk Γ r) (x : CtxOk Γ cl W n sc X) {e : Expr} {c : C} (h : stT r sc e = some c) : PT X e (tT X.K W cl (pmT Γ.kws) c) := by
  unfold stT at h
  split at h
  · exact (trCmp_ok o x h).2
  · exact (twAnd_ok o x _ _ h).pt
  · exact (twOr_ok o x _ _ h).pt
  · obtain ⟨a, ha, rfl⟩ := Option.map_eq_some_iff.mp h
    exact qt_not (o.T cl W n sc X x _ a ha)
  · obtain ⟨a, ha, rfl⟩ := Option.map_eq_some_iff.mp h
    exact qt_tru (o.E cl W n sc X x _ _ _ a ha) fun _ => rfl
  · obtain ⟨a, ha, rfl⟩ := Option.map_eq_some_iff.mp h
    exact qt_tru (o.E cl W n sc X x _ _ _ a ha) fun _ => rfl
  · obtain ⟨a, ha, rfl⟩ := Option.map_eq_some_iff.mp h
    exact qt_tru (o.E cl W n sc X x _ _ _ a ha) fun _ => rfl
  · obtain ⟨a, ha, rfl⟩ := Option.map_eq_some_iff.mp h
    exact qt_tru (o.E cl W n sc X x _ _ _ a ha) fun _ => rfl
  · cases h
end
theorem trs_ok (Γ : Gm) : ∀ n, TrsOk Γ (trs Γ n)
  | 0 => ⟨fun _ _ _ _ _ _ _ _ _ _ h => (by cases h), fun _ _ _ _ _ _ _ _ h => (by cases h)⟩
  | n + 1 => ⟨fun cl W k sc X x fr tk e c h => stE_ok (trs_ok Γ n) x h, fun cl W k sc X x e c h => stT_ok (trs_ok Γ n) x h⟩
end Qq

set_option maxHeartbeats 400000
/-! Q11: from the text to what is said in short: statements, defs. -/
namespace Qq
open PySem PySem.Spec PyProof.Rows L2

def swSt (sc : Scope) (ts vs : List Expr) : Option (Option (List Str)) :=
  if (!(ts.length == 2 || ts.length == 3) || vs.length != ts.length) = true then some none
  else if (vs.any isStar) = true then some none
  else
    let line := (ts.head?.map (·.pos.line)).getD 0
    let names := ts.filterMap fun
      | .Name id pos => if sc.names.lookup id == some .local && pos.line == line then some id else none
      | _ => none
    if (names.length != ts.length || names.eraseDups.length != names.length) = true then some none
    else if vs.all (foldedForSure 8) = true then some none
    else if vs.all (constantsAlone 8) = true then none
    else some (some names)
theorem blockKind_fn {env : PySem.Env} (h : env.scope.kind = .function) : env.blockKind = .function := by
  unfold PySem.Env.blockKind
  rw [h]; rfl
theorem swSt_ok {env : PySem.Env} {sc : Scope} {ts vs : List Expr} {o : Option (List Str)} {k k2 : Nat} {p p2 : Pos} (hsc : env.scope = sc) (hk : sc.kind = .function) (h : swSt sc ts vs = some o) : swappedStores [.Tuple ts k p] (.Tuple vs k2 p2) env = pure o := by
  subst hsc
  have hb := blockKind_fn hk
  have e2 : (env.blockKind != .function) = false := by rw [hb]; rfl
  have e3 : (vs.any fun | .Starred .. => true | _ => false) = vs.any isStar := by
    congr 1
  unfold swSt at h
  unfold swappedStores
  show (if (!(ts.length == 2 || ts.length == 3) || vs.length != ts.length || env.blockKind != .function) = true then (pure none : Sem _) else _) = _
  rw [e2, Bool.or_false]
  split at h
  · rename_i h1
    cases h
    rw [if_pos h1]
  · rename_i h1
    rw [if_neg h1]
    show (if (vs.any fun | .Starred .. => true | _ => false) = true then (pure none : Sem _) else _) = _
    rw [e3]
    split at h
    · rename_i h2
      cases h
      rw [if_pos h2]
    · rename_i h2
      rw [if_neg h2]
      simp only at h
      split at h
      · rename_i h3
        cases h
        exact if_pos h3
      · rename_i h3
        refine (if_neg h3).trans ?_
        split at h
        · rename_i h4
          cases h
          exact if_pos h4
        · rename_i h4
          refine (if_neg h4).trans ?_
          split at h
          · cases h
          · rename_i h5
            cases h
            exact if_neg h5
def swLc (sc scope : Scope) (x : Str) (p cpos : Pos) : Bool := (sc.names.lookup x == some .local) && (p.line == cpos.line) && !(scope.names.any fun (n, k) => n == x && (k == .local || k == .cell))
theorem swLc_ok {env : PySem.Env} {sc scope : Scope} {x : Str} {p cpos : Pos} {l : Nat} {elt : Expr} {gs : List Comprehension} {b : Bool} (hsc : env.scope = sc) (hk : sc.kind = .function) (h : swLc sc scope x p cpos = b) : swapsWith (.ListComp elt gs scope cpos) (some (.Name x p)) l env = pure b := by
  subst hsc
  have hb := blockKind_fn hk
  unfold swapsWith
  show (pure (env.blockKind == .function && env.kindOf x == some .local && p.line == cpos.line && !(scope.names.any fun (n, k) => n == x && (k == .local || k == .cell))) : Sem Bool) = _
  rw [hb, ← h]
  rfl
theorem swaps_soleN {env : PySem.Env} {e t : Expr} {l : Nat} (h : isComp e = false) : swapsWithSole [t] e l env = pure false := swaps_no h
theorem swaps_tg {env : PySem.Env} {e t : Expr} {l : Nat} (h : ∀ x p, t ≠ .Name x p) : swapsWith e (some t) l env = pure false := by
  cases e <;> cases t <;> first | rfl | exact absurd rfl (h _ _)
theorem swaps_soleT {env : PySem.Env} {e t : Expr} {l : Nat} (h : ∀ x p, t ≠ .Name x p) : swapsWithSole [t] e l env = pure false := swaps_tg h
theorem swapped_no {env : PySem.Env} {t : Expr} {e : Expr} (h : ∀ ts k p, t ≠ .Tuple ts k p) (h2 : ∀ ts p, t ≠ .List ts p) : swappedStores [t] e env = pure none := by
  cases t <;> first | rfl | exact absurd rfl (h _ _ _) | exact absurd rfl (h2 _ _)
theorem swapped_noV {env : PySem.Env} {ts : List Expr} {k : Nat} {p : Pos} {e : Expr} (h : ∀ vs k p, e ≠ .Tuple vs k p) : swappedStores [.Tuple ts k p] e env = pure none := by
  cases e <;> first | rfl | exact absurd rfl (h _ _ _)

def isTup : Expr → Bool
  | .Tuple _ _ _ => true
  | _ => false
section
variable (Γ : Gm) (r : Trs) (sc : Scope)
/-- name = e -/
def trSet (x : Str) (p : Pos) (e : Expr) : Option P :=
  gd (visB sc x && match sc.names.lookup x with
    | some .free => false
    | _ => true) ((posOf Γ.N x).bind fun i => match e with
    | .ListComp elt [⟨tg, iter, ifs, 0⟩] scope cpos => (match swLc sc scope x p cpos with
      | true => (trLc Γ r sc (decide (x ∈ Γ.own)) elt tg iter ifs scope).map fun c => .asg (.n i) c
      | false => (r.E sc (decide (x ∈ Γ.own)) false e).map fun c => .asg (.n i) c)
    | _ => gd (!isComp e) ((r.E sc (decide (x ∈ Γ.own)) (decide (x ∈ Γ.tks)) e).map fun c => .asg (.n i) c))
def trPar (ts vs : List Expr) (tg e : Expr) : Option P := match swSt sc ts vs with
  | none => none
  | some none => (trG Γ sc (fun _ => true) 4 tg).bind fun g => (r.E sc false false e).map fun c => .asg g c
  | some (some nms) => (match ts, vs with
    | [.Name x _, .Name y _], [a, b] => gd (decide (nms = [x, y]) && decide (sc.names.lookup x = some .local) && decide (sc.names.lookup y = some .local)) ((posOf Γ.N x).bind fun i => (posOf Γ.N y).bind fun j => gd (decide (i ≠ j)) ((trEs r sc [a, b]).map fun l => .par [i, j] l))
    | [.Name x _, .Name y _, .Name z _], [a, b, c] => gd (decide (nms = [x, y, z]) && decide (sc.names.lookup x = some .local) && decide (sc.names.lookup y = some .local) && decide (sc.names.lookup z = some .local)) ((posOf Γ.N x).bind fun i => (posOf Γ.N y).bind fun j => (posOf Γ.N z).bind fun k =>
        gd (decide (i ≠ j) && decide (i ≠ k) && decide (j ≠ k)) ((trEs r sc [a, b, c]).map fun l => .par [i, j, k] l))
    | _, _ => none)
def trAsg (tg e : Expr) : Option P := match tg with
  | .Name x p => trSet Γ r sc x p e
  | .Tuple ts _ _ => (match e with
    | .Tuple vs _ _ => trPar Γ r sc ts vs tg e
    | _ => gd (!isTup e) ((trG Γ sc (fun _ => true) 4 tg).bind fun g => (r.E sc false false e).map fun c => .asg g c))
  | .Subscript o i _ => gd (!isSlc i) ((r.E sc false false e).bind fun c => (r.E sc false false o).bind fun o => (r.E sc false false i).map fun i => .setI o i c)
  | _ => none
def trAug (x : Str) (op : Operator) (e : Expr) : Option P :=
  gd (decide (op = .Add ∨ op = .Sub) && visB sc x && match sc.names.lookup x with
    | some .free => false
    | _ => true) ((posOf Γ.N x).bind fun i => (r.E sc false false e).map fun c => .aug i op c)
def trSs (f : Stmt → Option P) : List Stmt → Option P
  | [] => some .nil
  | s :: ss => (f s).bind fun a => (trSs f ss).map fun b => .seq a b
def trS : Nat → Stmt → Option P
  | 0, _ => none
  | n + 1, s => match s with
    | .Expr (.Constant (.str _) _ _) _ => some .pass
    | .Expr e _ => gd (!isComp e) ((r.E sc false false e).map .drop)
    | .Assign [tg] e _ => trAsg Γ r sc tg e
    | .AugAssign (.Name x _) op e _ => trAug Γ r sc x op e
    | .Return none _ => some .retN
    | .Return (some e) _ => (r.E sc Γ.kp false e).map .ret
    | .If t a b _ => (r.T sc t).bind fun t => (trSs (trS n) a).bind fun a => (trSs (trS n) b).map fun b => .ite t a b
    | .While t b [] _ => (r.T sc t).bind fun t => (trSs (trS n) b).map fun b => .whl t b
    | .For tg it b [] _ => gd (!isSetE it) ((trI r sc tg it).bind fun kl => (trG Γ sc (fun _ => true) 4 tg).bind fun g => (trSs (trS n) b).map fun b => .for_ g kl.1 kl.2 b)
    | .Break _ => some .brk
    | .Continue _ => some .cnt
    | .Pass _ => some .pass
    | .Raise _ _ _ => some .never
    | _ => none
end

/-- a def's own -/
structure DefOk (sc : Scope) (X : Cx) : Prop where
  kind : sc.kind = .function
  fn : ∀ x, X.fn x = true
  hp : PassesOwn (model X.prog X.w) X.A X.env X.xe
section
variable {Γ : Gm} {r : Trs} {cl : Nat → List D → Sto → R D} {E : XK} {wf n : Nat} {sc : Scope} {X : Cx}
theorem loc_of (x : CtxOk Γ cl (EW E) n sc X) {y : Str} (h : (visB sc y && match sc.names.lookup y with
    | some .free => false
    | _ => true) = true) : L2.Loc X.env.scope y := by
  rw [Bool.and_eq_true] at h
  obtain ⟨h1, h2⟩ := h
  rw [x.sc]
  unfold visB at h1
  unfold L2.Loc
  split at h1
  · rename_i q; exact .inl q
  · rename_i q; exact .inr q
  · rename_i q; rw [q] at h2; cases h2
  · cases h1
theorem trSet_ok (o : TrsOk Γ r) (x : CtxOk Γ cl (EW E) n sc X) (d : DefOk sc X) {y : Str} {p pos : Pos} {e : Expr} {c : P} (h : trSet Γ r sc y p e = some c) : PS X (.Assign [.Name y p] e pos) (tS X.K E wf cl (pmT Γ.kws) c) := by
  unfold trSet at h
  obtain ⟨h1, h⟩ := gd_some h
  have hl := loc_of x h1
  obtain ⟨i, hi, h⟩ := Option.bind_eq_some_iff.mp h
  have hi' := posOf_get hi
  rw [← x.N] at hi'
  have hnd : X.N.Nodup := by rw [x.N]; exact x.nd
  have hg : PG X (.Name y p) (tgP X.K (.n i)).1 := pg_name hnd hi' hl (.inl (d.fn y))
  split at h
  · rename_i elt tg iter ifs scope cpos hh hh2
    cases hsw : swLc sc scope y p cpos with
    | true =>
      rw [hsw] at h
      obtain ⟨c', hc, rfl⟩ := Option.map_eq_some_iff.mp h
      obtain ⟨k, l, g, t, e, rfl, h1', h2, h3, h4, h5, h6, h7⟩ := trLc_ok o x hc
      have hyl : X.env.scope.names.lookup y = some .local := by
        unfold swLc at hsw
        rw [Bool.and_eq_true, Bool.and_eq_true] at hsw
        rw [x.sc]; exact eq_of_beq hsw.1.1
      exact qs_asgLc x.calm hnd hi' hyl (swLc_ok x.sc d.kind hsw) h1' h2 h3 h4 h5 h6 h7
    | false =>
      rw [hsw] at h
      obtain ⟨c', hc, rfl⟩ := Option.map_eq_some_iff.mp h
      exact qs_asg (g := .n i) (o.E cl _ n sc X x _ _ _ c' hc) hg (swLc_ok (l := pos.line) x.sc d.kind hsw) rfl rfl
  · obtain ⟨h2, h⟩ := gd_some h
    obtain ⟨c', hc, rfl⟩ := Option.map_eq_some_iff.mp h
    exact qs_asg (g := .n i) (o.E cl _ n sc X x _ _ _ c' hc) hg (swaps_soleN (by simpa using h2)) rfl rfl
theorem trPar_ok (o : TrsOk Γ r) (x : CtxOk Γ cl (EW E) n sc X) (d : DefOk sc X) {ts vs : List Expr} {k k2 : Nat} {p p2 pos : Pos} {c : P} (h : trPar Γ r sc ts vs (.Tuple ts k p) (.Tuple vs k2 p2) = some c) :
    PS X (.Assign [.Tuple ts k p] (.Tuple vs k2 p2) pos) (tS X.K E wf cl (pmT Γ.kws) c) := by
  have hnd : X.N.Nodup := by rw [x.N]; exact x.nd
  unfold trPar at h
  cases hw : swSt sc ts vs with
  | none => rw [hw] at h; cases h
  | some ow =>
    rw [hw] at h
    have sw := swSt_ok (k := k) (k2 := k2) (p := p) (p2 := p2) x.sc d.kind hw
    cases ow with
    | none =>
      obtain ⟨g, hg, h⟩ := Option.bind_eq_some_iff.mp h
      obtain ⟨c', hc, rfl⟩ := Option.map_eq_some_iff.mp h
      exact qs_asg (o.E cl _ n sc X x _ _ _ c' hc) (trG_ok x.sc x.N x.nd x.calm (fun y _ => d.fn y) 4 _ g hg) rfl sw rfl
    | some nms =>
      simp only at h
      split at h
      · rename_i y py z pz a b
        obtain ⟨h1, h⟩ := gd_some h
        rw [Bool.and_eq_true, Bool.and_eq_true] at h1
        obtain ⟨⟨h1, h2⟩, h3⟩ := h1
        obtain ⟨i, hi, h⟩ := Option.bind_eq_some_iff.mp h
        obtain ⟨j, hj, h⟩ := Option.bind_eq_some_iff.mp h
        obtain ⟨hij, h⟩ := gd_some h
        obtain ⟨l, hL, rfl⟩ := Option.map_eq_some_iff.mp h
        have := of_decide_eq_true h1
        subst this
        have h2 := of_decide_eq_true h2
        have h3 := of_decide_eq_true h3
        rw [← x.sc] at h2 h3
        exact qs_par x.calm hnd (by rw [x.N]; exact posOf_get hi) (by rw [x.N]; exact posOf_get hj) (of_decide_eq_true hij) h2 h3 (trEs_ok o x _ _ hL) sw rfl
      · rename_i y py z pz u pu a b c0
        obtain ⟨h1, h⟩ := gd_some h
        rw [Bool.and_eq_true, Bool.and_eq_true, Bool.and_eq_true] at h1
        obtain ⟨⟨⟨h1, h2⟩, h3⟩, h4⟩ := h1
        obtain ⟨i, hi, h⟩ := Option.bind_eq_some_iff.mp h
        obtain ⟨j, hj, h⟩ := Option.bind_eq_some_iff.mp h
        obtain ⟨q, hq, h⟩ := Option.bind_eq_some_iff.mp h
        obtain ⟨hij, h⟩ := gd_some h
        rw [Bool.and_eq_true, Bool.and_eq_true] at hij
        obtain ⟨l, hL, rfl⟩ := Option.map_eq_some_iff.mp h
        have := of_decide_eq_true h1
        subst this
        have h2 := of_decide_eq_true h2
        have h3 := of_decide_eq_true h3
        have h4 := of_decide_eq_true h4
        rw [← x.sc] at h2 h3 h4
        exact qs_par3 x.calm hnd (by rw [x.N]; exact posOf_get hi) (by rw [x.N]; exact posOf_get hj) (by rw [x.N]; exact posOf_get hq) (of_decide_eq_true hij.1.1) (of_decide_eq_true hij.1.2) (of_decide_eq_true hij.2) h2 h3 h4 (trEs_ok o x _ _ hL) sw rfl
      · cases h
theorem trAsg_ok (o : TrsOk Γ r) (x : CtxOk Γ cl (EW E) n sc X) (d : DefOk sc X) {tg e : Expr} {pos : Pos} {c : P} (h : trAsg Γ r sc tg e = some c) : PS X (.Assign [tg] e pos) (tS X.K E wf cl (pmT Γ.kws) c) := by
  unfold trAsg at h
  split at h
  · exact trSet_ok o x d h
  · split at h
    · exact trPar_ok o x d h
    · obtain ⟨h1, h⟩ := gd_some h
      obtain ⟨g, hg, h⟩ := Option.bind_eq_some_iff.mp h
      obtain ⟨c', hc, rfl⟩ := Option.map_eq_some_iff.mp h
      exact qs_asg (o.E cl _ n sc X x _ _ _ c' hc) (trG_ok x.sc x.N x.nd x.calm (fun y _ => d.fn y) 4 _ g hg) (swaps_soleT fun _ _ z => nomatch z) (swapped_noV fun vs k p z => by subst z; cases h1) rfl
  · rename_i ob i p
    obtain ⟨h1, h⟩ := gd_some h
    obtain ⟨c', hc, h⟩ := Option.bind_eq_some_iff.mp h
    obtain ⟨o', ho, h⟩ := Option.bind_eq_some_iff.mp h
    obtain ⟨i', hi, rfl⟩ := Option.map_eq_some_iff.mp h
    refine qs_setI x.hu (o.E cl _ n sc X x _ _ _ c' hc) (o.E cl _ n sc X x _ _ _ o' ho) (o.E cl _ n sc X x _ _ _ i' hi) (fun v => ?_) (swaps_soleT fun _ _ z => nomatch z) rfl rfl
    cases i <;> first | rfl | cases h1
  · cases h
theorem trAug_ok (o : TrsOk Γ r) (x : CtxOk Γ cl (EW E) n sc X) (d : DefOk sc X) {y : Str} {op : Operator} {e : Expr} {pos p : Pos} {c : P} (h : trAug Γ r sc y op e = some c) : PS X (.AugAssign (.Name y p) op e pos) (tS X.K E wf cl (pmT Γ.kws) c) := by
  unfold trAug at h
  obtain ⟨h1, h⟩ := gd_some h
  rw [Bool.and_assoc, Bool.and_eq_true] at h1
  obtain ⟨h1, h2⟩ := h1
  obtain ⟨i, hi, h⟩ := Option.bind_eq_some_iff.mp h
  obtain ⟨c', hc, rfl⟩ := Option.map_eq_some_iff.mp h
  exact qs_aug (of_decide_eq_true h1) (by rw [x.N]; exact x.nd) (by rw [x.N]; exact posOf_get hi) (loc_of x h2) (o.E cl _ n sc X x _ _ _ c' hc) (.inl (d.fn y))
theorem trSs_ok {f : Stmt → Option P} (hf : ∀ s c, f s = some c → PS X s (tS X.K E wf cl (pmT Γ.kws) c)) : ∀ (ss : List Stmt) (c : P), trSs f ss = some c → PSs X ss (tS X.K E wf cl (pmT Γ.kws) c)
  | [], c, h => by cases h; exact qs_nil
  | s :: ss, c, h => by
    unfold trSs at h
    obtain ⟨a, ha, h⟩ := Option.bind_eq_some_iff.mp h
    obtain ⟨b, hb, rfl⟩ := Option.map_eq_some_iff.mp h
    exact qs_seq (hf s a ha) (trSs_ok hf ss b hb)
theorem trS_ok (o : TrsOk Γ r) (x : CtxOk Γ cl (EW E) n sc X) (d : DefOk sc X) : ∀ (k : Nat) (s : Stmt) (c : P), trS Γ r sc k s = some c → PS X s (tS X.K E wf cl (pmT Γ.kws) c)
  | 0, _, _, h => by cases h
  | k + 1, s, c, h => by
    have ih := trSs_ok (trS_ok o x d k)
    unfold trS at h
    split at h
    · cases h; exact qs_doc
    · obtain ⟨h1, h⟩ := gd_some h
      obtain ⟨a, ha, rfl⟩ := Option.map_eq_some_iff.mp h
      exact qs_drop (o.E cl _ n sc X x _ _ _ a ha) (swaps_no (by simpa using h1))
    · exact trAsg_ok o x d h
    · exact trAug_ok o x d h
    · cases h; exact qs_retN
    · obtain ⟨a, ha, rfl⟩ := Option.map_eq_some_iff.mp h
      exact qs_ret (o.E cl _ n sc X x _ _ _ a ha)
    · obtain ⟨t, ht, h⟩ := Option.bind_eq_some_iff.mp h
      obtain ⟨a, ha, h⟩ := Option.bind_eq_some_iff.mp h
      obtain ⟨b, hb, rfl⟩ := Option.map_eq_some_iff.mp h
      exact qs_ite (o.T cl _ n sc X x _ t ht) (ih _ a ha) (ih _ b hb)
    · obtain ⟨t, ht, h⟩ := Option.bind_eq_some_iff.mp h
      obtain ⟨b, hb, rfl⟩ := Option.map_eq_some_iff.mp h
      exact qs_whl d.hp (o.T cl _ n sc X x _ t ht) (ih _ b hb)
    · obtain ⟨h1, h⟩ := gd_some h
      obtain ⟨⟨ik, l⟩, hi, h⟩ := Option.bind_eq_some_iff.mp h
      obtain ⟨g, hg, h⟩ := Option.bind_eq_some_iff.mp h
      obtain ⟨b, hb, rfl⟩ := Option.map_eq_some_iff.mp h
      exact qs_for d.hp x.calm (trI_ok o x hi) (trG_ok x.sc x.N x.nd x.calm (fun y _ => d.fn y) 4 _ g hg) (ih _ b hb) (folded_pure (by simpa using h1))
    · cases h; exact qs_brk
    · cases h; exact qs_cnt
    · cases h; exact qs_pass
    · cases h; exact qs_never
    · cases h
end
end Qq

set_option maxHeartbeats 400000
/-! Q12: all defs. -/
namespace Qq
open PySem PySem.Spec PyProof.Rows L2

section
variable {K : PySem.W.Frag} {B G H : Hp} {m : List Addr} {S : Sto}
theorem pre_get {m m' : List Addr} {i : Nat} {a : Addr} (h : m <+: m') (e : m'[i]? = some a) (hi : i < m.length) : m[i]? = some a := by
  obtain ⟨r, rfl⟩ := h
  rw [List.getElem?_append_left hi] at e
  exact e
theorem fin_o {kp : Bool} {n i : Nat} {S : Sto} : fin kp n (.ret (.o i)) S = if i < n then .ok (.o i) (S.take n) else match S[i]? with
    | some (.lst xs) => if kp then .ok (.o n) (S.take n ++ [.lst xs]) else .ok (.t (.lst xs)) (S.take n)
    | some (.dK xs) => if kp then .ok (.o n) (S.take n ++ [.dK xs]) else .ok (.t (.dK xs)) (S.take n)
    | some (.dT xs) => if kp then .ok (.o n) (S.take n ++ [.dT xs]) else .ok (.t (.dT xs)) (S.take n)
    | _ => .bad := rfl
/-- what a def hands back -/
theorem fin_post {E : XK} {W : WX} {σ σ2 : L2.St} {kp : Bool} {Q : VK} {D : Ends} (hD : D = { nx := fun _ H' => Q .non H', rt := Q }) (hl : m.length = S.length) {r : R (Fl × Env)}
    (q : Post K B W σ G m (RD K) Q ((r.bind fun fr S' => fin kp S.length fr.1 S').cut (S.length + 1))) : Post K B (EW E) σ2 G m (RS K) (QS D) r := by
  subst hD
  cases r with
  | bad => exact q.elim
  | exc x S' => exact fun c dd H' G' m' _ _ _ z => False.elim z
  | ok a S' =>
    obtain ⟨fl, r'⟩ := a
    rintro ⟨fv, σ'⟩ H' G' m' h1 h2 h3 ⟨h4, h5⟩
    have hle : S.length ≤ S'.length := by
      obtain ⟨z, rfl⟩ := h1
      have := h3.len
      rw [List.length_append] at this
      omega
    replace q : Post K B W σ G m (RD K) Q (R.cut (S.length + 1) (fin kp S.length fl S')) := q
    have P1 : Pre K B G' m (S'.take S.length) H' := by
      have := h3.take m.length
      rw [take_pre h1, hl] at this
      exact this
    have cutT : ∀ d : D, R.cut (S.length + 1) (.ok d (S'.take S.length)) = (.ok d (S'.take S.length) : R D) := fun d => by
      show R.ok d ((S'.take S.length).take (S.length + 1)) = _
      rw [List.take_take]
      congr 2
      omega
    have cutA : ∀ (d : D) (c : Cl), R.cut (S.length + 1) (.ok d (S'.take S.length ++ [c])) = (.ok d (S'.take S.length ++ [c]) : R D) := fun d c => by
      show R.ok d ((S'.take S.length ++ [c]).take (S.length + 1)) = _
      rw [List.take_of_length_le]
      rw [List.length_append, List.length_take]
      simp; omega
    cases fl with
    | brk => exact q.elim
    | cnt => exact q.elim
    | nx =>
      cases fv with
      | nx =>
        have q : Post K B W σ G m (RD K) Q (R.cut (S.length + 1) (.ok (.t .non) (S'.take S.length))) := q
        rw [cutT] at q
        exact q .non H' G' m (pre_rfl m) h2 P1 (.t .non)
      | brk => exact h5.elim
      | cnt => exact h5.elim
      | ret v => exact h5.elim
    | ret d =>
      cases fv with
      | nx => exact h5.elim
      | brk => exact h5.elim
      | cnt => exact h5.elim
      | ret v =>
        replace h5 : RpD K G' m' d v := h5
        show Q v H'
        cases h5 with
        | t h5 =>
          rename_i t
          have q : Post K B W σ G m (RD K) Q (R.cut (S.length + 1) (.ok (.t t) (S'.take S.length))) := q
          rw [cutT] at q
          exact q v H' G' m (pre_rfl m) h2 P1 (.t h5)
        | o h5 =>
          rename_i i a
          by_cases hi : i < S.length
          · rw [fin_o, if_pos hi, cutT] at q
            exact q _ H' G' m (pre_rfl m) h2 P1 (.o (pre_get h1 h5 (by omega)))
          · rw [fin_o, if_neg hi] at q
            have hi' : S.length ≤ i := by omega
            have key : ∀ (c : Cl) (t : T) (o : HO), S'[i]? = some c → (∀ c0, c ≠ .lck c0) → CellOk K G' c o → H' a = some o → (∀ ob u, o ≠ .frz ob u) → (∀ G2, Fz G' G2 → G2 a = some o → Rp K G2 (.ref a) t) →
                Post K B W σ G m (RD K) Q (R.cut (S.length + 1) (if kp then .ok (.o S.length) (S'.take S.length ++ [c]) else .ok (.t t) (S'.take S.length))) → Q (.ref a) H' := by
              intro c t o hc hn hok ho hz hrp q
              obtain ⟨ga, _⟩ := h3.cells i c a hc h5
              have ham : a ∉ m := fun hm => by
                obtain ⟨j, hj⟩ := List.getElem?_of_mem hm
                have hj2 := getElem?_pre h1 hj
                have hjl : j < m.length := (List.getElem?_eq_some_iff.mp hj).1
                have : j = i := by
                  obtain ⟨hj3, e3⟩ := List.getElem?_eq_some_iff.mp hj2
                  obtain ⟨hi3, e4⟩ := List.getElem?_eq_some_iff.mp h5
                  have pw := List.pairwise_iff_getElem.mp h3.nd
                  rcases Nat.lt_trichotomy j i with z | z | z
                  · exact absurd (e3.trans e4.symm) (pw j i hj3 hi3 z)
                  · exact z
                  · exact absurd (e4.trans e3.symm) (pw i j hi3 hj3 z)
                omega
              have hB : B a = none := by
                cases e : B a with
                | none => rfl
                | some o' =>
                  obtain ⟨_, _, z⟩ := h3.hid a o' e
                  obtain ⟨c0, hc0⟩ := z i h5
                  rw [hc] at hc0
                  exact absurd (Option.some.inj hc0) (hn c0)
              cases kp with
              | true =>
                rw [if_pos rfl, cutA] at q
                refine q (.ref a) H' G' (m ++ [a]) ⟨[a], rfl⟩ h2 (P1.ownAt ho ga ham hB hok) (.o ?_)
                rw [← hl, List.getElem?_append_right (Nat.le_refl _), Nat.sub_self]; rfl
              | false =>
                rw [if_neg Bool.false_ne_true, cutT] at q
                obtain ⟨f1, P2⟩ := P1.frzAt ho ga ham hB hz
                exact q (.ref a) H' _ m (pre_rfl m) (h2.trans f1) P2 (.t (hrp _ f1 upd_same))
            split at q
            · rename_i xs hc
              obtain ⟨ga, o, ho, hok⟩ := h3.cells i _ a hc h5
              have hok2 := hok
              cases hok with
              | lst hr => exact key _ (.lst xs) _ hc (fun _ z => by cases z) hok2 ho (fun ob u z => by cases z) (fun G2 f hG => .lst (.inl hG) (hr.mono f)) q
            · rename_i xs hc
              obtain ⟨ga, o, ho, hok⟩ := h3.cells i _ a hc h5
              have hok2 := hok
              cases hok with
              | dK hr => exact key _ (.dK xs) _ hc (fun _ z => by cases z) hok2 ho (fun ob u z => by cases z) (fun G2 f hG => .dK (.inl hG) (hr.mono f)) q
            · rename_i xs hc
              obtain ⟨ga, o, ho, hok⟩ := h3.cells i _ a hc h5
              have hok2 := hok
              cases hok with
              | dT hr => exact key _ (.dT xs) _ hc (fun _ z => by cases z) hok2 ho (fun ob u z => by cases z) (fun G2 f hG => .dT (.inl hG) (hr.mono f)) q
            · exact q.elim
end

/-- a def of the text -/
structure Df where
  x : Str
  st : Stmt
  ps : List Str
  N : List Str
  own : List Str
  tks : List Str
  kp : Bool
def Df.gm (d : Df) (fns : List (Str × (Nat × Nat))) (kws : List ((Str × Nat × List Str) × (Nat × List Nat))) : Gm := ⟨d.N, fns, kws, d.own, d.tks, d.kp⟩
def Df.tr (d : Df) (fns : List (Str × (Nat × Nat))) (kws : List ((Str × Nat × List Str) × (Nat × List Nat))) : Option FI :=
  (trSs (trS (d.gm fns kws) (trs (d.gm fns kws) 14) (defScope d.st) 10) (defBody d.st)).map fun b => ⟨d.ps.length, d.N.length, d.kp, b⟩
def fnsOf (ds : List Df) : List (Str × (Nat × Nat)) := go 0 ds
where go (i : Nat) : List Df → List (Str × (Nat × Nat))
  | [] => []
  | d :: r => (d.x, (i, d.ps.length)) :: go (i + 1) r
theorem fnsOf_go : ∀ (ds : List Df) (i : Nat) (x : Str) (f np : Nat), (fnsOf.go i ds).lookup x = some (f, np) → ∃ k d, f = i + k ∧ ds[k]? = some d ∧ d.x = x ∧ np = d.ps.length
  | [], _, _, _, _, h => by cases h
  | d :: r, i, x, f, np, h => by
    unfold fnsOf.go at h
    rw [List.lookup_cons] at h
    split at h
    · rename_i e
      cases h
      exact ⟨0, d, rfl, rfl, (eq_of_beq e).symm, rfl⟩
    · obtain ⟨k, d', h1, h2, h3, h4⟩ := fnsOf_go r (i + 1) x f np h
      exact ⟨k + 1, d', by omega, by rw [List.getElem?_cons_succ]; exact h2, h3, h4⟩
def scopeB (N ps : List Str) (sc : Scope) : Bool := decide (sc.kind = .function) && !sc.isCoroutine && !sc.isGenerator && decide N.Nodup && decide (N.take ps.length = ps) && ps.all (fun x => decide (sc.names.lookup x = some .local ∨ sc.names.lookup x = some .cell)) && sc.names.all (fun y => decide (y.2 ≠ .free))
theorem scopeB_ok {N ps : List Str} {sc : Scope} (h : scopeB N ps sc = true) : FnScope N ps sc := by
  unfold scopeB at h
  rw [Bool.and_eq_true, Bool.and_eq_true, Bool.and_eq_true, Bool.and_eq_true, Bool.and_eq_true, Bool.and_eq_true] at h
  obtain ⟨⟨⟨⟨⟨⟨h1, h2⟩, h3⟩, h4⟩, h5⟩, h6⟩, h7⟩ := h
  exact ⟨of_decide_eq_true h1, by simpa using h2, by simpa using h3, of_decide_eq_true h4, of_decide_eq_true h5, fun x hx => of_decide_eq_true (List.all_eq_true.mp h6 x hx), fun y hy => of_decide_eq_true (List.all_eq_true.mp h7 y hy)⟩
/-- what the top has written of a def -/
structure DfAt (K : PySem.W.Frag) (mg : Str → Option Value) (d : Df) : Prop where
  ex : ∃ a fd, mg d.x = some (.ref a) ∧ Fun K d.x d.x d.st a fd
  bd : ∀ (kV doc pm : Value) (an : Option Addr) (cdv ct : Value) (us : List Value), us.length = d.ps.length → bindArgs (PySem.W.fnOf d.x d.x (defArgs d.st) (defBody d.st) (defScope d.st) .none kV doc pm an cdv ct) ⟨us, []⟩ = pure (d.ps.zip us)
structure KwOk (ds : List Df) (q : (Str × Nat × List Str) × (Nat × List Nat)) : Prop where
  ex : ∃ d, ds[q.2.1]? = some d ∧ d.x = q.1.1 ∧ d.ps.length = q.2.2.length ∧ ∀ (kV doc pm : Value) (an : Option Addr) (cdv ct : Value) (us ws : List Value), us.length = q.1.2.1 → ws.length = q.1.2.2.length →
    bindArgs (PySem.W.fnOf d.x d.x (defArgs d.st) (defBody d.st) (defScope d.st) .none kV doc pm an cdv ct) ⟨us, q.1.2.2.zip ws⟩ = pure (d.ps.zip (q.2.2.map fun j => (us ++ ws).getD j .none))
  pos : q.2.2 ≠ []
theorem callF_len {fs : List FI} {wf : Nat} {pm : Nat → List D → List D → Option (List D)} {n f : Nat} {F : FI} (hF : fs[f]? = some F) {ds : List D} {S : Sto} (h : ds.length ≠ F.np) : callF fs wf pm n f ds S = .bad := by
  cases n with
  | zero => rfl
  | succ n =>
    unfold callF
    rw [hF]
    exact if_neg h
/-- all defs do what is said in short -/
theorem all_ok {P : Program} {w : World} {K : PySem.W.Frag} {mg : Str → Option Value} {base : Heap} {ds : List Df} {fs : List FI} {kws : List ((Str × Nat × List Str) × (Nat × List Nat))} {wf : Nat}
    (hd : ∀ (i : Nat) d, ds[i]? = some d → DfAt K mg d) (ht : ∀ (i : Nat) d, ds[i]? = some d → ∃ F, fs[i]? = some F ∧ d.tr (fnsOf ds) kws = some F ∧ scopeB d.N d.ps (defScope d.st) = true)
    (hk : ∀ q ∈ kws, KwOk ds q) (hb : ∀ x, bltOnes.contains x = true → mg x = none) :
    ∀ (n i : Nat) d, ds[i]? = some d → ∀ a fd, mg d.x = some (.ref a) → Fun K d.x d.x d.st a fd → FnOk P w K mg base (L2.CX P w) n a fd d.ps (spF K (callF fs wf (pmT kws) n) i d.ps.length) := by
  intro n
  induction n with
  | zero =>
    intro i d hi a fd hm F
    refine ⟨fun vs H Q E h => ?_, fun A outer s H args us vs Q E hr e0 hb hv h => ?_⟩
    · obtain ⟨B, G, m, S, dd, hl, hp, hr, q⟩ := h
      exact q.elim
    · obtain ⟨B, G, m, S, dd, hl, hp, hr, q⟩ := h
      exact q.elim
  | succ n ih =>
    intro i d hi a fd hm F
    obtain ⟨FI, hFI, htr, hsc⟩ := ht i d hi
    have SC := scopeB_ok hsc
    obtain ⟨body, hbody, rfl⟩ := Option.map_eq_some_iff.mp htr
    refine F.okX SC (fun vs H Q E h => ?_) fun cdv A outer s H vs Q E hr h => ?_
    · obtain ⟨B, G, m, S, dd, hl, hp, hr, q⟩ := h
      rw [← hr.length]; exact hl
    · obtain ⟨B, G, m, S, dd, hl, hp, hrp, q⟩ := h
      have hX : CtxOk (d.gm (fnsOf ds) kws) (callF fs wf (pmT kws) n) (EW E) n (defScope d.st) (cxOf (L2.CX P w) P w K mg base d.N d.x (defScope d.st) a cdv A outer s H E) := {
        sc := rfl
        N := rfl
        nd := SC.nd
        calm := rfl
        room := hr
        fn := fun x f np hx => by
          obtain ⟨k, d', e1, e2, e3, e4⟩ := fnsOf_go ds 0 x f np hx
          subst e3 e4
          have e1 : f = k := by omega
          subst e1
          obtain ⟨a', fd', hm', F'⟩ := (hd f d' e2).ex
          have ok' := ih f d' e2 a' fd' hm' F'
          obtain ⟨FI', hF', htr', _⟩ := ht f d' e2
          obtain ⟨b', _, rfl⟩ := Option.map_eq_some_iff.mp htr'
          exact ⟨⟨a', fd', d'.ps, hm', F'.kp, F'.binds (hd f d' e2).bd, ok'⟩, fun dd S hl => callF_len hF' hl⟩
        kw := fun g x p ks f ix hg => by
          obtain ⟨⟨d', e2, e3, e4, hbd⟩, hpos⟩ := hk _ (List.mem_of_getElem? hg)
          have e2 : ds[f]? = some d' := e2
          have e3 : d'.x = x := e3
          have e4 : d'.ps.length = ix.length := e4
          obtain ⟨a', fd', hm', F'⟩ := (hd f d' e2).ex
          have ok' := ih f d' e2 a' fd' hm' F'
          obtain ⟨FI', hF', htr', _⟩ := ht f d' e2
          obtain ⟨b', _, rfl⟩ := Option.map_eq_some_iff.mp htr'
          refine ⟨⟨⟨a', fd', d'.ps, by rw [← e3]; exact hm', F'.kp, by rw [← e4]; exact ok', e4, fun s us ws h1 h2 => ?_⟩, hpos⟩, fun dd S hl => callF_len hF' (by rw [← e4] at hl; exact hl)⟩
          obtain ⟨oc, od, kV, doc, pm, an, cdv', ct, osl, rfl, lk, hcd⟩ := F'.ex
          exact .of_eq (hbd kV doc pm an cdv' ct us ws h1 h2)
        bl := hb
        tk := takes_of rfl rfl rfl rfl }
      have hDef : DefOk (defScope d.st) (cxOf (L2.CX P w) P w K mg base d.N d.x (defScope d.st) a cdv A outer s H E) := ⟨SC.kind, fun _ => rfl, passes_of rfl⟩
      refine ⟨_, trSs_ok (wf := wf) (trS_ok (trs_ok _ 14) hX hDef 10) _ body hbody, B, G, m, S, dd.map some ++ List.replicate (d.N.length - d.ps.length) none, hp, ?_, ?_⟩
      · have hvl := hrp.length
        refine ⟨?_, fun j d' h => ?_⟩
        · unfold L2.start
          rw [List.length_append, List.length_append, List.length_map, List.length_map, List.length_replicate, List.length_replicate, ← hvl, hl]
        · have go : ∀ {dd : List D} {vs : List V}, RpDs K G m dd vs → ∀ (j : Nat) (d' : D), (dd.map some ++ List.replicate (d.N.length - d.ps.length) none)[j]? = some (some d') → ∀ k, ∃ v, (vs.map some ++ List.replicate k none)[j]? = some (some v) ∧ RpD K G m d' v := by
            intro dd vs hr
            induction hr with
            | nil =>
              intro j d' h k
              rw [List.map_nil, List.nil_append] at h
              have := List.mem_of_getElem? h
              rw [List.mem_replicate] at this
              cases this.2
            | cons h1 h2 ih =>
              intro j d' h k
              cases j with
              | zero =>
                cases h
                exact ⟨_, rfl, h1⟩
              | succ j => exact ih j d' h k
          exact go hrp j d' h _
      · have q2 : Post K B (fun c d _ H => E c d H) [] G m (RD K) Q (callF fs wf (pmT kws) (n + 1) i dd S) := q
        unfold callF at q2
        rw [hFI] at q2
        have q3 : Post K B (fun c d _ H => E c d H) [] G m (RD K) Q (if dd.length = d.ps.length then ((exec wf (callF fs wf (pmT kws) n) (pmT kws) body (dd.map some ++ List.replicate (d.N.length - d.ps.length) none) S).bind fun fr S' => fin d.kp S.length fr.1 S').cut (S.length + 1) else .bad) := q2
        rw [if_pos hl] at q3
        exact fin_post rfl hp.len q3
theorem ht_of {ds : List Df} {fs : List FI} {kws : List ((Str × Nat × List Str) × (Nat × List Nat))} (h : ds.map (fun d => d.tr (fnsOf ds) kws) = fs.map some) (s : ds.all (fun d => scopeB d.N d.ps (defScope d.st)) = true) :
    ∀ (i : Nat) d, ds[i]? = some d → ∃ F, fs[i]? = some F ∧ d.tr (fnsOf ds) kws = some F ∧ scopeB d.N d.ps (defScope d.st) = true := fun i d hi => by
  have e : (ds.map (fun d => d.tr (fnsOf ds) kws))[i]? = (fs.map some)[i]? := by rw [h]
  rw [List.getElem?_map, List.getElem?_map, hi] at e
  cases hf : fs[i]? with
  | none => rw [hf] at e; cases e
  | some F =>
    rw [hf] at e
    exact ⟨F, rfl, Option.some.inj e, List.all_eq_true.mp s d (List.mem_of_getElem? hi)⟩
theorem dfAt {K : PySem.W.Frag} {h : Heap} {mg : Str → Option Value} (X : K.In h) (G : h.Ns mainGlobals mg) {d : Df} {f : Addr} {oc kV dc pm cd ct : Value} {od an : Option Addr} {sl : Array (Option Value)}
    (a : PySem.W.nsIn K mainGlobals d.x = some (some (.ref f))) (l : K.lookup f = some ⟨oc, od, .func (PySem.W.fnOf d.x d.x (defArgs d.st) (defBody d.st) (defScope d.st) .none kV dc pm an cd ct), sl⟩) (c : PySem.W.codeIn K cd d.x = true) (k : PySem.W.keepIn K (.ref f) = true)
    (bd : ∀ (kV doc pm : Value) (an : Option Addr) (cdv ct : Value) (us : List Value), us.length = d.ps.length → bindArgs (PySem.W.fnOf d.x d.x (defArgs d.st) (defBody d.st) (defScope d.st) .none kV doc pm an cdv ct) ⟨us, []⟩ = pure (d.ps.zip us)) : DfAt K mg d :=
  ⟨⟨f, _, PySem.W.mg_of X G a, fun_mk l c k⟩, bd⟩
theorem passLQ {P : Program} {w : World} {H : Hp} {s s' : Shared} {e : Value} (h : L2.CX P w [] H s (fun _ _ _ => False) e s') : False := by
  obtain ⟨_, _, _, _, _, _, _, _, _, _, _, _, z⟩ := h
  exact z.elim
/-- the law's script -/
theorem spF_law {K : PySem.W.Frag} {cl : Nat → List D → Sto → R D} {f : Nat} {H : Hp} {a : Addr} {ns : List Int} (h : SqL K H a (ns.map V.int)) (q : ∃ S, cl f [.t (.scr ns)] [] = .ok (.t (.bl true)) S) :
    spF K cl f 1 [.ref a] H (fun v _ => v = .bl true) fun _ _ _ => False := by
  obtain ⟨S, q⟩ := q
  refine ⟨fun _ => none, H, [], [], [.t (.scr ns)], rfl, ⟨fun a o z => (nomatch z), Fz.refl H, rfl, List.nodup_nil, fun i c a z => (by simp at z)⟩, .cons (.t (.scr h)) .nil, ?_⟩
  rw [q]
  intro v H' G' m' _ _ _ r
  exact bl_inv r
theorem walkQ {l : PySem.W.OpenLaw} {q : Program} {loose : List Str} {XP : (Str → Option Value) → Heap → Prop} {YP : World → Heap → Prop} {d : DefRec} {K : Params → PySem.W.Frag} {fs : List FI} {pm : Nat → List D → List D → Option (List D)} {wf n f : Nat} {x : Str}
    (hn : l.most = some 63) (hdf : d.params.defaults = []) (hr : Room n callerA) (hY : ∀ (w : World) (h : Heap), YP w h → (K w.params).In h)
    (F : ∀ (w : World) (mg : Str → Option Value) (fa : Addr) (h : Heap), (K w.params).In h → h.Ns mainGlobals mg → mg d.name = some (.ref fa) →
      ∃ fd : FuncData, (∀ (s : Shared) (u : Value), BindsTo s fd ⟨[u], []⟩ [(x, u)]) ∧ ∀ base : Heap, (K w.params).In base → base.Ns mainGlobals mg → FnOk l.prog w (K w.params) mg base (L2.CX l.prog w) n fa fd [x] (spF (K w.params) (callF fs wf pm n) f 1))
    (hlaw : ∀ ns : List Int, ns.length ≤ 63 → (∀ z ∈ ns, Builtin.Int.intBits z ≤ 1048576) → ∃ S, callF fs wf pm n f [.t (.scr ns)] [] = .ok (.t (.bl true)) S) : PySem.W.WalkO q loose XP YP l.row.toRowW d [] (fun f vs => PySem.call f vs) :=
  L2.walk_ofB (n := 63) (k := n) (x := x) (CX := fun w => L2.CX l.prog w) (sp := fun w => spF (K w.params) (callF fs wf pm n) f 1) hn (by decide) hdf hr hY F (fun _ _ a ns hl hb _ hS => spF_law hS (hlaw ns hl hb)) fun _ _ _ _ _ z => passLQ z
end Qq

set_option maxHeartbeats 400000
/-! Q13: a def read with less known of what it calls. -/
namespace Qq
open PySem PySem.Spec PyProof.Rows L2

def RLe {α : Type} (r r' : R α) : Prop := r = .bad ∨ r = r'
def Le (cl cl' : Nat → List D → Sto → R D) : Prop := ∀ f ds S, RLe (cl f ds S) (cl' f ds S)
section
variable {α β : Type}
theorem RLe.refl (r : R α) : RLe r r := .inr rfl
theorem RLe.bind {r r' : R α} {f f' : α → Sto → R β} (h : RLe r r') (k : ∀ a S, RLe (f a S) (f' a S)) : RLe (r.bind f) (r'.bind f') := by
  rcases h with h | h
  · subst h; exact .inl rfl
  · subst h
    cases r with
    | ok a S => exact k a S
    | exc x S => exact .inr rfl
    | bad => exact .inl rfl
theorem RLe.nox {r r' : R α} (h : RLe r r') : RLe r.nox r'.nox := by
  rcases h with h | h
  · subst h; exact .inl rfl
  · subst h; exact .inr rfl
theorem RLe.cut {r r' : R α} (n : Nat) (h : RLe r r') : RLe (r.cut n) (r'.cut n) := by
  rcases h with h | h
  · subst h; exact .inl rfl
  · subst h; exact .inr rfl
theorem RLe.ok {r r' : R α} {a : α} {S : Sto} (h : RLe r r') (e : r = .ok a S) : r' = .ok a S := by
  rcases h with h | h
  · rw [h] at e; cases e
  · rw [← h]; exact e
end
theorem compGo_le {f f' : T → Sto → R (Option T)} (h : ∀ d S, RLe (f d S) (f' d S)) : ∀ (ds : List T) (S : Sto), RLe (compGo f ds S) (compGo f' ds S)
  | [], S => .inr rfl
  | d :: ds, S => by
    unfold compGo
    exact (h d S).bind fun o S1 => (compGo_le h ds S1).bind fun _ _ => .inr rfl
theorem forGo_le {f f' : T → Env → Sto → R (Fl × Env)} (h : ∀ d r S, RLe (f d r S) (f' d r S)) : ∀ (ds : List T) (r : Env) (S : Sto), RLe (forGo f ds r S) (forGo f' ds r S)
  | [], r, S => .inr rfl
  | d :: ds, r, S => by
    unfold forGo
    refine (h d r S).bind fun fr S1 => ?_
    obtain ⟨fl, r1⟩ := fr
    cases fl with
    | nx => exact forGo_le h ds r1 S1
    | cnt => exact forGo_le h ds r1 S1
    | brk => exact .inr rfl
    | ret d => exact .inr rfl
theorem whlGo_le {t t' : Env → Sto → R Bool} {f f' : Env → Sto → R (Fl × Env)} (ht : ∀ r S, RLe (t r S) (t' r S)) (h : ∀ r S, RLe (f r S) (f' r S)) : ∀ (n : Nat) (r : Env) (S : Sto), RLe (whlGo t f n r S) (whlGo t' f' n r S)
  | 0, r, S => .inr rfl
  | n + 1, r, S => by
    unfold whlGo
    refine (ht r S).bind fun b S1 => ?_
    cases b with
    | false => exact .inr rfl
    | true =>
      refine (h r S1).bind fun fr S2 => ?_
      obtain ⟨fl, r1⟩ := fr
      cases fl with
      | nx => exact whlGo_le ht h n r1 S2
      | cnt => exact whlGo_le ht h n r1 S2
      | brk => exact .inr rfl
      | ret d => exact .inr rfl
section
variable {cl cl' : Nat → List D → Sto → R D} (pm : Nat → List D → List D → Option (List D)) (h : Le cl cl')
include h
theorem ev_le : ∀ (c : C) (r : Env) (S : Sto), RLe (ev cl pm c r S) (ev cl' pm c r S)
  | .var _, _, _ => .inr rfl
  | .cst _, _, _ => .inr rfl
  | .bin _ _ a b, r, S => (ev_le a r S).bind fun _ S => (ev_le b r S).bind fun _ _ => .inr rfl
  | .neg a, r, S => (ev_le a r S).bind fun _ _ => .inr rfl
  | .cmp _ a b, r, S => (ev_le a r S).bind fun _ S => (ev_le b r S).bind fun _ _ => .inr rfl
  | .chn _ _ a b c, r, S => (ev_le a r S).bind fun _ S => (ev_le b r S).bind fun _ S => (RLe.refl _).bind fun k S => by
      cases k with
      | false => exact .inr rfl
      | true => exact (ev_le c r S).bind fun _ _ => .inr rfl
  | .andV a b, r, S => (ev_le a r S).bind fun _ S => (RLe.refl _).bind fun k S => by
      cases k with
      | false => exact .inr rfl
      | true => exact ev_le b r S
  | .orV a b, r, S => (ev_le a r S).bind fun _ S => (RLe.refl _).bind fun k S => by
      cases k with
      | true => exact .inr rfl
      | false => exact ev_le b r S
  | .notV a, r, S => (ev_le a r S).bind fun _ _ => .inr rfl
  | .ife t a b, r, S => (ev_le t r S).bind fun _ S => (RLe.refl _).bind fun k S => by
      cases k with
      | true => exact ev_le a r S
      | false => exact ev_le b r S
  | .tru a, r, S => (ev_le a r S).bind fun _ _ => .inr rfl
  | .tup l, r, S => (ev_le l r S).bind fun _ _ => .inr rfl
  | .lst _ l, r, S => (ev_le l r S).bind fun _ _ => .inr rfl
  | .nil, _, _ => .inr rfl
  | .cons a q, r, S => (ev_le a r S).bind fun _ S => (ev_le q r S).bind fun _ _ => .inr rfl
  | .call f l, r, S => (ev_le l r S).bind fun _ S => (RLe.refl _).bind fun ds S => h f ds S
  | .callk f g l k, r, S => (ev_le l r S).bind fun _ S => (ev_le k r S).bind fun _ S => (RLe.refl _).bind fun ds S => h f ds S
  | .bi _ _ l, r, S => (ev_le l r S).bind fun _ _ => .inr rfl
  | .isi a _ _, r, S => (ev_le a r S).bind fun _ _ => .inr rfl
  | .idx a b, r, S => (ev_le a r S).bind fun _ S => (ev_le b r S).bind fun _ _ => .inr rfl
  | .sl _ a _ _ b c, r, S => (ev_le a r S).bind fun _ S => (ev_le b r S).bind fun _ S => (RLe.refl _).bind fun _ S => (ev_le c r S).bind fun _ _ => .inr rfl
  | .mth _ o l, r, S => (ev_le o r S).bind fun _ S => (RLe.refl _).bind fun _ S => (ev_le l r S).bind fun _ _ => .inr rfl
  | .dct _ _, _, _ => .inr rfl
  | .comp fr vs g k l t e, r, S => by
    unfold ev
    refine (ev_le l r S).bind fun x S => (RLe.refl _).bind fun dis S => RLe.bind (compGo_le (fun d S0 => ?_) dis.2 _) fun _ _ => .inr rfl
    cases asgT g d (wip r vs) with
    | none => exact .inr rfl
    | some r' =>
      refine RLe.cut _ (RLe.nox ((ev_le t r' S0).bind fun x S => (RLe.refl _).bind fun k S => ?_))
      cases k with
      | false => exact .inr rfl
      | true => exact (ev_le e r' S).bind fun _ _ => .inr rfl
theorem exec_le (wf : Nat) : ∀ (p : P) (r : Env) (S : Sto), RLe (exec wf cl pm p r S) (exec wf cl' pm p r S)
  | .nil, _, _ => .inr rfl
  | .seq a q, r, S => (exec_le wf a r S).bind fun fr S => by
      obtain ⟨fl, r1⟩ := fr
      cases fl with
      | nx => exact exec_le wf q r1 S
      | brk => exact .inr rfl
      | cnt => exact .inr rfl
      | ret d => exact .inr rfl
  | .asg _ c, r, S => (ev_le pm h c r S).bind fun _ _ => .inr rfl
  | .par _ l, r, S => (ev_le pm h l r S).bind fun _ _ => .inr rfl
  | .aug _ _ c, r, S => (RLe.refl _).bind fun _ S => (ev_le pm h c r S).bind fun _ _ => .inr rfl
  | .setI o i c, r, S => (ev_le pm h c r S).bind fun _ S => (ev_le pm h o r S).bind fun _ S => (ev_le pm h i r S).bind fun _ _ => .inr rfl
  | .drop c, r, S => (ev_le pm h c r S).bind fun _ _ => .inr rfl
  | .ret c, r, S => (ev_le pm h c r S).bind fun _ _ => .inr rfl
  | .retN, _, _ => .inr rfl
  | .ite t a b, r, S => (ev_le pm h t r S).bind fun _ S => (RLe.refl _).bind fun k S => by
      cases k with
      | true => exact exec_le wf a r S
      | false => exact exec_le wf b r S
  | .whl t b, r, S => by
    unfold exec
    exact whlGo_le (fun r S => (ev_le pm h t r S).bind fun _ _ => .inr rfl) (fun r S => exec_le wf b r S) wf r S
  | .for_ g k l b, r, S => by
    unfold exec
    refine (ev_le pm h l r S).bind fun x S => (RLe.refl _).bind fun dis S => RLe.bind (forGo_le (fun d r S => ?_) dis.2 r _) fun _ _ => .inr rfl
    cases asgT g d r with
    | none => exact .inr rfl
    | some r' => exact exec_le wf b r' S
  | .brk, _, _ => .inr rfl
  | .cnt, _, _ => .inr rfl
  | .pass, _, _ => .inr rfl
  | .never, _, _ => .inr rfl
end
/-- a def's body, by what is known of what it calls -/
def bodyF (wf : Nat) (cl : Nat → List D → Sto → R D) (pm : Nat → List D → List D → Option (List D)) (F : FI) (ds : List D) (S : Sto) : R D :=
  ((exec wf cl pm F.body (ds.map some ++ List.replicate (F.nn - F.np) none) S).bind fun fr S' => fin F.kp S.length fr.1 S').cut (S.length + 1)
theorem callF_of {fs : List FI} {wf : Nat} {pm : Nat → List D → List D → Option (List D)} {n f : Nat} {F : FI} {cl : Nat → List D → Sto → R D} {ds : List D} {S S' : Sto} {a : D} (hF : fs[f]? = some F) (hl : ds.length = F.np) (h : Le cl (callF fs wf pm n))
    (e : bodyF wf cl pm F ds S = .ok a S') : callF fs wf pm (n + 1) f ds S = .ok a S' := by
  unfold callF
  rw [hF]
  show (if ds.length = F.np then _ else _) = _
  rw [if_pos hl]
  exact RLe.ok (RLe.cut _ (RLe.bind (exec_le pm h wf F.body _ S) fun _ _ => .inr rfl)) e
theorem le_bad {cl : Nat → List D → Sto → R D} : Le (fun _ _ _ => .bad) cl := fun _ _ _ => .inl rfl
end Qq

set_option maxHeartbeats 400000
/-! Q14: rules of reckoning. -/
namespace Qq
open PySem PySem.Spec PyProof.Rows L2
section
variable {wf : Nat} {cl : Nat → List D → Sto → R D} {pm : Nat → List D → List D → Option (List D)}

@[simp] theorem ev_var (i : Nat) (r : Env) (S : Sto) : ev cl pm (.var i) r S = R.opt (match r[i]? with
    | some (some d) => some d
    | _ => none) S := rfl
@[simp] theorem ev_cst (d : T) (r : Env) (S : Sto) : ev cl pm (.cst d) r S = .ok (.t d) S := rfl
@[simp] theorem ev_bin (fr : Bool) (op : Operator) (a : C) (b : C) (r : Env) (S : Sto) : ev cl pm (.bin fr op a b) r S = (ev cl pm a r S).bind fun x S => (ev cl pm b r S).bind fun y S => (R.opt (match rd S x, rd S y with
    | some d, some e => binT op d e
    | _, _ => none) S).bind fun t S => own fr t S := rfl
@[simp] theorem ev_neg (a : C) (r : Env) (S : Sto) : ev cl pm (.neg a) r S = (ev cl pm a r S).bind fun x S => R.opt (match rd S x with
    | some (.int i) => some (.t (.int (-i)))
    | _ => none) S := rfl
@[simp] theorem ev_cmp (op : CmpOp) (a : C) (b : C) (r : Env) (S : Sto) : ev cl pm (.cmp op a b) r S = (ev cl pm a r S).bind fun x S => (ev cl pm b r S).bind fun y S => R.opt (match rd S x, rd S y with
    | some d, some e => (cmpT op d e).map fun b => .t (.bl b)
    | _, _ => none) S := rfl
@[simp] theorem ev_chn (op : CmpOp) (op2 : CmpOp) (a : C) (b : C) (c : C) (r : Env) (S : Sto) : ev cl pm (.chn op op2 a b c) r S = (ev cl pm a r S).bind fun x S => (ev cl pm b r S).bind fun y S => (R.opt (match rd S x, rd S y with
    | some d, some e => cmpT op d e
    | _, _ => none) S).bind fun k S => match k with
      | false => .ok (.t (.bl false)) S
      | true => (ev cl pm c r S).bind fun z S => R.opt (match rd S y, rd S z with
        | some d, some e => (cmpT op2 d e).map fun b => .t (.bl b)
        | _, _ => none) S := rfl
@[simp] theorem ev_andV (a : C) (b : C) (r : Env) (S : Sto) : ev cl pm (.andV a b) r S = (ev cl pm a r S).bind fun x S => (R.opt ((rd S x).bind truT) S).bind fun k S => match k with
    | true => ev cl pm b r S
    | false => .ok x S := rfl
@[simp] theorem ev_orV (a : C) (b : C) (r : Env) (S : Sto) : ev cl pm (.orV a b) r S = (ev cl pm a r S).bind fun x S => (R.opt ((rd S x).bind truT) S).bind fun k S => match k with
    | true => .ok x S
    | false => ev cl pm b r S := rfl
@[simp] theorem ev_notV (a : C) (r : Env) (S : Sto) : ev cl pm (.notV a) r S = (ev cl pm a r S).bind fun x S => R.opt (((rd S x).bind truT).map fun k => .t (.bl (!k))) S := rfl
@[simp] theorem ev_ife (t : C) (a : C) (b : C) (r : Env) (S : Sto) : ev cl pm (.ife t a b) r S = (ev cl pm t r S).bind fun x S => (R.opt x.bool S).bind fun k S => match k with
    | true => ev cl pm a r S
    | false => ev cl pm b r S := rfl
@[simp] theorem ev_tru (a : C) (r : Env) (S : Sto) : ev cl pm (.tru a) r S = (ev cl pm a r S).bind fun x S => R.opt (((rd S x).bind truT).map fun k => .t (.bl k)) S := rfl
@[simp] theorem ev_tup (l : C) (r : Env) (S : Sto) : ev cl pm (.tup l) r S = (ev cl pm l r S).bind fun x S => R.opt (match x.ls.bind trL with
    | some ts => if ts.length ≤ line then some (.t (.tup ts)) else none
    | none => none) S := rfl
@[simp] theorem ev_lst (fr : Bool) (l : C) (r : Env) (S : Sto) : ev cl pm (.lst fr l) r S = (ev cl pm l r S).bind fun x S => (R.opt (match x.ls.bind trL with
    | some ts => if ts.length ≤ line then some ts else none
    | none => none) S).bind fun ts S => own fr (.lst ts) S := rfl
@[simp] theorem ev_nil  (r : Env) (S : Sto) : ev cl pm (.nil) r S = .ok (.l []) S := rfl
@[simp] theorem ev_cons (a : C) (q : C) (r : Env) (S : Sto) : ev cl pm (.cons a q) r S = (ev cl pm a r S).bind fun x S => (ev cl pm q r S).bind fun y S => R.opt (y.ls.map fun ds => .l (x :: ds)) S := rfl
@[simp] theorem ev_call (f : Nat) (l : C) (r : Env) (S : Sto) : ev cl pm (.call f l) r S = (ev cl pm l r S).bind fun x S => (R.opt x.ls S).bind fun ds S => cl f ds S := rfl
@[simp] theorem ev_callk (f : Nat) (g : Nat) (l : C) (k : C) (r : Env) (S : Sto) : ev cl pm (.callk f g l k) r S = (ev cl pm l r S).bind fun x S => (ev cl pm k r S).bind fun y S => (R.opt (match x.ls, y.ls with
    | some ds, some es => pm g ds es
    | _, _ => none) S).bind fun ds S => cl f ds S := rfl
@[simp] theorem ev_bi (fr : Bool) (b : BI) (l : C) (r : Env) (S : Sto) : ev cl pm (.bi fr b l) r S = (ev cl pm l r S).bind fun x S => (R.opt ((x.ls.bind (rdL S)).bind (biT b)) S).bind fun t S => own fr t S := rfl
@[simp] theorem ev_isi (a : C) (cs : List String) (u2 : Bool) (r : Env) (S : Sto) : ev cl pm (.isi a cs u2) r S = (ev cl pm a r S).bind fun x S => R.opt ((((rd S x).bind tyT).bind fun ty => isiAny ty cs).map fun b => .t (.bl b)) S := rfl
@[simp] theorem ev_idx (a : C) (b : C) (r : Env) (S : Sto) : ev cl pm (.idx a b) r S = (ev cl pm a r S).bind fun x S => (ev cl pm b r S).bind fun y S => R.opt (match rd S x, rd S y with
    | some d, some e => (idxT d e).map D.t
    | _, _ => none) S := rfl
@[simp] theorem ev_sl (fr : Bool) (a : C) (lo : Option Unit) (hi : Option Unit) (b : C) (c : C) (r : Env) (S : Sto) : ev cl pm (.sl fr a lo hi b c) r S = (ev cl pm a r S).bind fun x S => (ev cl pm b r S).bind fun y S => (R.opt (partT lo y) S).bind fun l S => (ev cl pm c r S).bind fun z S => (R.opt (partT hi z) S).bind fun u S => (R.opt ((rd S x).bind fun d => slT d l u) S).bind fun t S => own fr t S := rfl
@[simp] theorem ev_mth (m : Str) (o : C) (l : C) (r : Env) (S : Sto) : ev cl pm (.mth m o l) r S = (ev cl pm o r S).bind fun x S => (R.opt ((rd S x).bind fun t => miOf t m) S).bind fun mi S => (ev cl pm l r S).bind fun y S => (R.opt y.ls S).bind fun ds S => mthS mi x ds S := rfl
@[simp] theorem ev_dct (fr : Bool) (tk : Bool) (r : Env) (S : Sto) : ev cl pm (.dct fr tk) r S = own fr (if tk then .dT [] else .dK []) S := rfl
@[simp] theorem exec_nil  (r : Env) (S : Sto) : exec wf cl pm (.nil) r S = .ok (.nx, r) S := rfl
@[simp] theorem exec_seq (a : P) (q : P) (r : Env) (S : Sto) : exec wf cl pm (.seq a q) r S = (exec wf cl pm a r S).bind fun fr S => match fr.1 with
    | .nx => exec wf cl pm q fr.2 S
    | .brk => .ok fr S
    | .cnt => .ok fr S
    | .ret _ => .ok fr S := rfl
@[simp] theorem exec_asg (g : Tg) (c : C) (r : Env) (S : Sto) : exec wf cl pm (.asg g c) r S = (ev cl pm c r S).bind fun x S => R.opt ((asgD g x r).map fun r' => (.nx, r')) S := rfl
@[simp] theorem exec_par (gs : List Nat) (l : C) (r : Env) (S : Sto) : exec wf cl pm (.par gs l) r S = (ev cl pm l r S).bind fun x S => R.opt ((x.ls.bind fun ds => asgP gs ds r).map fun r' => (.nx, r')) S := rfl
@[simp] theorem exec_aug (i : Nat) (op : Operator) (c : C) (r : Env) (S : Sto) : exec wf cl pm (.aug i op c) r S = (R.opt (match r[i]? with
    | some (some (.t d)) => some d
    | _ => none) S).bind fun d S => (ev cl pm c r S).bind fun y S => R.opt (match d, op, rd S y with
      | .int a, .Add, some (.int b) => some (.nx, r.set i (some (.t (.int (a + b)))))
      | .int a, .Sub, some (.int b) => some (.nx, r.set i (some (.t (.int (a - b)))))
      | _, _, _ => none) S := rfl
@[simp] theorem exec_setI (o : C) (i : C) (c : C) (r : Env) (S : Sto) : exec wf cl pm (.setI o i c) r S = (ev cl pm c r S).bind fun z S => (ev cl pm o r S).bind fun x S => (ev cl pm i r S).bind fun y S => (match x, rd S y, z with
    | .o a, some e, .t d => match S[a]? with
      | some (.lst xs) => match e with
        | .int k => (match ixN xs.length k with
          | some j => .ok (.nx, r) (S.set a (.lst (xs.set j d)))
          | none => .bad)
        | _ => .bad
      | some (.dK kvs) => match keyT e with
        | some k => if kvs.length < line then .ok (.nx, r) (S.set a (.dK (putT kvs k d))) else .bad
        | none => .bad
      | some (.dT kvs) => match e with
        | .tup es => (match keysT es with
          | some k => if kvs.length < line then .ok (.nx, r) (S.set a (.dT (putT kvs k d))) else .bad
          | none => .bad)
        | _ => .bad
      | _ => .bad
    | _, _, _ => .bad) := rfl
@[simp] theorem exec_drop (c : C) (r : Env) (S : Sto) : exec wf cl pm (.drop c) r S = (ev cl pm c r S).bind fun _ S => .ok (.nx, r) S := rfl
@[simp] theorem exec_ret (c : C) (r : Env) (S : Sto) : exec wf cl pm (.ret c) r S = (ev cl pm c r S).bind fun x S => .ok (.ret x, r) S := rfl
@[simp] theorem exec_retN  (r : Env) (S : Sto) : exec wf cl pm (.retN) r S = .ok (.ret (.t .non), r) S := rfl
@[simp] theorem exec_ite (t : C) (a : P) (b : P) (r : Env) (S : Sto) : exec wf cl pm (.ite t a b) r S = (ev cl pm t r S).bind fun x S => (R.opt x.bool S).bind fun k S => match k with
    | true => exec wf cl pm a r S
    | false => exec wf cl pm b r S := rfl
@[simp] theorem exec_brk  (r : Env) (S : Sto) : exec wf cl pm (.brk) r S = .ok (.brk, r) S := rfl
@[simp] theorem exec_cnt  (r : Env) (S : Sto) : exec wf cl pm (.cnt) r S = .ok (.cnt, r) S := rfl
@[simp] theorem exec_pass  (r : Env) (S : Sto) : exec wf cl pm (.pass) r S = .ok (.nx, r) S := rfl
@[simp] theorem exec_never  (r : Env) (S : Sto) : exec wf cl pm (.never) r S = .bad := rfl
@[simp] theorem exec_for (g : Tg) (k : IK) (l : C) (b : P) (r : Env) (S : Sto) : exec wf cl pm (.for_ g k l b) r S = (ev cl pm l r S).bind fun x S => (R.opt (srcT k x S) S).bind fun dis S => (forGo (forEl wf cl pm g b) dis.2 r (lockS dis.1 S)).bind fun fr S' => .ok fr (unlockS dis.1 S S') := rfl
def tst (cl : Nat → List D → Sto → R D) (pm : Nat → List D → List D → Option (List D)) (t : C) (r : Env) (S : Sto) : R Bool := (ev cl pm t r S).bind fun x S => R.opt x.bool S
@[simp] theorem exec_whl (t : C) (b : P) (r : Env) (S : Sto) : exec wf cl pm (.whl t b) r S = whlGo (tst cl pm t) (exec wf cl pm b) wf r S := rfl
@[simp] theorem ev_comp (fr : Bool) (vs : List Nat) (g : Tg) (k : IK) (l t e : C) (r : Env) (S : Sto) : ev cl pm (.comp fr vs g k l t e) r S = (ev cl pm l r S).bind fun x S => (R.opt (srcT k x S) S).bind fun dis S => (compGo (compEl cl pm vs g t e r) dis.2 (lockS dis.1 S)).bind fun xs S' => own fr (.lst xs) (unlockS dis.1 S S') := rfl
end
theorem b_add (i j : Int) : binT .Add (.int i) (.int j) = some (.int (i + j)) := rfl
theorem b_sub (i j : Int) : binT .Sub (.int i) (.int j) = some (.int (i - j)) := rfl
theorem c_gt (i j : Int) : cmpT .Gt (.int i) (.int j) = some (decide (j < i)) := rfl
theorem c_lt (i j : Int) : cmpT .Lt (.int i) (.int j) = some (decide (i < j)) := rfl
theorem c_ge (i j : Int) : cmpT .GtE (.int i) (.int j) = some (decide (j ≤ i)) := rfl
theorem c_le (i j : Int) : cmpT .LtE (.int i) (.int j) = some (decide (i ≤ j)) := rfl
theorem eqT_int (i j : Int) : eqT (.int i) (.int j) = some (decide (i = j)) := by
  show some (decide (_ = _)) = _
  rfl
theorem c_eq (i j : Int) : cmpT .Eq (.int i) (.int j) = some (decide (i = j)) := eqT_int i j
theorem c_ne (i j : Int) : cmpT .NotEq (.int i) (.int j) = some (!decide (i = j)) := by
  show (eqT (.int i) (.int j)).map (fun b => !b) = _
  rw [eqT_int]
  rfl
@[simp] theorem le_line0 : 0 ≤ line := Nat.zero_le _
@[simp] theorem le_line1 : 1 ≤ line := by decide
@[simp] theorem le_line2 : 2 ≤ line := by decide
@[simp] theorem le_line3 : 3 ≤ line := by decide
@[simp] theorem le_line4 : 4 ≤ line := by decide
@[simp] theorem le_line5 : 5 ≤ line := by decide
@[simp] theorem le_line6 : 6 ≤ line := by decide
@[simp] theorem le_line7 : 7 ≤ line := by decide
@[simp] theorem le_line8 : 8 ≤ line := by decide
@[simp] theorem le_line9 : 9 ≤ line := by decide
@[simp] theorem le_line10 : 10 ≤ line := by decide
@[simp] theorem le_line11 : 11 ≤ line := by decide
@[simp] theorem le_line12 : 12 ≤ line := by decide
@[simp] theorem le_line13 : 13 ≤ line := by decide
@[simp] theorem le_line14 : 14 ≤ line := by decide
@[simp] theorem le_line15 : 15 ≤ line := by decide
@[simp] theorem le_line16 : 16 ≤ line := by decide
@[simp] theorem le_line17 : 17 ≤ line := by decide
@[simp] theorem le_line18 : 18 ≤ line := by decide
@[simp] theorem le_line19 : 19 ≤ line := by decide
@[simp] theorem le_line20 : 20 ≤ line := by decide
@[simp] theorem le_line21 : 21 ≤ line := by decide
@[simp] theorem le_line22 : 22 ≤ line := by decide
@[simp] theorem le_line23 : 23 ≤ line := by decide
theorem Le.refl (cl : Nat → List D → Sto → R D) : Le cl cl := fun _ _ _ => .inr rfl
theorem b_fd {i j : Int} (h : 0 < j ∧ j.natAbs.log2 < 9000) : binT .FloorDiv (.int i) (.int j) = some (.int (i / j)) := if_pos h
theorem b_mod {i j : Int} (h : 0 < j) : binT .Mod (.int i) (.int j) = some (.int (i % j)) := if_pos h
theorem b_mul {i j : Int} (h : i.natAbs.log2 + j.natAbs.log2 < 134000000) : binT .Mult (.int i) (.int j) = some (.int (i * j)) := if_pos h
@[simp] theorem lkOf_1 (t : T) : lkOf [.t t] = some none := rfl
@[simp] theorem lkOf_2 (t u : T) : lkOf [.t t, .t u] = some none := rfl
@[simp] theorem lockS_n (S : Sto) : lockS none S = S := rfl
@[simp] theorem unlockS_n (S S' : Sto) : unlockS none S S' = S' := rfl
def mnI (i j : Int) : Int := if j < i then j else i
theorem b_min (i j : Int) : biT .min2 [.int i, .int j] = some (.int (mnI i j)) := rfl
theorem b_int (i : Int) : biT .int [.int i] = some (.int i) := rfl
theorem take_len1 (S : Sto) : List.take (S.length + 1) S = S := List.take_of_length_le (Nat.le_succ _)
theorem take_len (S : Sto) : List.take S.length S = S := List.take_length
@[simp] theorem rd_t (S : Sto) (t : T) : rd S (.t t) = some t := rfl
@[simp] theorem own_f (t : T) (S : Sto) : own false t S = .ok (.t t) S := rfl
@[simp] theorem bool_t (b : Bool) : (D.t (.bl b)).bool = some b := rfl
@[simp] theorem tr_t (t : T) : (D.t t).tr = some t := rfl
@[simp] theorem ls_l (ds : List D) : (D.l ds).ls = some ds := rfl
@[simp] theorem trL_nil : trL [] = some [] := rfl
@[simp] theorem trL_cons (t : T) (r : List D) : trL (.t t :: r) = (trL r).map fun ds => t :: ds := rfl
@[simp] theorem rdL_nil (S : Sto) : rdL S [] = some [] := rfl
@[simp] theorem asgD_n (i : Nat) (d : D) (r : Env) : asgD (.n i) d r = some (r.set i (some d)) := rfl
@[simp] theorem asgD_p (i j : Nat) (a b : T) (r : Env) : asgD (.cons (.n i) (.cons (.n j) .nil)) (.t (.tup [a, b])) r = some ((r.set i (some (.t a))).set j (some (.t b))) := rfl
@[simp] theorem asgT_n (i : Nat) (d : T) (r : Env) : asgT (.n i) d r = some (r.set i (some (.t d))) := rfl
@[simp] theorem asgT_p (i j : Nat) (a b : T) (r : Env) : asgT (.cons (.n i) (.cons (.n j) .nil)) (.tup [a, b]) r = some ((r.set i (some (.t a))).set j (some (.t b))) := rfl
@[simp] theorem bind_ok' {α β : Type} (a : α) (S : Sto) (f : α → Sto → R β) : R.bind (.ok a S) f = f a S := rfl
@[simp] theorem opt_some' {α : Type} (a : α) (S : Sto) : R.opt (some a) S = .ok a S := rfl
@[simp] theorem rdL_cons (S : Sto) (d : D) (r : List D) : rdL S (d :: r) = match rd S d, rdL S r with
    | some t, some ts => some (t :: ts)
    | _, _ => none := rfl
end Qq

set_option maxHeartbeats 400000
/-! P1: what the laws' own helpers do, whatever law they stand in: draws, boxes, cells. -/
namespace Qq.Lw
open PySem L2

/-! ### small facts -/
theorem rd_hd (xs : List T) (S : Sto) : rd (.lst xs :: S) (.o 0) = some (.lst xs) := rfl
theorem x0 (a b c : T) : idxT (.lst [a, b, c]) (.int 0) = some a := rfl
theorem x1 (a b c : T) : idxT (.lst [a, b, c]) (.int 1) = some b := rfl
theorem x2 (a b c : T) : idxT (.lst [a, b, c]) (.int 2) = some c := rfl
theorem n0 : ixN 3 0 = some 0 := by decide +kernel
theorem n1 : ixN 3 1 = some 1 := by decide +kernel
theorem n2 : ixN 3 2 = some 2 := by decide +kernel
theorem lg {i : Int} {k : Nat} (h : i.natAbs < 2 ^ k) (hk : 0 < k) : i.natAbs.log2 < k := by
  by_cases h0 : i.natAbs = 0
  · rw [h0]; simpa using hk
  · exact (Nat.log2_lt h0).mpr h
theorem ml {i j : Int} (hi : i.natAbs < 2 ^ 200) (hj : j.natAbs < 2 ^ 200) : binT .Mult (.int i) (.int j) = some (.int (i * j)) := by
  have h1 := lg hi (by decide)
  have h2 := lg hj (by decide)
  exact b_mul (by omega)
theorem ix_at {n i : Nat} (h : i < n) : ixN n (i : Int) = some i := by
  unfold ixN
  rw [if_pos (by omega), if_pos (by omega), Int.toNat_natCast]
theorem idx_l {xs : List T} {i : Nat} {x : T} (h : xs[i]? = some x) : idxT (.lst xs) (.int (i : Int)) = some x := by
  have hi := (List.getElem?_eq_some_iff.mp h).1
  show atI _ _ = _
  unfold atI
  rw [ix_at hi]
  exact h
theorem idx_t {xs : List T} {i : Nat} {x : T} (h : xs[i]? = some x) : idxT (.tup xs) (.int (i : Int)) = some x := by
  have hi := (List.getElem?_eq_some_iff.mp h).1
  show atI _ _ = _
  unfold atI
  rw [ix_at hi]
  exact h
theorem b_len (xs : List T) : biT .len [.lst xs] = some (.int (xs.length : Int)) := rfl
theorem b_lent (xs : List T) : biT .len [.tup xs] = some (.int (xs.length : Int)) := rfl
theorem bi_bl (k : Bool) : biT .int [.bl k] = some (.int (if k then 1 else 0)) := rfl
theorem bi_abs (i : Int) : biT .abs [.int i] = some (.int (if i < 0 then -i else i)) := rfl
theorem pw18 : binT .Pow (.int 10) (.int 18) = some (.int 1000000000000000000) := by kernel_rfl!
theorem cons_take (c : Cl) (S : Sto) : List.take (S.length + 1) (c :: S) = c :: S := by rw [List.take_succ_cons, List.take_length]
theorem cons_take2 (c : Cl) (S : Sto) : List.take (S.length + 1 + 1) (c :: S) = c :: S := List.take_of_length_le (by simp)
theorem len_cons (c : Cl) (S : Sto) : (c :: S).length = S.length + 1 := rfl

/-! ### the jar of draws -/
def jar (a b c : Int) : Cl := .lst [.int a, .int b, .int c]
/-- k draws more may be made of it -/
def JarOk (k : Nat) (j : Cl) : Prop := ∃ a b c : Int, j = jar a b c ∧ 0 ≤ b ∧ b < 2 ^ 63 ∧ 0 ≤ c ∧ c + k < 2 ^ 90
theorem JarOk.mono {k k' : Nat} {j : Cl} (h : JarOk k j) (hk : k' ≤ k) : JarOk k' j := by
  obtain ⟨a, b, c, e, h1, h2, h3, h4⟩ := h
  exact ⟨a, b, c, e, h1, h2, h3, by omega⟩
def FTake (cA : Int) : FI := ⟨2, 6, false, (.seq (.ite (.cmp .Gt (.idx (.var 0) (.cst (.int 0))) (.cst (.int 0))) (.seq (.asg (.n 5) (.bin false .Mod (.bi false .int (.cons (.idx (.var 0) (.cst (.int 0))) .nil)) (.var 1))) (.seq (.setI (.var 0) (.cst (.int 0)) (.bin false .FloorDiv (.idx (.var 0) (.cst (.int 0))) (.var 1))) (.seq (.ret (.var 5)) .nil))) .nil) (.seq (.setI (.var 0) (.cst (.int 2)) (.bin false .Add (.idx (.var 0) (.cst (.int 2))) (.cst (.int 1)))) (.seq (.asg (.n 2) (.bin false .Mod (.bi false .int (.cons (.bin false .Mult (.bin false .Add (.idx (.var 0) (.cst (.int 1))) (.bin false .Mult (.cst (.int 48271)) (.idx (.var 0) (.cst (.int 2))))) (.bin false .Add (.cst (.int cA)) (.idx (.var 0) (.cst (.int 2))))) .nil)) (.cst (.int 2147483647)))) (.seq (.asg (.n 3) (.bin false .Add (.bin false .Mod (.bi false .int (.cons (.var 2) .nil)) (.cst (.int 40009))) (.cst (.int 7)))) (.seq (.asg (.n 4) (.bin false .Mod (.bi false .int (.cons (.bin false .Mult (.bin false .Add (.bin false .Add (.var 2) (.idx (.var 0) (.cst (.int 2)))) (.bin false .FloorDiv (.idx (.var 0) (.cst (.int 1))) (.cst (.int 1000003)))) (.var 3)) .nil)) (.cst (.int 2147483629)))) (.seq (.ret (.bin false .Mod (.bi false .int (.cons (.bin false .FloorDiv (.bin false .Mod (.bi false .int (.cons (.bin false .Add (.bin false .Mult (.var 4) (.cst (.int 48271))) (.var 2)) .nil)) (.cst (.int 2147483587))) (.cst (.int 64))) .nil)) (.var 1))) .nil))))))⟩
theorem fdA (i : Int) : binT .FloorDiv (.int i) (.int 1000003) = some (.int (i / 1000003)) := b_fd (by decide +kernel)
theorem fdB (i : Int) : binT .FloorDiv (.int i) (.int 64) = some (.int (i / 64)) := b_fd (by decide +kernel)
section
variable {fs : List FI} {wf : Nat} {pm : Nat → List D → List D → Option (List D)}
theorem take_pos {n iT : Nat} {cA : Int} (hF : fs[iT]? = some (FTake cA)) {a b c top : Int} (S : Sto) (ha : 0 < a) (ht : 0 < top ∧ top.natAbs.log2 < 9000) : callF fs wf pm (n + 1) iT [.o 0, .t (.int top)] (jar a b c :: S) = .ok (.t (.int (a % top))) (jar (a / top) b c :: S) := by
  refine callF_of hF rfl (Le.refl _) ?_
  unfold bodyF jar
  simp [FTake, rd_hd, x0, c_gt, ha, b_int, b_mod ht.1, b_fd ht, n0, fin, R.cut, take_len1, take_len]
theorem take_zero {n iT : Nat} {cA : Int} (hF : fs[iT]? = some (FTake cA)) (hA : 0 ≤ cA ∧ cA < 2 ^ 40) {a b c top : Int} (S : Sto) (ha : ¬ 0 < a) (b0 : 0 ≤ b) (b1 : b < 2 ^ 63) (c0 : 0 ≤ c) (c1 : c + 1 < 2 ^ 90) (ht : 0 < top ∧ top.natAbs.log2 < 9000) :
    ∃ v, 0 ≤ v ∧ v < top ∧ callF fs wf pm (n + 1) iT [.o 0, .t (.int top)] (jar a b c :: S) = .ok (.t (.int v)) (jar a b (c + 1) :: S) := by
  have m1 : binT .Mult (.int 48271) (.int (c + 1)) = some (.int (48271 * (c + 1))) := ml (by decide) (by omega)
  have m2 : binT .Mult (.int (b + 48271 * (c + 1))) (.int (cA + (c + 1))) = some (.int ((b + 48271 * (c + 1)) * (cA + (c + 1)))) := ml (by omega) (by omega)
  obtain ⟨fi, hfi⟩ : ∃ fi, fi = (b + 48271 * (c + 1)) * (cA + (c + 1)) % 2147483647 := ⟨_, rfl⟩
  have f0 : 0 ≤ fi := by rw [hfi]; exact Int.emod_nonneg _ (by decide)
  have f1 : fi < 2147483647 := by rw [hfi]; exact Int.emod_lt_of_pos _ (by decide)
  have f2 : 0 ≤ fi % 40009 := Int.emod_nonneg _ (by decide)
  have f3 : fi % 40009 < 40009 := Int.emod_lt_of_pos _ (by decide)
  have g1 : 0 ≤ b / 1000003 := Int.ediv_nonneg b0 (by decide)
  have g2 : b / 1000003 ≤ b := Int.ediv_le_self _ b0
  have m3 : binT .Mult (.int (fi + (c + 1) + b / 1000003)) (.int (fi % 40009 + 7)) = some (.int ((fi + (c + 1) + b / 1000003) * (fi % 40009 + 7))) := ml (by omega) (by omega)
  obtain ⟨th, hth⟩ : ∃ th, th = (fi + (c + 1) + b / 1000003) * (fi % 40009 + 7) % 2147483629 := ⟨_, rfl⟩
  have t0 : 0 ≤ th := by rw [hth]; exact Int.emod_nonneg _ (by decide)
  have t1 : th < 2147483629 := by rw [hth]; exact Int.emod_lt_of_pos _ (by decide)
  have m4 : binT .Mult (.int th) (.int 48271) = some (.int (th * 48271)) := ml (by omega) (by decide)
  refine ⟨((th * 48271 + fi) % 2147483587 / 64) % top, Int.emod_nonneg _ (by omega), Int.emod_lt_of_pos _ ht.1, ?_⟩
  refine callF_of hF rfl (Le.refl _) ?_
  unfold bodyF jar
  simp [FTake, rd_hd, x0, x1, x2, c_gt, ha, b_int, b_add, b_mod ht.1, fdA, fdB, n2, m1, m2, ← hfi, b_mod, m3, ← hth, m4, fin, R.cut, take_len1, take_len]
/-- a draw -/
theorem take_ok {n iT k : Nat} {cA : Int} (hF : fs[iT]? = some (FTake cA)) (hA : 0 ≤ cA ∧ cA < 2 ^ 40) {j : Cl} (hj : JarOk (k + 1) j) (S : Sto) {top : Int} (h0 : 0 < top) (h1 : top < 2 ^ 62) :
    ∃ (v : Nat) (j' : Cl), (v : Int) < top ∧ JarOk k j' ∧ callF fs wf pm (n + 1) iT [.o 0, .t (.int top)] (j :: S) = .ok (.t (.int (v : Int))) (j' :: S) := by
  obtain ⟨a, b, c, rfl, b0, b1, c0, c1⟩ := hj
  have ht : 0 < top ∧ top.natAbs.log2 < 9000 := ⟨h0, Nat.lt_trans (lg (k := 62) (by omega) (by decide)) (by decide)⟩
  by_cases ha : 0 < a
  · have q0 : 0 ≤ a % top := Int.emod_nonneg _ (by omega)
    obtain ⟨v, hv⟩ := Int.eq_ofNat_of_zero_le q0
    refine ⟨v, jar (a / top) b c, by rw [← hv]; exact Int.emod_lt_of_pos _ h0, ⟨_, _, _, rfl, b0, b1, c0, by omega⟩, ?_⟩
    rw [← hv]
    exact take_pos hF S ha ht
  · obtain ⟨v, q0, q1, e⟩ := take_zero (wf := wf) (pm := pm) (n := n) hF hA S ha b0 b1 c0 (by omega) ht
    obtain ⟨v, rfl⟩ := Int.eq_ofNat_of_zero_le q0
    exact ⟨v, jar a b (c + 1), q1, ⟨_, _, _, rfl, b0, b1, by omega, by omega⟩, e⟩
/-- one of some things -/
def FOf (iT : Nat) : FI := ⟨2, 2, false, (.seq (.ret (.idx (.var 1) (.call iT (.cons (.var 0) (.cons (.bi false .len (.cons (.var 1) .nil)) .nil))))) .nil)⟩
theorem of_ok {n iO iT k : Nat} {cA : Int} (hO : fs[iO]? = some (FOf iT)) (hF : fs[iT]? = some (FTake cA)) (hA : 0 ≤ cA ∧ cA < 2 ^ 40) {j : Cl} (hj : JarOk (k + 1) j) (S : Sto) {ts : List T} (h0 : ts ≠ []) (h1 : ts.length ≤ line) :
    ∃ (t : T) (j' : Cl), t ∈ ts ∧ JarOk k j' ∧ callF fs wf pm (n + 1 + 1) iO [.o 0, .t (.lst ts)] (j :: S) = .ok (.t t) (j' :: S) := by
  have hp : 0 < ts.length := List.length_pos_iff.mpr h0
  unfold line at h1
  obtain ⟨v, j', hv, hj', e⟩ := take_ok (wf := wf) (pm := pm) (n := n) hF hA hj S (top := (ts.length : Int)) (by omega) (by omega)
  have hv' : v < ts.length := by omega
  refine ⟨ts[v], j', List.getElem_mem hv', hj', callF_of hO rfl (Le.refl _) ?_⟩
  have hx : idxT (.lst ts) (.int (v : Int)) = some ts[v] := idx_l (by simp [hv'])
  unfold bodyF
  simp [FOf, b_len, e, hx, fin, R.cut, take_len1, take_len]
theorem of_okt {n iO iT k : Nat} {cA : Int} (hO : fs[iO]? = some (FOf iT)) (hF : fs[iT]? = some (FTake cA)) (hA : 0 ≤ cA ∧ cA < 2 ^ 40) {j : Cl} (hj : JarOk (k + 1) j) (S : Sto) {ts : List T} (h0 : ts ≠ []) (h1 : ts.length ≤ line) :
    ∃ (t : T) (j' : Cl), t ∈ ts ∧ JarOk k j' ∧ callF fs wf pm (n + 1 + 1) iO [.o 0, .t (.tup ts)] (j :: S) = .ok (.t t) (j' :: S) := by
  have hp : 0 < ts.length := List.length_pos_iff.mpr h0
  unfold line at h1
  obtain ⟨v, j', hv, hj', e⟩ := take_ok (wf := wf) (pm := pm) (n := n) hF hA hj S (top := (ts.length : Int)) (by omega) (by omega)
  have hv' : v < ts.length := by omega
  refine ⟨ts[v], j', List.getElem_mem hv', hj', callF_of hO rfl (Le.refl _) ?_⟩
  have hx : idxT (.tup ts) (.int (v : Int)) = some ts[v] := idx_t (by simp [hv'])
  unfold bodyF
  simp [FOf, b_lent, e, hx, fin, R.cut, take_len1, take_len]
/-- a jar is made -/
def FBox (cA cB : Int) : FI := ⟨2, 3, true, (.seq (.asg (.n 2) (.ife (.cmp .Lt (.var 1) (.bi false .len (.cons (.var 0) .nil))) (.idx (.var 0) (.var 1)) (.cst (.int 0)))) (.seq (.ret (.lst true (.cons (.bin false .Mult (.bi false .abs (.cons (.var 2) .nil)) (.bi false .int (.cons (.cmp .GtE (.bi false .abs (.cons (.var 2) .nil)) (.bin false .Pow (.cst (.int 10)) (.cst (.int 18)))) .nil))) (.cons (.bin false .Add (.bin false .Add (.bin false .Mod (.bi false .int (.cons (.var 2) .nil)) (.cst (.int 2305843009213693951))) (.bin false .Mult (.cst (.int cA)) (.var 1))) (.cst (.int cB))) (.cons (.cst (.int 0)) .nil))))) .nil))⟩
theorem box_ok {n iB : Nat} {cA cB : Int} (hF : fs[iB]? = some (FBox cA cB)) (hA : 0 ≤ cA ∧ cA < 2 ^ 40) (hB : 0 ≤ cB ∧ cB < 2 ^ 40) {xs : List Int} {k : Nat} {x : Int} (hx : xs[k]? = some x) (hk : k < 1000) (hb : x.natAbs.log2 < 100000000) :
    ∃ j, JarOk (2 ^ 80) j ∧ callF fs wf pm (n + 1) iB [.t (.lst (xs.map T.int)), .t (.int (k : Int))] [] = .ok (.o 0) [j] := by
  have hl : k < xs.length := (List.getElem?_eq_some_iff.mp hx).1
  have hlt : ((k : Int) < (xs.length : Int)) := by omega
  have hix : idxT (.lst (xs.map T.int)) (.int (k : Int)) = some (.int x) := idx_l (by simp [hx])
  obtain ⟨y, hy⟩ : ∃ y, y = (if x < 0 then -x else x) := ⟨_, rfl⟩
  have hyb : y.natAbs.log2 < 100000000 := by
    have : y.natAbs = x.natAbs := by rw [hy]; split <;> omega
    rw [this]; exact hb
  obtain ⟨z, hz⟩ : ∃ z, z = (if (1000000000000000000 : Int) ≤ y then (1 : Int) else 0) := ⟨_, rfl⟩
  have hz2 : z.natAbs.log2 = 0 := by rw [hz]; split <;> decide +kernel
  have m1 : binT .Mult (.int y) (.int z) = some (.int (y * z)) := b_mul (by omega)
  have m2 : binT .Mult (.int cA) (.int (k : Int)) = some (.int (cA * (k : Int))) := ml (by omega) (by omega)
  have r0 : 0 ≤ x % 2305843009213693951 := Int.emod_nonneg _ (by decide)
  have r1 : x % 2305843009213693951 < 2305843009213693951 := Int.emod_lt_of_pos _ (by decide)
  have b1 : binT .Mod (.int x) (.int 2305843009213693951) = some (.int (x % 2305843009213693951)) := b_mod (by decide)
  have p0 : 0 ≤ cA * (k : Int) := Int.mul_nonneg hA.1 (by omega)
  have p1 : cA * (k : Int) ≤ 2 ^ 40 * 1000 := Int.mul_le_mul (by omega) (by omega) (by omega) (by decide)
  refine ⟨jar (y * z) (x % 2305843009213693951 + cA * (k : Int) + cB) 0, ⟨_, _, _, rfl, by omega, by omega, by decide, by decide⟩, ?_⟩
  refine callF_of hF rfl (Le.refl _) ?_
  have hlen : biT .len [.lst (xs.map T.int)] = some (.int (xs.length : Int)) := by rw [b_len, List.length_map]
  unfold bodyF jar
  simp [FBox, hlen, c_lt, hlt, hix, bi_abs, ← hy, pw18, c_ge, bi_bl, ← hz, m1, m2, b_int, b1, b_add, fin, R.cut, own, T.cl]
end
end Qq.Lw

set_option maxHeartbeats 400000
/-! P2: the cells of a script; equal things of equal kinds; the law's last line. -/
namespace Qq.Lw
open PySem L2
theorem sIx_n (n d k : Nat) : HT.sIx n d (some (k : Int)) = min k n := by
  show (if (k : Int) < 0 then ((k : Int) + (n : Int)).toNat else min (k : Int).toNat n) = min k n
  rw [if_neg (by omega), Int.toNat_natCast]
theorem cut_lo {α : Type} (ns : List α) (k : Nat) : cutL ns none (some (k : Int)) = ns.take k := by
  unfold cutL
  rw [sIx_n]
  show (ns.drop 0).take (min k ns.length - 0) = _
  rw [List.drop_zero, Nat.sub_zero]
  by_cases h : k ≤ ns.length
  · rw [Nat.min_eq_left h]
  · rw [Nat.min_eq_right (by omega), List.take_length, List.take_of_length_le (by omega)]
theorem cut_hi {α : Type} (ns : List α) (k : Nat) : cutL ns (some (k : Int)) none = ns.drop k := by
  unfold cutL
  rw [sIx_n]
  show (ns.drop (min k ns.length)).take (ns.length - min k ns.length) = _
  by_cases h : k ≤ ns.length
  · rw [Nat.min_eq_left h, List.take_of_length_le (by rw [List.length_drop]; omega)]
  · rw [Nat.min_eq_right (by omega), List.drop_length, List.drop_eq_nil_of_le (by omega)]; simp
theorem cut_2 {α : Type} (ns : List α) (k l : Nat) (h : k ≤ l) : cutL ns (some (k : Int)) (some (l : Int)) = (ns.drop k).take (l - k) := by
  unfold cutL
  rw [sIx_n, sIx_n]
  by_cases h1 : k ≤ ns.length
  · rw [Nat.min_eq_left h1]
    by_cases h2 : l ≤ ns.length
    · rw [Nat.min_eq_left h2]
    · rw [Nat.min_eq_right (by omega), List.take_of_length_le (by rw [List.length_drop]; omega), List.take_of_length_le (by rw [List.length_drop]; omega)]
  · have e1 : ns.drop (min k ns.length) = [] := List.drop_eq_nil_of_le (by omega)
    have e2 : ns.drop k = [] := List.drop_eq_nil_of_le (by omega)
    rw [e1, e2]; simp
theorem pt1 (d : D) : partT none d = some none := by cases d <;> rfl
theorem pt2 (i : Int) : partT (some ()) (.t (.int i)) = some (some i) := rfl
theorem sl_scr (ns : List Int) (l u : Option Int) : slT (.scr ns) l u = some (.lst ((cutL ns l u).map T.int)) := rfl
theorem b_lst (ds : List T) : biT .list [.lst ds] = some (.lst ds) := rfl
theorem own_l (ds : List T) (S : Sto) : own true (.lst ds) S = .ok (.o S.length) (S ++ [.lst ds]) := rfl
theorem tr_l (ds : List T) : truT (.lst ds) = some (!ds.isEmpty) := rfl
theorem src_en (ds : List T) (S : Sto) (h : ds.length ≤ line) : srcT .enum (.l [.t (.lst ds)]) S = some (none, enumT 0 ds) := if_pos (by rw [len_enumT]; exact h)
theorem src_of {k : IK} {ds : List D} {S : Sto} {lk : Option Nat} {is : List T} (h1 : lkOf ds = some lk) (h2 : (rdL S ds).bind (itT k) = some is) (h3 : is.length ≤ line) : srcT k (.l ds) S = some (lk, is) := by
  show (match lkOf ds, (rdL S ds).bind (itT k) with
    | some lk, some is => if is.length ≤ line then some (lk, is) else none
    | _, _ => none) = _
  rw [h1, h2]
  exact if_pos h3
theorem bind1 {k : IK} {t : T} {S : Sto} {o : Option (List T)} (h : itT k [t] = o) : (rdL S [.t t]).bind (itT k) = o := h
theorem bind2 {k : IK} {t u : T} {S : Sto} {o : Option (List T)} (h : itT k [t, u] = o) : (rdL S [.t t, .t u]).bind (itT k) = o := h
theorem it_r1 {j : Int} (h1 : -(2 ^ 62) ≤ j) (h2 : j ≤ 16777216) : itT .r1 [.int j] = some (upT 0 j.toNat) := by
  unfold itT
  exact if_pos ⟨h1, h2⟩
theorem it_r2 {i j : Int} (h1 : -(2 ^ 62) ≤ i) (h2 : i < 2 ^ 62) (h3 : -(2 ^ 62) ≤ j) (h4 : j < 2 ^ 62) (h5 : j - i ≤ 16777216) : itT .r2 [.int i, .int j] = some (upT i (j - i).toNat) := by
  unfold itT
  exact if_pos ⟨h1, h2, h3, h4, h5⟩
theorem src_r1 (n : Nat) (h : n ≤ 16777216) (S : Sto) : srcT .r1 (.l [.t (.int (n : Int))]) S = some (none, upT 0 n) := by
  have e := it_r1 (j := (n : Int)) (by omega) (by omega)
  rw [Int.toNat_natCast] at e
  exact src_of (lkOf_1 _) (bind1 e) (by rw [len_upT]; exact h)

/-! cells -/
def cB : P := (.seq (.asg (.n 5) (.bin false .Mod (.bi false .int (.cons (.var 3) .nil)) (.var 1))) (.seq (.setI (.var 2) (.var 5) (.bin false .Add (.idx (.var 2) (.var 5)) (.bin false .Mult (.var 4) (.bin false .Add (.var 3) (.cst (.int 2)))))) .nil))
def FCells : FI := ⟨2, 6, false, (.seq (.asg (.n 2) (.orV (.bi true .list (.cons (.sl false (.var 0) none (some ()) .nil (.var 1)) .nil)) (.lst true (.cons (.cst (.int 0)) .nil)))) (.seq (.for_ (.cons (.n 3) (.cons (.n 4) .nil)) .enum (.cons (.sl false (.var 0) (some ()) (some ()) (.var 1) (.cst (.int 63))) .nil) cB) (.seq (.ret (.var 2)) .nil)))⟩
theorem map_set {xs : List Int} {i : Nat} {x : Int} : (xs.map T.int).set i (.int x) = (xs.set i x).map T.int := by rw [List.map_set]
section
variable {fs : List FI} {wf : Nat} {pm : Nat → List D → List D → Option (List D)}
theorem cell_step {cl : Nat → List D → Sto → R D} {ns xs : List Int} {m j : Nat} {z y0 : Int} {x y u : Option D} (hm : 0 < m) (hx : xs[j % m]? = some y0) (hz : binT .Mult (.int z) (.int ((j : Int) + 2)) = some (.int (z * ((j : Int) + 2)))) :
    ∃ y', forEl wf cl pm (.cons (.n 3) (.cons (.n 4) .nil)) cB (.tup [.int (j : Int), .int z]) [some (.t (.scr ns)), some (.t (.int (m : Int))), some (.o 0), x, y, u] [.lst (xs.map T.int)] = .ok (.nx, [some (.t (.scr ns)), some (.t (.int (m : Int))), some (.o 0), some (.t (.int (j : Int))), some (.t (.int z)), y']) [.lst ((xs.set (j % m) (y0 + z * ((j : Int) + 2))).map T.int)] := by
  have hmod : binT .Mod (.int (j : Int)) (.int (m : Int)) = some (.int ((j % m : Nat) : Int)) := by rw [b_mod (by omega)]; rfl
  have hl := (List.getElem?_eq_some_iff.mp hx).1
  have hix : idxT (.lst (xs.map T.int)) (.int ((j % m : Nat) : Int)) = some (.int y0) := idx_l (by simp [hx])
  have hn : ixN (xs.map T.int).length ((j % m : Nat) : Int) = some (j % m) := ix_at (by rw [List.length_map]; exact hl)
  rw [List.length_map] at hn
  refine ⟨some (.t (.int ((j % m : Nat) : Int))), ?_⟩
  generalize j % m = q at *
  simp [forEl, cB, b_int, hmod, rd_hd, hix, b_add, hz, hn, List.map_set]
theorem grow {M w : Nat} {a z j : Int} (ha : a.natAbs ≤ M * w) (hz : z.natAbs ≤ M) (hj : 0 ≤ j) (hj2 : j ≤ 62) : (a + z * (j + 2)).natAbs ≤ M * (w + 64) := by
  have h1 : (a + z * (j + 2)).natAbs ≤ a.natAbs + (z * (j + 2)).natAbs := Int.natAbs_add_le _ _
  have h2 : (z * (j + 2)).natAbs = z.natAbs * (j + 2).natAbs := Int.natAbs_mul _ _
  have h3 : (j + 2).natAbs ≤ 64 := by omega
  have h4 : z.natAbs * (j + 2).natAbs ≤ M * 64 := Nat.mul_le_mul hz h3
  rw [Nat.mul_add]
  omega
theorem cells_loop {cl : Nat → List D → Sto → R D} {ns : List Int} {m M : Nat} (hm : 0 < m) (hM : ∀ z : Int, z.natAbs ≤ M → z.natAbs.log2 < 120000000) : ∀ (zs : List Int) (j w : Nat) (xs : List Int) (x y u : Option D), xs.length = m → (∀ z ∈ zs, z.natAbs ≤ M) → j + zs.length ≤ 63 → (∀ a ∈ xs, a.natAbs ≤ M * w) →
    ∃ (xs' : List Int) (x' y' u' : Option D), forGo (forEl wf cl pm (.cons (.n 3) (.cons (.n 4) .nil)) cB) (enumT j (zs.map T.int)) [some (.t (.scr ns)), some (.t (.int (m : Int))), some (.o 0), x, y, u] [.lst (xs.map T.int)] = .ok (.nx, [some (.t (.scr ns)), some (.t (.int (m : Int))), some (.o 0), x', y', u']) [.lst (xs'.map T.int)] ∧
      xs'.length = m ∧ ∀ a ∈ xs', a.natAbs ≤ M * (w + 64 * zs.length) := by
  intro zs
  induction zs with
  | nil => intro j w xs x y u hl _ _ ha; exact ⟨xs, x, y, u, rfl, hl, ha⟩
  | cons z zs ih =>
    intro j w xs x y u hl hz hj ha
    rw [List.length_cons] at hj
    have hz0 := hz z List.mem_cons_self
    have hml : binT .Mult (.int z) (.int ((j : Int) + 2)) = some (.int (z * ((j : Int) + 2))) := b_mul (by
      have h1 := hM z hz0
      have h2 : ((j : Int) + 2).natAbs.log2 < 7 := lg (by omega) (by decide)
      omega)
    have hlt : j % m < xs.length := by rw [hl]; exact Nat.mod_lt _ hm
    obtain ⟨y1, e1⟩ := cell_step (wf := wf) (cl := cl) (pm := pm) (ns := ns) (xs := xs) (m := m) (j := j) (y0 := xs[j % m]) (x := x) (y := y) (u := u) hm (by simp [hlt]) hml
    obtain ⟨xs', x', y', u', e2, h1, h2⟩ := ih (j + 1) (w + 64) (xs.set (j % m) (xs[j % m] + z * ((j : Int) + 2))) (some (.t (.int (j : Int)))) (some (.t (.int z))) y1 (by rw [List.length_set, hl]) (fun z' hz' => hz z' (List.mem_cons_of_mem _ hz')) (by omega) (fun a h => by
      rcases List.mem_or_eq_of_mem_set h with h | h
      · exact Nat.le_trans (ha a h) (Nat.mul_le_mul_left _ (by omega))
      · rw [h]; exact grow (ha _ (List.getElem_mem hlt)) hz0 (by omega) (by omega))
    have ew : w + 64 + 64 * zs.length = w + 64 * (zs.length + 1) := by omega
    rw [ew] at h2
    refine ⟨xs', x', y', u', ?_, h1, h2⟩
    rw [List.map_cons]
    unfold enumT forGo
    rw [e1]
    exact e2
theorem cells_ok {n iC m M : Nat} (hF : fs[iC]? = some FCells) (hm : 0 < m) (hm2 : m ≤ 3) (hM : ∀ z : Int, z.natAbs ≤ M → z.natAbs.log2 < 120000000) {ns : List Int} (hz : ∀ z ∈ ns, z.natAbs ≤ M) : ∃ xs : List Int, xs ≠ [] ∧ xs.length ≤ 3 ∧ (∀ x ∈ xs, x.natAbs ≤ M * 5000) ∧
    callF fs wf pm (n + 1) iC [.t (.scr ns), .t (.int (m : Int))] [] = .ok (.t (.lst (xs.map T.int))) [] := by
  have c1 : cutL ns none (some (m : Int)) = ns.take m := cut_lo ns m
  have c2 : cutL ns (some (m : Int)) (some 63) = (ns.drop m).take (63 - m) := cut_2 ns m 63 (by omega)
  have small : ∀ z ∈ ns.take m, z.natAbs ≤ M * 5000 := fun z h => Nat.le_trans (hz z (List.mem_of_mem_take h)) (Nat.le_mul_of_pos_right M (by decide))
  by_cases hl : ns.length ≤ m
  · have hd : (ns.drop m).take (63 - m) = [] := by rw [List.drop_eq_nil_of_le hl]; simp
    rw [hd] at c2
    cases hns : ns.take m with
    | nil =>
      rw [hns] at c1
      refine ⟨[0], by simp, by simp, fun x hx => by simp at hx; subst hx; simp, callF_of hF rfl (Le.refl _) ?_⟩
      unfold bodyF
      simp [FCells, pt1, pt2, sl_scr, c1, c2, b_lst, own_l, tr_l, rd, Cl.tr, src_en, enumT, forGo, fin, R.cut]
    | cons z zs =>
      rw [hns] at c1 small
      have h3 : (z :: zs).length ≤ 3 := by rw [← hns, List.length_take]; omega
      refine ⟨z :: zs, by simp, h3, small, callF_of hF rfl (Le.refl _) ?_⟩
      unfold bodyF
      simp [FCells, pt1, pt2, sl_scr, c1, c2, b_lst, own_l, tr_l, rd, Cl.tr, src_en, enumT, forGo, fin, R.cut]
  · have hlm : (ns.take m).length = m := by rw [List.length_take]; omega
    obtain ⟨zs, hzs⟩ : ∃ zs, zs = (ns.drop m).take (63 - m) := ⟨_, rfl⟩
    rw [← hzs] at c2
    have hzl : zs.length ≤ 63 := by rw [hzs, List.length_take]; omega
    obtain ⟨xs', x', y', u', e, h1, h2⟩ := cells_loop (wf := wf) (cl := callF fs wf pm n) (pm := pm) (ns := ns) hm hM zs 0 1 (ns.take m) none none none hlm (fun z h => hz z (by rw [hzs] at h; exact List.mem_of_mem_drop (List.mem_of_mem_take h))) (by omega) (fun a h => by rw [Nat.mul_one]; exact hz a (List.mem_of_mem_take h))
    have hs := src_en (zs.map T.int) [Cl.lst ((ns.take m).map T.int)] (by rw [List.length_map]; unfold line; omega)
    have hne : ns.take m ≠ [] := fun h => by rw [h] at hlm; simp at hlm; omega
    refine ⟨xs', fun h => by rw [h] at h1; simp at h1; omega, by omega, fun x hx => Nat.le_trans (h2 x hx) (Nat.mul_le_mul_left _ (by omega)), callF_of hF rfl (Le.refl _) ?_⟩
    generalize hq : ns.take m = q at *
    cases q with
    | nil => exact absurd rfl hne
    | cons a q =>
      unfold bodyF
      rw [List.map_cons] at e hs
      simp [FCells, pt1, pt2, sl_scr, c1, c2, b_lst, own_l, tr_l, rd, Cl.tr, hs, e, fin, R.cut]
end
end Qq.Lw

set_option maxHeartbeats 400000
/-! P3: equal things of equal kinds; the law's last line. -/
namespace Qq.Lw
open PySem L2
/-- an atom -/
def atm : T → Bool
  | .non => true
  | .bl _ => true
  | .int _ => true
  | .str x => PyData.strOk x
  | _ => false
/-- data, nested so deep at most -/
def pln : Nat → T → Bool
  | 0, t => atm t
  | k + 1, t => match t with
    | .lst ts => ts.all (pln k) && decide (ts.length ≤ 1000000)
    | .tup ts => ts.all (pln k) && decide (ts.length ≤ 1000000)
    | t => atm t
theorem i01 : isiAny "int" ["list", "tuple"] = some false := by decide +kernel
theorem i02 : isiAny "NoneType" ["list", "tuple"] = some false := by decide +kernel
theorem i03 : isiAny "list" ["list", "tuple"] = some true := by decide +kernel
theorem i04 : isiAny "list" ["list"] = some true := by decide +kernel
theorem i05 : isiAny "list" ["tuple"] = some false := by decide +kernel
theorem i06 : isiAny "int" ["bool", "str"] = some false := by decide +kernel
theorem i07 : isiAny "int" ["int"] = some true := by decide +kernel
theorem i08 : isiAny "int" ["bool"] = some false := by decide +kernel
theorem i09 : isiAny "NoneType" ["bool"] = some false := by decide +kernel
theorem i10 : isiAny "tuple" ["list", "tuple"] = some true := by decide +kernel
theorem i11 : isiAny "tuple" ["list"] = some false := by decide +kernel
theorem i12 : isiAny "tuple" ["tuple"] = some true := by decide +kernel
theorem i13 : isiAny "bool" ["list", "tuple"] = some false := by decide +kernel
theorem i14 : isiAny "str" ["list", "tuple"] = some false := by decide +kernel
theorem i15 : isiAny "bool" ["bool", "str"] = some true := by decide +kernel
theorem i16 : isiAny "str" ["bool", "str"] = some true := by decide +kernel
theorem i17 : isiAny "bool" ["bool"] = some true := by decide +kernel
theorem i18 : isiAny "str" ["bool"] = some false := by decide +kernel
theorem eb1 : cmpT .Eq (.bl true) (.bl true) = some true := by decide +kernel
theorem eb2 : cmpT .Eq (.bl false) (.bl false) = some true := by decide +kernel
theorem eb3 : cmpT .NotEq (.bl true) (.bl true) = some false := by decide +kernel
theorem eb4 : cmpT .NotEq (.bl false) (.bl false) = some false := by decide +kernel
theorem eb5 : cmpT .Eq .non .non = some true := by decide +kernel
theorem eb6 (b : Bool) : cmpT .Eq (.bl b) (.bl b) = some true := by cases b <;> decide +kernel
theorem eqT_str {x : Str} (h : PyData.strOk x = true) : eqT (.str x) (.str x) = some true := by
  unfold eqT
  simp [T.pd, SeqAt.shaped, PyData.eqv, PyData.canLay0, PyData.depth, h]
theorem eb7 {x : Str} (h : PyData.strOk x = true) : cmpT .Eq (.str x) (.str x) = some true := eqT_str h
theorem is1 : cmpT .Is .non .non = some true := rfl
theorem is2 (i : Int) : cmpT .Is (.int i) .non = some false := rfl
theorem is3 (i : Bool) : cmpT .Is (.bl i) .non = some false := rfl
theorem is4 (i : Str) : cmpT .Is (.str i) .non = some false := rfl
theorem bools_rep : ∀ n : Nat, boolsT (List.replicate n (.bl true)) = some (List.replicate n true)
  | 0 => rfl
  | n + 1 => by
    rw [List.replicate_succ, List.replicate_succ]
    show (boolsT (List.replicate n (.bl true))).map _ = _
    rw [bools_rep n]; rfl
theorem all_rep (n : Nat) : biT .all [.lst (List.replicate n (.bl true))] = some (.bl true) := by
  show (boolsT _).map _ = _
  rw [bools_rep]
  simp
def FSame (i : Nat) : FI := ⟨2, 4, false, (.seq (.ite (.tru (.isi (.var 1) ["list", "tuple"] false)) (.seq (.ite (.orV (.cmp .NotEq (.isi (.var 0) ["list"] true) (.isi (.var 1) ["list"] true)) (.cmp .NotEq (.isi (.var 0) ["tuple"] true) (.isi (.var 1) ["tuple"] true))) (.seq (.ret (.cst (.bl false))) .nil) .nil) (.seq (.ret (.andV (.cmp .Eq (.bi false .len (.cons (.var 0) .nil)) (.bi false .len (.cons (.var 1) .nil))) (.bi false .all (.cons (.comp false [2, 3] (.cons (.n 2) (.cons (.n 3) .nil)) .zip (.cons (.var 0) (.cons (.var 1) .nil)) (.cst (.bl true)) (.call i (.cons (.var 2) (.cons (.var 3) .nil)))) .nil)))) .nil)) .nil) (.seq (.ite (.orV (.cmp .Is (.var 1) (.cst .non)) (.tru (.isi (.var 1) ["bool", "str"] false))) (.seq (.ret (.andV (.cmp .Eq (.var 0) (.var 1)) (.andV (.cmp .Eq (.isi (.var 0) ["bool"] true) (.isi (.var 1) ["bool"] true)) (.cmp .Eq (.cmp .Is (.var 0) (.cst .non)) (.cmp .Is (.var 1) (.cst .non)))))) .nil) .nil) (.seq (.ret (.andV (.isi (.var 0) ["int"] true) (.andV (.notV (.isi (.var 0) ["bool"] true)) (.cmp .Eq (.var 0) (.var 1))))) .nil)))⟩
theorem zip_same : ∀ ts : List T, (zipT ts ts).length = ts.length
  | [] => rfl
  | t :: ts => by unfold zipT; rw [List.length_cons, List.length_cons, zip_same ts]
section
variable {fs : List FI} {wf : Nat} {pm : Nat → List D → List D → Option (List D)} {i : Nat} (hF : fs[i]? = some (FSame i))
include hF
theorem same_at {m : Nat} {t : T} {S : Sto} (h : atm t = true) : callF fs wf pm (m + 1) i [.t t, .t t] S = .ok (.t (.bl true)) S := by
  refine callF_of hF rfl (Le.refl _) ?_
  unfold bodyF
  cases t with
  | non => simp [FSame, tyT, i02, i09, is1, eb1, eb2, eb5, fin, R.cut, take_len1, take_len, truT]
  | bl b => simp [FSame, tyT, i13, i15, i17, is3, eb1, eb2, eb5, eb6, fin, R.cut, take_len1, take_len, truT]
  | int j => simp [FSame, tyT, i01, i06, i07, i08, is2, c_eq, fin, R.cut, take_len1, take_len, truT]
  | str x => simp [FSame, tyT, i14, i16, i18, is4, eb1, eb2, eb5, eb7 h, fin, R.cut, take_len1, take_len, truT]
  | _ => cases h
omit hF in
theorem same_go {cl : Nat → List D → Sto → R D} {f : T → Bool} {x y : Option D} {S : Sto} (hf : ∀ t, f t = true → cl i [.t t, .t t] S = .ok (.t (.bl true)) S) : ∀ ts : List T, ts.all f = true →
    compGo (compEl cl pm [2, 3] (.cons (.n 2) (.cons (.n 3) .nil)) (.cst (.bl true)) (.call i (.cons (.var 2) (.cons (.var 3) .nil))) [x, y, none, none]) (zipT ts ts) S = .ok (List.replicate ts.length (.bl true)) S
  | [], _ => rfl
  | t :: ts, h => by
    rw [List.all_cons, Bool.and_eq_true] at h
    unfold zipT compGo
    simp [compEl, wip, hf t h.1, R.nox, R.cut, take_len, same_go hf ts h.2, List.replicate_succ]
/-- the same twice -/
theorem same_ok : ∀ (k n : Nat) (t : T) (S : Sto), pln k t = true → callF fs wf pm (n + 1 + k) i [.t t, .t t] S = .ok (.t (.bl true)) S
  | 0, n, t, S, h => same_at hF h
  | k + 1, n, t, S, h => by
    unfold pln at h
    split at h
    · rename_i ts
      rw [Bool.and_eq_true] at h
      refine callF_of (n := n + 1 + k) hF rfl (Le.refl _) ?_
      have hg := same_go (i := i) (pm := pm) (x := some (.t (.lst ts))) (y := some (.t (.lst ts))) (fun t z => same_ok k n t S z) ts h.1
      have hz : (zipT ts ts).length ≤ line := by rw [zip_same]; exact Nat.le_trans (of_decide_eq_true h.2) (by decide)
      have hs : srcT .zip (.l [.t (.lst ts), .t (.lst ts)]) S = some (none, zipT ts ts) := if_pos hz
      unfold bodyF
      simp [FSame, tyT, i03, i04, i05, eb3, eb4, c_eq, fin, R.cut, take_len1, take_len, truT, b_len, hs, hg, all_rep]
    · rename_i ts
      rw [Bool.and_eq_true] at h
      refine callF_of (n := n + 1 + k) hF rfl (Le.refl _) ?_
      have hg := same_go (i := i) (pm := pm) (x := some (.t (.tup ts))) (y := some (.t (.tup ts))) (fun t z => same_ok k n t S z) ts h.1
      have hz : (zipT ts ts).length ≤ line := by rw [zip_same]; exact Nat.le_trans (of_decide_eq_true h.2) (by decide)
      have hs : srcT .zip (.l [.t (.tup ts), .t (.tup ts)]) S = some (none, zipT ts ts) := if_pos hz
      unfold bodyF
      simp [FSame, tyT, i10, i11, i12, eb3, eb4, c_eq, fin, R.cut, take_len1, take_len, truT, b_lent, hs, hg, all_rep]
    · exact same_at (m := n + 1 + k) hF h
end

/-! the law's last line -/
section
variable {fs : List FI} {wf : Nat} {pm : Nat → List D → List D → Option (List D)}
theorem el_gen {cl : Nat → List D → Sto → R D} {iB iR : Nat} {x : Option D} {t u : T} {c0 c1 : Cl} (e : cl iB [.t t, .t u] [] = .ok (.o 0) [c0]) (e2 : cl iR [.o 0] [c0] = .ok (.t (.bl true)) [c1]) :
    compEl cl pm [2] (.n 2) (.cst (.bl true)) (.call iR (.cons (.call iB (.cons (.var 1) (.cons (.var 2) .nil))) .nil)) [x, some (.t t), none] u [] = .ok (some (.bl true)) [] := by
  simp [compEl, wip, e, e2, R.nox, R.cut]
/-- the law behind what is asked by hand -/
def LTail (iC iB iR : Nat) (m : Int) : P := (.seq (.asg (.n 1) (.call iC (.cons (.var 0) (.cons (.cst (.int m)) .nil)))) (.seq (.ret (.bi false .all (.cons (.comp false [2] (.n 2) .r1 (.cons (.bi false .len (.cons (.var 1) .nil)) .nil) (.cst (.bl true)) (.call iR (.cons (.call iB (.cons (.var 1) (.cons (.var 2) .nil))) .nil))) .nil))) .nil))
/-- asked by hand first -/
def FLawH (iH iC iB iR : Nat) (m : Int) : FI := ⟨1, 3, false, (.seq (.ite (.notV (.tru (.call iH .nil))) (.seq (.ret (.cst (.bl false))) .nil) .nil) (LTail iC iB iR m))⟩
theorem comp_all {cl : Nat → List D → Sto → R D} {iB iR : Nat} {xs : List Int} {x : Option D} (h : ∀ (k : Nat), k < xs.length → ∃ c0 c1, cl iB [.t (.lst (xs.map T.int)), .t (.int (k : Int))] [] = .ok (.o 0) [c0] ∧ cl iR [.o 0] [c0] = .ok (.t (.bl true)) [c1]) : ∀ (n k : Nat), k + n ≤ xs.length →
    compGo (compEl cl pm [2] (.n 2) (.cst (.bl true)) (.call iR (.cons (.call iB (.cons (.var 1) (.cons (.var 2) .nil))) .nil)) [x, some (.t (.lst (xs.map T.int))), none]) (upT (k : Int) n) [] = .ok (List.replicate n (.bl true)) []
  | 0, _, _ => rfl
  | n + 1, k, hk => by
    have ih := comp_all (x := x) h n (k + 1) (by omega)
    obtain ⟨c0, c1, e1, e2⟩ := h k (by omega)
    unfold upT compGo
    rw [el_gen e1 e2]
    show R.bind (compGo _ (upT ((k : Int) + 1) n) []) _ = _
    have ec : ((k + 1 : Nat) : Int) = (k : Int) + 1 := by omega
    rw [ec] at ih
    rw [ih]
    rfl
theorem lg_le {z : Int} {e : Nat} (h : z.natAbs ≤ 2 ^ e) : z.natAbs.log2 < e + 1 := lg (Nat.lt_of_le_of_lt h (Nat.pow_lt_pow_right (by decide) (Nat.lt_succ_self e))) (Nat.succ_pos e)
theorem bits_le {z : Int} {e : Nat} (h : Builtin.Int.intBits z ≤ e) : z.natAbs ≤ 2 ^ e := by
  unfold Builtin.Int.intBits at h
  split at h
  · rename_i h0
    have : z = 0 := by simpa using h0
    subst this
    exact Nat.zero_le _
  · exact Nat.le_of_lt (Nat.lt_of_lt_of_le Nat.lt_log2_self (Nat.pow_le_pow_right (by decide) h))
/-- what is left of a law: right for each jar -/
def RightOk (cl : Nat → List D → Sto → R D) (iR : Nat) : Prop := ∀ j, JarOk (2 ^ 80) j → ∃ j', cl iR [.o 0] [j] = .ok (.t (.bl true)) [j']
theorem boxes {n iB iR : Nat} {cA cB : Int} (hB : fs[iB]? = some (FBox cA cB)) (hA : 0 ≤ cA ∧ cA < 2 ^ 40) (hC : 0 ≤ cB ∧ cB < 2 ^ 40) (hR : RightOk (callF fs wf pm (n + 1)) iR) {xs : List Int} (h3 : xs.length ≤ 3) (hb : ∀ x ∈ xs, x.natAbs.log2 < 100000000) (k : Nat) (hk : k < xs.length) :
    ∃ c0 c1, callF fs wf pm (n + 1) iB [.t (.lst (xs.map T.int)), .t (.int (k : Int))] [] = .ok (.o 0) [c0] ∧ callF fs wf pm (n + 1) iR [.o 0] [c0] = .ok (.t (.bl true)) [c1] := by
  obtain ⟨j, hj, e⟩ := box_ok (wf := wf) (pm := pm) (n := n) hB hA hC (xs := xs) (k := k) (x := xs[k]) (by simp [hk]) (by omega) (hb _ (List.getElem_mem hk))
  obtain ⟨j', e2⟩ := hR j hj
  exact ⟨j, j', e, e2⟩
theorem tail_ok {n iC iB iR m : Nat} {cA cB : Int} (hC : fs[iC]? = some FCells) (hB : fs[iB]? = some (FBox cA cB)) (hm : 0 < m ∧ m ≤ 3) (h1 : 0 ≤ cA ∧ cA < 2 ^ 40) (h2 : 0 ≤ cB ∧ cB < 2 ^ 40) (hR : RightOk (callF fs wf pm (n + 1)) iR) {ns : List Int} (hz : ∀ z ∈ ns, Builtin.Int.intBits z ≤ 1048576) :
    ∃ r, exec wf (callF fs wf pm (n + 1)) pm (LTail iC iB iR (m : Int)) [some (.t (.scr ns)), none, none] [] = .ok (.ret (.t (.bl true)), r) [] := by
  have gen : ∀ e : Nat, e ≤ 2000000 → (∀ z ∈ ns, z.natAbs ≤ 2 ^ e) → ∃ xs : List Int, xs ≠ [] ∧ xs.length ≤ 3 ∧ (∀ x ∈ xs, x.natAbs.log2 < 100000000) ∧ callF fs wf pm (n + 1) iC [.t (.scr ns), .t (.int (m : Int))] [] = .ok (.t (.lst (xs.map T.int))) [] := fun e he hz => by
    obtain ⟨xs, a1, a2, a3, a4⟩ := cells_ok (wf := wf) (pm := pm) (n := n) hC hm.1 hm.2 (M := 2 ^ e) (fun z h => Nat.lt_of_lt_of_le (lg_le h) (by omega)) hz
    refine ⟨xs, a1, a2, fun x hx => ?_, a4⟩
    have h3 : (2 : Nat) ^ e * 5000 ≤ 2 ^ (e + 13) := by
      rw [Nat.pow_add]
      exact Nat.mul_le_mul_left _ (by decide)
    exact Nat.lt_of_lt_of_le (lg_le (Nat.le_trans (a3 x hx) h3)) (by omega)
  obtain ⟨xs, a1, a2, a3, a4⟩ := gen 1048576 (by omega) (fun z h => bits_le (hz z h))
  have hc := comp_all (pm := pm) (x := some (.t (.scr ns))) (boxes hB h1 h2 hR a2 a3) xs.length 0 (by omega)
  have hsr := src_r1 xs.length (by omega) []
  refine ⟨[some (.t (.scr ns)), some (.t (.lst (xs.map T.int))), none], ?_⟩
  generalize callF fs wf pm (n + 1) = cl at *
  simp at hc hsr
  simp [LTail, a4, b_len, hsr, hc, all_rep]
theorem lawH_ok {n iL iH iC iB iR m : Nat} {cA cB : Int} (hL : fs[iL]? = some (FLawH iH iC iB iR (m : Int))) (hC : fs[iC]? = some FCells) (hB : fs[iB]? = some (FBox cA cB)) (hm : 0 < m ∧ m ≤ 3) (h1 : 0 ≤ cA ∧ cA < 2 ^ 40) (h2 : 0 ≤ cB ∧ cB < 2 ^ 40)
    (hH : callF fs wf pm (n + 1) iH [] [] = .ok (.t (.bl true)) []) (hR : RightOk (callF fs wf pm (n + 1)) iR) (ns : List Int) (hz : ∀ z ∈ ns, Builtin.Int.intBits z ≤ 1048576) : callF fs wf pm (n + 1 + 1) iL [.t (.scr ns)] [] = .ok (.t (.bl true)) [] := by
  obtain ⟨r, e⟩ := tail_ok (wf := wf) (pm := pm) hC hB hm h1 h2 hR hz
  refine callF_of hL rfl (Le.refl _) ?_
  unfold bodyF
  generalize callF fs wf pm (n + 1) = cl at *
  simp [FLawH, hH, truT]
  rw [e]
  rfl
end
end Qq.Lw

set_option maxHeartbeats 400000
/-! P4: probes: many_found, fewest_probes. -/
namespace Qq.Lw
open PySem L2
variable {fs : List FI} {pm : Nat → List D → List D → Option (List D)}
def mfl (p e : Int) : Nat → Int → Int → Int → Option Int
  | 0, _, fd, _ => some fd
  | n + 1, t, fd, pt => match binT .Mult (.int pt) (.int (p - t)) with
    | some (.int m) => match binT .FloorDiv (.int m) (.int (t + 1)) with
      | some (.int q) => if e < fd + pt then some (fd + pt) else mfl p e n (t + 1) (fd + pt) q
      | _ => none
    | _ => none
def mB : P := (.seq (.aug 4 .Add (.var 5)) (.seq (.asg (.n 5) (.bin false .FloorDiv (.bin false .Mult (.var 5) (.bin false .Sub (.var 0) (.var 3))) (.bin false .Add (.var 3) (.cst (.int 1))))) (.seq (.ite (.cmp .Gt (.var 4) (.var 2)) (.seq .brk .nil) .nil) .nil)))
def FMany : FI := ⟨3, 6, false, (.seq (.asg (.cons (.n 4) (.cons (.n 5) .nil)) (.tup (.cons (.cst (.int 0)) (.cons (.cst (.int 1)) .nil)))) (.seq (.for_ (.n 3) .r1 (.cons (.bin false .Add (.bi false .min2 (.cons (.var 0) (.cons (.var 1) .nil))) (.cst (.int 1))) .nil) mB) (.seq (.ret (.var 4)) .nil)))⟩
theorem mf_loop {wf : Nat} {cl : Nat → List D → Sto → R D} (p r e : Int) (S : Sto) : ∀ (k : Nat) (t fd pt v : Int) (x : Option D), mfl p e k t fd pt = some v →
    ∃ y w, forGo (forEl wf cl pm (.n 3) mB) (upT t k) [some (.t (.int p)), some (.t (.int r)), some (.t (.int e)), x, some (.t (.int fd)), some (.t (.int pt))] S = .ok (.nx, [some (.t (.int p)), some (.t (.int r)), some (.t (.int e)), y, some (.t (.int v)), w]) S := by
  intro k
  induction k with
  | zero =>
    intro t fd pt v x h
    cases h
    exact ⟨_, _, rfl⟩
  | succ k ih =>
    intro t fd pt v x h
    unfold mfl at h
    split at h
    · rename_i m hm
      split at h
      · rename_i q hq
        unfold upT forGo
        split at h
        · rename_i hc
          cases h
          refine ⟨some (.t (.int t)), some (.t (.int q)), ?_⟩
          simp [forEl, mB, hm, hq, b_add, b_sub, c_gt, hc]
        · rename_i hc
          obtain ⟨y, w, ih⟩ := ih (t + 1) (fd + pt) q v (some (.t (.int t))) h
          refine ⟨y, w, ?_⟩
          rw [← ih]
          simp [forEl, mB, hm, hq, b_add, b_sub, c_gt, hc]
      · cases h
    · cases h
def mfO (p r e : Int) : Option Int := if -(2 ^ 62) ≤ mnI p r + 1 ∧ mnI p r + 1 ≤ 16777216 then mfl p e (mnI p r + 1).toNat 0 0 1 else none
theorem mf_ok {n iM : Nat} (hM : fs[iM]? = some FMany) {p r e v : Int} {S : Sto} (h : mfO p r e = some v) : callF fs 300 pm (n + 1) iM [.t (.int p), .t (.int r), .t (.int e)] S = .ok (.t (.int v)) S := by
  unfold mfO at h
  generalize hm : mnI p r = mm at h
  by_cases hc : -(2 ^ 62) ≤ mm + 1 ∧ mm + 1 ≤ 16777216
  · rw [if_pos hc] at h
    obtain ⟨y, w, hl⟩ := mf_loop (wf := 300) (cl := callF fs 300 pm n) (pm := pm) p r e S (mm + 1).toNat 0 0 1 v none h
    have hlen : (mm + 1).toNat ≤ line := by unfold line; omega
    have hit : itT .r1 [.int (mm + 1)] = some (upT 0 (mm + 1).toNat) := if_pos hc
    refine callF_of hM rfl (Le.refl _) ?_
    unfold bodyF
    simp [FMany, b_add, b_min, hm, srcT, lkOf, hit, hlen, len_upT, lockS, unlockS, hl, fin, R.cut, take_len1, take_len]
  · rw [if_neg hc] at h; cases h

theorem b_fd2 (i : Int) : binT .FloorDiv (.int i) (.int 2) = some (.int (i / 2)) := b_fd (by decide +kernel)
def bis (sp rf : Int) : Nat → Int → Int → Option Int
  | 0, _, _ => none
  | n + 1, lo, hi => if lo < hi then (match mfO ((lo + hi) / 2) rf sp with
    | some v => if sp < v then bis sp rf n lo ((lo + hi) / 2) else bis sp rf n ((lo + hi) / 2 + 1) hi
    | none => none) else some lo
def bB (iM : Nat) : P := (.seq (.asg (.n 4) (.bin false .FloorDiv (.bin false .Add (.var 2) (.var 3)) (.cst (.int 2)))) (.seq (.asg (.cons (.n 2) (.cons (.n 3) .nil)) (.ife (.cmp .Gt (.call iM (.cons (.var 4) (.cons (.var 1) (.cons (.var 0) .nil)))) (.var 0)) (.tup (.cons (.var 2) (.cons (.var 4) .nil))) (.tup (.cons (.bin false .Add (.var 4) (.cst (.int 1))) (.cons (.var 3) .nil))))) .nil))
def FFew (iM : Nat) : FI := ⟨2, 5, false, (.seq (.ite (.orV (.cmp .Eq (.var 0) (.cst (.int 0))) (.cmp .Eq (.var 1) (.cst (.int 0)))) (.seq (.ret (.ife (.cmp .Eq (.var 0) (.cst (.int 0))) (.cst (.int 0)) (.cst .non))) .nil) .nil) (.seq (.par [2, 3] (.cons (.cst (.int 0)) (.cons (.var 0) .nil))) (.seq (.whl (.cmp .Lt (.var 2) (.var 3)) (bB iM)) (.seq (.ret (.var 2)) .nil))))⟩
theorem bis_loop {n iM : Nat} (hM : fs[iM]? = some FMany) (sp rf : Int) (S : Sto) : ∀ (k : Nat) (lo hi v : Int) (x : Option D), bis sp rf k lo hi = some v →
    ∃ y w, whlGo (tst (callF fs 300 pm (n + 1)) pm (.cmp .Lt (.var 2) (.var 3))) (exec 300 (callF fs 300 pm (n + 1)) pm (bB iM)) k [some (.t (.int sp)), some (.t (.int rf)), some (.t (.int lo)), some (.t (.int hi)), x] S = .ok (.nx, [some (.t (.int sp)), some (.t (.int rf)), some (.t (.int v)), y, w]) S := by
  intro k
  induction k with
  | zero => intro lo hi v x h; cases h
  | succ k ih =>
    intro lo hi v x h
    unfold bis at h
    unfold whlGo
    split at h
    · rename_i hc
      split at h
      · rename_i u hu
        split at h
        · rename_i hg
          obtain ⟨y, w, ih⟩ := ih lo ((lo + hi) / 2) v (some (.t (.int ((lo + hi) / 2)))) h
          refine ⟨y, w, ?_⟩
          rw [← ih]
          simp [tst, bB, c_lt, c_gt, hc, b_add, b_fd2, mf_ok hM hu, hg]
        · rename_i hg
          obtain ⟨y, w, ih⟩ := ih ((lo + hi) / 2 + 1) hi v (some (.t (.int ((lo + hi) / 2)))) h
          refine ⟨y, w, ?_⟩
          rw [← ih]
          simp [tst, bB, c_lt, c_gt, hc, b_add, b_fd2, mf_ok hM hu, hg]
      · cases h
    · rename_i hc
      cases h
      exact ⟨some (.t (.int hi)), x, by simp [tst, c_lt, hc]⟩
def fpO (sp rf : Int) : Option T := if sp = 0 then some (.int 0) else if rf = 0 then some .non else (bis sp rf 300 0 sp).map T.int
theorem fp_ok {n iM iF : Nat} (hM : fs[iM]? = some FMany) (hF : fs[iF]? = some (FFew iM)) {sp rf : Int} {v : T} {S : Sto} (h : fpO sp rf = some v) : callF fs 300 pm (n + 2) iF [.t (.int sp), .t (.int rf)] S = .ok (.t v) S := by
  refine callF_of hF rfl (Le.refl _) ?_
  unfold bodyF
  unfold fpO at h
  by_cases h1 : sp = 0
  · rw [if_pos h1] at h
    cases h
    simp [FFew, c_eq, h1, fin, R.cut, take_len1, take_len, truT]
  · rw [if_neg h1] at h
    by_cases h2 : rf = 0
    · rw [if_pos h2] at h
      cases h
      simp [FFew, c_eq, h1, h2, fin, R.cut, take_len1, take_len, truT]
    · rw [if_neg h2] at h
      obtain ⟨u, hu, rfl⟩ := Option.map_eq_some_iff.mp h
      obtain ⟨y, w, hl⟩ := bis_loop (pm := pm) (n := n) hM sp rf S 300 0 sp u none hu
      simp [FFew, c_eq, h1, h2, fin, R.cut, take_len1, take_len, truT, asgP, hl]
end Qq.Lw

set_option maxHeartbeats 400000
/-! P5: the table of all ways to ask. -/
namespace Qq.Lw
open PySem L2

/-! the table -/
def enc : Option Int → T
  | none => .non
  | some i => .int i
def mxI (i j : Int) : Int := if j > i then j else i
theorem b_max (i j : Int) : biT .max2 [.int i, .int j] = some (.int (mxI i j)) := rfl
def stp (best lo hi : Option Int) : Option (Option Int) := match lo with
  | none => some best
  | some l => match hi with
    | none => none
    | some h => match best with
      | none => some (some (1 + mxI l h))
      | some b => if 1 + mxI l h < b then some (some (1 + mxI l h)) else some (some b)
def cutN (prev cur : List (Option Int)) (many : Nat) : Nat → Nat → Option Int → Option (Option Int)
  | 0, _, best => some best
  | n + 1, c, best => if c ≤ many then match prev[c]?, cur[many - c]? with
    | some lo, some hi => (stp best lo hi).bind fun b => cutN prev cur many n (c + 1) b
    | _, _ => none
    else none
def K2 (i b : Nat) : List Key := [.inl (i : Int), .inl (b : Int)]
def Spec (kvs : List (List Key × T)) (rows : List (List (Option Int))) : Prop := ∀ (b i : Nat) row v, rows[b]? = some row → row[i]? = some v → valT kvs (K2 i b) = some (enc v)
def iB : P := (.seq (.par [7, 8] (.cons (.idx (.var 2) (.tup (.cons (.var 6) (.cons (.bin false .Sub (.var 3) (.cst (.int 1))) .nil)))) (.cons (.idx (.var 2) (.tup (.cons (.bin false .Sub (.var 4) (.var 6)) (.cons (.var 3) .nil)))) .nil))) (.seq (.ite (.andV (.cmp .IsNot (.var 7) (.cst .non)) (.orV (.cmp .Is (.var 5) (.cst .non)) (.cmp .Lt (.bin false .Add (.cst (.int 1)) (.bi false .max2 (.cons (.var 7) (.cons (.var 8) .nil)))) (.var 5)))) (.seq (.asg (.n 5) (.bin false .Add (.cst (.int 1)) (.bi false .max2 (.cons (.var 7) (.cons (.var 8) .nil))))) .nil) .nil) .nil))
def fS : P := (.for_ (.n 6) .r2 (.cons (.cst (.int 1)) (.cons (.var 4) .nil)) iB)
def pS : P := (.setI (.var 2) (.tup (.cons (.var 4) (.cons (.var 3) .nil))) (.var 5))
def mB2 : P := (.seq (.asg (.n 5) (.ife (.cmp .Lt (.var 4) (.cst (.int 2))) (.cst (.int 0)) (.cst .non))) (.seq (.ite (.andV (.cmp .Gt (.var 4) (.cst (.int 1))) (.cmp .Gt (.var 3) (.cst (.int 0)))) (.seq fS .nil) .nil) (.seq pS .nil)))
def oB : P := (.seq (.for_ (.n 4) .r1 (.cons (.bin false .Add (.var 0) (.cst (.int 1))) .nil) mB2) .nil)
def FAsked : FI := ⟨2, 9, false, (.seq (.asg (.n 2) (.dct true true)) (.seq (.for_ (.n 3) .r1 (.cons (.bin false .Add (.var 1) (.cst (.int 1))) .nil) oB) (.seq (.ret (.var 2)) .nil)))⟩
theorem ix_dT (kvs : List (List Key × T)) (a b : Int) : idxT (.dT kvs) (.tup [.int a, .int b]) = valT kvs [.inl a, .inl b] := rfl
theorem rd_d0 (c0 : Cl) (kvs : List (List Key × T)) : rd [c0, .dT kvs] (.o 1) = some (.dT kvs) := rfl
theorem isn0 : cmpT .IsNot .non .non = some false := rfl
theorem isn1 (i : Int) : cmpT .IsNot (.int i) .non = some true := rfl
theorem cut_step {cl : Nat → List D → Sto → R D} {pm : Nat → List D → List D → Option (List D)} {c0 : Cl} {kvs : List (List Key × T)} {mo fa : Int} {bad many c : Nat} {best lo hi res : Option Int} {x6 x7 x8 : Option D} (hc : c ≤ many) (hb : 0 < bad) (h1 : valT kvs (K2 c (bad - 1)) = some (enc lo)) (h2 : valT kvs (K2 (many - c) bad) = some (enc hi)) (hs : stp best lo hi = some res) :
    forEl 300 cl pm (.n 6) iB (.int (c : Int)) [some (.t (.int mo)), some (.t (.int fa)), some (.o 1), some (.t (.int (bad : Int))), some (.t (.int (many : Int))), some (.t (enc best)), x6, x7, x8] [c0, .dT kvs] = .ok (.nx, [some (.t (.int mo)), some (.t (.int fa)), some (.o 1), some (.t (.int (bad : Int))), some (.t (.int (many : Int))), some (.t (enc res)), some (.t (.int (c : Int))), some (.t (enc lo)), some (.t (enc hi))]) [c0, .dT kvs] := by
  have e1 : (bad : Int) - 1 = ((bad - 1 : Nat) : Int) := by omega
  have e2 : (many : Int) - (c : Int) = ((many - c : Nat) : Int) := by omega
  unfold K2 at h1 h2
  cases lo with
  | none =>
    cases hs
    simp only [enc] at h1
    simp [forEl, iB, b_sub, e1, e2, rd_d0, ix_dT, h1, h2, asgP, enc, isn0, truT]
  | some l =>
    simp only [enc] at h1
    cases hi with
    | none => cases hs
    | some h =>
      simp only [enc] at h2
      cases best with
      | none =>
        cases hs
        simp [forEl, iB, b_sub, e1, e2, rd_d0, ix_dT, h1, h2, asgP, enc, isn1, is1, truT, b_add, b_max]
      | some b =>
        unfold stp at hs
        by_cases hlt : 1 + mxI l h < b
        · simp only [if_pos hlt] at hs
          cases hs
          simp [forEl, iB, b_sub, e1, e2, rd_d0, ix_dT, h1, h2, asgP, enc, isn1, is2, truT, b_add, b_max, c_lt, hlt]
        · simp only [if_neg hlt] at hs
          cases hs
          simp [forEl, iB, b_sub, e1, e2, rd_d0, ix_dT, h1, h2, asgP, enc, isn1, is2, truT, b_add, b_max, c_lt, hlt]
theorem cut_loop {cl : Nat → List D → Sto → R D} {pm : Nat → List D → List D → Option (List D)} {c0 : Cl} {kvs : List (List Key × T)} {mo fa : Int} {bad many : Nat} {prev cur : List (Option Int)} (hb : 0 < bad) (h1 : ∀ (c : Nat) lo, prev[c]? = some lo → valT kvs (K2 c (bad - 1)) = some (enc lo)) (h2 : ∀ (i : Nat) hi, cur[i]? = some hi → valT kvs (K2 i bad) = some (enc hi)) :
    ∀ (n c : Nat) (best res : Option Int) (x6 x7 x8 : Option D), cutN prev cur many n c best = some res → ∃ y6 y7 y8, forGo (forEl 300 cl pm (.n 6) iB) (upT (c : Int) n) [some (.t (.int mo)), some (.t (.int fa)), some (.o 1), some (.t (.int (bad : Int))), some (.t (.int (many : Int))), some (.t (enc best)), x6, x7, x8] [c0, .dT kvs] = .ok (.nx, [some (.t (.int mo)), some (.t (.int fa)), some (.o 1), some (.t (.int (bad : Int))), some (.t (.int (many : Int))), some (.t (enc res)), y6, y7, y8]) [c0, .dT kvs] := by
  intro n
  induction n with
  | zero => intro c best res x6 x7 x8 h; cases h; exact ⟨_, _, _, rfl⟩
  | succ n ih =>
    intro c best res x6 x7 x8 h
    unfold cutN at h
    by_cases hc : c ≤ many
    · rw [if_pos hc] at h
      split at h
      · rename_i lo hi hlo hhi
        obtain ⟨b, hs, h⟩ := Option.bind_eq_some_iff.mp h
        obtain ⟨y6, y7, y8, e⟩ := ih (c + 1) b res (some (.t (.int (c : Int)))) (some (.t (enc lo))) (some (.t (enc hi))) h
        refine ⟨y6, y7, y8, ?_⟩
        unfold upT forGo
        rw [cut_step hc hb (h1 c lo hlo) (h2 _ hi hhi) hs]
        exact e
      · cases h
    · rw [if_neg hc] at h; cases h
theorem r2_it (many : Nat) (h1 : 1 < many) (h2 : many < 1000000) : itT .r2 [.int 1, .int (many : Int)] = some (upT 1 (many - 1)) := by
  have hn : ((many : Int) - 1).toNat = many - 1 := by omega
  have e := it_r2 (i := 1) (j := (many : Int)) (by omega) (by omega) (by omega) (by omega) (by omega)
  rw [hn] at e
  exact e
theorem up_le (many : Nat) (h2 : many < 1000000) : (upT 1 (many - 1)).length ≤ line := by
  rw [len_upT]
  unfold line
  omega
theorem r2_src (many : Nat) (h1 : 1 < many) (h2 : many < 1000000) (S : Sto) : srcT .r2 (.l [.t (.int 1), .t (.int (many : Int))]) S = some (none, upT 1 (many - 1)) := src_of (lkOf_2 _ _) (bind2 (r2_it many h1 h2)) (up_le many h2)
def valN (prev : List (Option Int)) (bad : Nat) (cur : List (Option Int)) : Option (Option Int) := if cur.length < 2 then some (some 0) else if bad = 0 then some none else cutN prev cur cur.length (cur.length - 1) 1 none
theorem for_ok {wf : Nat} {cl : Nat → List D → Sto → R D} {pm : Nat → List D → List D → Option (List D)} {g : Tg} {k : IK} {l : C} {b : P} {r : Env} {S S1 S2 : Sto} {ds : List D} {is : List T} {fr : Fl × Env} (h1 : ev cl pm l r S = .ok (.l ds) S1) (h2 : srcT k (.l ds) S1 = some (none, is)) (h3 : forGo (forEl wf cl pm g b) is r S1 = .ok fr S2) :
    exec wf cl pm (.for_ g k l b) r S = .ok fr S2 := by
  rw [exec_for, h1, bind_ok', h2, opt_some', bind_ok']
  show R.bind (forGo (forEl wf cl pm g b) is r S1) _ = _
  rw [h3]
  rfl
theorem setI_dT {wf : Nat} {cl : Nat → List D → Sto → R D} {pm : Nat → List D → List D → Option (List D)} {o i c : C} {r : Env} {S : Sto} {a : Nat} {es : List T} {d : T} {kvs : List (List Key × T)} {k : List Key} (h1 : ev cl pm c r S = .ok (.t d) S) (h2 : ev cl pm o r S = .ok (.o a) S) (h3 : ev cl pm i r S = .ok (.t (.tup es)) S) (h4 : S[a]? = some (.dT kvs)) (h5 : keysT es = some k) (h6 : kvs.length < line) :
    exec wf cl pm (.setI o i c) r S = .ok (.nx, r) (S.set a (.dT (putT kvs k d))) := by
  rw [exec_setI, h1, bind_ok', h2, bind_ok', h3, bind_ok', rd_t]
  show (match S[a]? with
      | some (.lst xs) => _
      | some (.dK kvs) => _
      | some (.dT kvs) => _
      | _ => _ : R (Fl × Env)) = _
  rw [h4]
  show (match keysT es with
      | some k => if kvs.length < line then R.ok (Fl.nx, r) (S.set a (.dT (putT kvs k d))) else .bad
      | none => .bad) = _
  rw [h5]
  exact if_pos h6
theorem set_step {cl : Nat → List D → Sto → R D} {pm : Nat → List D → List D → Option (List D)} {c0 : Cl} {kvs : List (List Key × T)} {mo fa : Int} {bad many : Nat} {t : T} {x6 x7 x8 : Option D} (hl : kvs.length < line) :
    exec 300 cl pm pS [some (.t (.int mo)), some (.t (.int fa)), some (.o 1), some (.t (.int (bad : Int))), some (.t (.int (many : Int))), some (.t t), x6, x7, x8] [c0, .dT kvs] = .ok (.nx, [some (.t (.int mo)), some (.t (.int fa)), some (.o 1), some (.t (.int (bad : Int))), some (.t (.int (many : Int))), some (.t t), x6, x7, x8]) [c0, .dT (putT kvs (K2 many bad) t)] :=
  setI_dT (a := 1) (es := [.int (many : Int), .int (bad : Int)]) (k := K2 many bad) rfl rfl (by simp) rfl rfl hl
theorem for_step {cl : Nat → List D → Sto → R D} {pm : Nat → List D → List D → Option (List D)} {c0 : Cl} {kvs : List (List Key × T)} {mo fa : Int} {bad many : Nat} {v : Option Int} {x6 x7 x8 y6 y7 y8 : Option D} (h1 : 1 < many) (h2 : many < 1000000)
    (e : forGo (forEl 300 cl pm (.n 6) iB) (upT 1 (many - 1)) [some (.t (.int mo)), some (.t (.int fa)), some (.o 1), some (.t (.int (bad : Int))), some (.t (.int (many : Int))), some (.t .non), x6, x7, x8] [c0, .dT kvs] = .ok (.nx, [some (.t (.int mo)), some (.t (.int fa)), some (.o 1), some (.t (.int (bad : Int))), some (.t (.int (many : Int))), some (.t (enc v)), y6, y7, y8]) [c0, .dT kvs]) :
    exec 300 cl pm fS [some (.t (.int mo)), some (.t (.int fa)), some (.o 1), some (.t (.int (bad : Int))), some (.t (.int (many : Int))), some (.t .non), x6, x7, x8] [c0, .dT kvs] = .ok (.nx, [some (.t (.int mo)), some (.t (.int fa)), some (.o 1), some (.t (.int (bad : Int))), some (.t (.int (many : Int))), some (.t (enc v)), y6, y7, y8]) [c0, .dT kvs] :=
  by
  unfold fS
  have h0 := r2_src many h1 h2 [c0, .dT kvs]
  generalize upT 1 (many - 1) = is at e h0
  exact for_ok (ds := [.t (.int 1), .t (.int (many : Int))]) rfl h0 e
theorem many_lt {cl : Nat → List D → Sto → R D} {pm : Nat → List D → List D → Option (List D)} {c0 : Cl} {kvs : List (List Key × T)} {mo fa : Int} {bad many : Nat} {x4 x5 x6 x7 x8 : Option D} (hl : kvs.length < line) (t1 : ((many : Int) < 2)) (t2 : ¬ ((1 : Int) < (many : Int))) :
    forEl 300 cl pm (.n 4) mB2 (.int (many : Int)) [some (.t (.int mo)), some (.t (.int fa)), some (.o 1), some (.t (.int (bad : Int))), x4, x5, x6, x7, x8] [c0, .dT kvs] = .ok (.nx, [some (.t (.int mo)), some (.t (.int fa)), some (.o 1), some (.t (.int (bad : Int))), some (.t (.int (many : Int))), some (.t (.int 0)), x6, x7, x8]) [c0, .dT (putT kvs (K2 many bad) (.int 0))] := by
  simp [forEl, mB2, c_lt, c_gt, t1, t2, truT, set_step hl]
theorem many_b0 {cl : Nat → List D → Sto → R D} {pm : Nat → List D → List D → Option (List D)} {c0 : Cl} {kvs : List (List Key × T)} {mo fa : Int} {bad many : Nat} {x4 x5 x6 x7 x8 : Option D} (hl : kvs.length < line) (t1 : ¬ ((many : Int) < 2)) (t2 : ((1 : Int) < (many : Int))) (t3 : ¬ ((0 : Int) < (bad : Int))) :
    forEl 300 cl pm (.n 4) mB2 (.int (many : Int)) [some (.t (.int mo)), some (.t (.int fa)), some (.o 1), some (.t (.int (bad : Int))), x4, x5, x6, x7, x8] [c0, .dT kvs] = .ok (.nx, [some (.t (.int mo)), some (.t (.int fa)), some (.o 1), some (.t (.int (bad : Int))), some (.t (.int (many : Int))), some (.t .non), x6, x7, x8]) [c0, .dT (putT kvs (K2 many bad) .non)] := by
  simp only [forEl, asgT_n, mB2, exec_seq, exec_asg, ev_ife, ev_cmp, ev_var, ev_cst, c_lt, t1, decide_false, bind_ok', opt_some', rd_t, bool_t, asgD_n, List.getElem?_cons_succ, List.getElem?_cons_zero, List.set_cons_succ, List.set_cons_zero, Option.map_some, exec_ite, ev_andV, Option.bind_some, truT, c_gt, t2, t3, decide_true, exec_nil, set_step hl]
def mBg (p : P) : P := (.seq (.asg (.n 5) (.ife (.cmp .Lt (.var 4) (.cst (.int 2))) (.cst (.int 0)) (.cst .non))) (.seq (.ite (.andV (.cmp .Gt (.var 4) (.cst (.int 1))) (.cmp .Gt (.var 3) (.cst (.int 0)))) (.seq p .nil) .nil) (.seq pS .nil)))
theorem mB2_eq : mB2 = mBg fS := rfl
theorem many_gn (p : P) {cl : Nat → List D → Sto → R D} {pm : Nat → List D → List D → Option (List D)} {c0 : Cl} {kvs : List (List Key × T)} {mo fa : Int} {bad many : Nat} {t : T} {x4 x5 x6 x7 x8 y6 y7 y8 : Option D} (hl : kvs.length < line) (t1 : ¬ ((many : Int) < 2)) (t2 : ((1 : Int) < (many : Int))) (t3 : ((0 : Int) < (bad : Int)))
    (hfor : exec 300 cl pm p [some (.t (.int mo)), some (.t (.int fa)), some (.o 1), some (.t (.int (bad : Int))), some (.t (.int (many : Int))), some (.t .non), x6, x7, x8] [c0, .dT kvs] = .ok (.nx, [some (.t (.int mo)), some (.t (.int fa)), some (.o 1), some (.t (.int (bad : Int))), some (.t (.int (many : Int))), some (.t t), y6, y7, y8]) [c0, .dT kvs]) :
    forEl 300 cl pm (.n 4) (mBg p) (.int (many : Int)) [some (.t (.int mo)), some (.t (.int fa)), some (.o 1), some (.t (.int (bad : Int))), x4, x5, x6, x7, x8] [c0, .dT kvs] = .ok (.nx, [some (.t (.int mo)), some (.t (.int fa)), some (.o 1), some (.t (.int (bad : Int))), some (.t (.int (many : Int))), some (.t t), y6, y7, y8]) [c0, .dT (putT kvs (K2 many bad) t)] := by
  simp only [forEl, asgT_n, mBg, exec_seq, exec_asg, ev_ife, ev_cmp, ev_var, ev_cst, c_lt, t1, decide_false, bind_ok', opt_some', rd_t, bool_t, asgD_n, List.getElem?_cons_succ, List.getElem?_cons_zero, List.set_cons_succ, List.set_cons_zero, Option.map_some, exec_ite, ev_andV, Option.bind_some, truT, c_gt, t2, t3, decide_true, exec_nil, set_step hl, hfor]
theorem many_step {cl : Nat → List D → Sto → R D} {pm : Nat → List D → List D → Option (List D)} {c0 : Cl} {kvs : List (List Key × T)} {mo fa : Int} {bad : Nat} {prev cur : List (Option Int)} {v : Option Int} {x4 x5 x6 x7 x8 : Option D} (h1 : 0 < bad → ∀ (c : Nat) lo, prev[c]? = some lo → valT kvs (K2 c (bad - 1)) = some (enc lo)) (h2 : ∀ (i : Nat) hi, cur[i]? = some hi → valT kvs (K2 i bad) = some (enc hi))
    (hl : kvs.length < line) (hm : cur.length < 1000000) (h : valN prev bad cur = some v) : ∃ y4 y5 y6 y7 y8, forEl 300 cl pm (.n 4) mB2 (.int (cur.length : Int)) [some (.t (.int mo)), some (.t (.int fa)), some (.o 1), some (.t (.int (bad : Int))), x4, x5, x6, x7, x8] [c0, .dT kvs] = .ok (.nx, [some (.t (.int mo)), some (.t (.int fa)), some (.o 1), some (.t (.int (bad : Int))), y4, y5, y6, y7, y8]) [c0, .dT (putT kvs (K2 cur.length bad) (enc v))] := by
  generalize hcl : cur.length = many at h hm
  unfold valN at h
  rw [hcl] at h
  by_cases g1 : many < 2
  · rw [if_pos g1] at h
    cases h
    exact ⟨_, _, _, _, _, many_lt hl (by omega) (by omega)⟩
  · rw [if_neg g1] at h
    by_cases g2 : bad = 0
    · rw [if_pos g2] at h
      cases h
      exact ⟨_, _, _, _, _, many_b0 hl (by omega) (by omega) (by omega)⟩
    · rw [if_neg g2] at h
      have hb : 0 < bad := by omega
      obtain ⟨y6, y7, y8, e⟩ := cut_loop (cl := cl) (pm := pm) (mo := mo) (fa := fa) (x6 := x6) (x7 := x7) (x8 := x8) hb (h1 hb) h2 _ _ _ _ h
      rw [mB2_eq]
      exact ⟨_, _, _, _, _, many_gn fS hl (by omega) (by omega) (by omega) (for_step (by omega) hm e)⟩


/-! a dict at a key behind a store -/
theorem val_map {κ : Type} [DecidableEq κ] (k : κ) (d : T) (k' : κ) : ∀ kvs : List (κ × T), valT (kvs.map fun kv => if kv.1 = k then (kv.1, d) else kv) k' = if k' = k then (if kvs.any (fun kv => decide (kv.1 = k)) then some d else none) else valT kvs k'
  | [] => by simp [valT]
  | (a, e) :: r => by
    rw [List.map_cons, List.any_cons]
    have ih := val_map k d k' r
    by_cases h1 : a = k
    · subst h1
      rw [if_pos rfl]
      unfold valT
      by_cases h2 : a = k'
      · subst h2; simp
      · rw [if_neg h2, ih, if_neg (Ne.symm h2), if_neg (Ne.symm h2), if_neg h2]
    · rw [if_neg h1]
      unfold valT
      by_cases h2 : a = k'
      · subst h2
        rw [if_pos rfl, if_neg h1, if_pos rfl]
      · rw [if_neg h2, ih, if_neg h2, show decide ((a, e).1 = k) = false from decide_eq_false h1, Bool.false_or]
theorem val_app {κ : Type} [DecidableEq κ] (k : κ) (d : T) (k' : κ) : ∀ kvs : List (κ × T), kvs.any (fun kv => decide (kv.1 = k)) = false → valT (kvs ++ [(k, d)]) k' = if k' = k then some d else valT kvs k'
  | [], _ => by
    show valT [(k, d)] k' = _
    unfold valT valT
    by_cases h : k = k'
    · rw [if_pos h, if_pos h.symm]
    · rw [if_neg h, if_neg (Ne.symm h)]
  | (a, e) :: r, h => by
    rw [List.any_cons, Bool.or_eq_false_iff] at h
    have h0 : ¬ a = k := of_decide_eq_false h.1
    have ih := val_app k d k' r h.2
    show valT ((a, e) :: (r ++ [(k, d)])) k' = _
    unfold valT
    by_cases h2 : a = k'
    · subst h2
      rw [if_pos rfl, if_neg h0, if_pos rfl]
    · rw [if_neg h2, ih, if_neg h2]
theorem val_put {κ : Type} [DecidableEq κ] (kvs : List (κ × T)) (k : κ) (d : T) (k' : κ) : valT (putT kvs k d) k' = if k' = k then some d else valT kvs k' := by
  unfold putT
  by_cases h : kvs.any (fun kv => decide (kv.1 = k)) = true
  · rw [if_pos h, val_map, h]; simp
  · rw [if_neg h]
    exact val_app k d k' kvs (eq_false_of_ne_true h)
theorem len_put {κ : Type} [DecidableEq κ] (kvs : List (κ × T)) (k : κ) (d : T) : (putT kvs k d).length ≤ kvs.length + 1 := by
  unfold putT
  split
  · rw [List.length_map]; omega
  · rw [List.length_append]; simp
theorem K2_inj {i b i' b' : Nat} : K2 i b = K2 i' b' ↔ i = i' ∧ b = b' := by
  unfold K2
  simp
  omega


def rowN (prev : List (Option Int)) (bad : Nat) : Nat → List (Option Int) → Option (List (Option Int))
  | 0, cur => some cur
  | n + 1, cur => (valN prev bad cur).bind fun v => rowN prev bad n (cur ++ [v])
def CurOk (kvs : List (List Key × T)) (b : Nat) (cur : List (Option Int)) : Prop := ∀ (i : Nat) v, cur[i]? = some v → valT kvs (K2 i b) = some (enc v)
theorem row_loop {cl : Nat → List D → Sto → R D} {pm : Nat → List D → List D → Option (List D)} {c0 : Cl} {mo fa : Int} {rows : List (List (Option Int))} {prev : List (Option Int)} (hp : 0 < rows.length → rows[rows.length - 1]? = some prev) :
    ∀ (k : Nat) (cur cur' : List (Option Int)) (kvs : List (List Key × T)) (x4 x5 x6 x7 x8 : Option D), rowN prev rows.length k cur = some cur' → Spec kvs rows → CurOk kvs rows.length cur → kvs.length + k < line → cur.length + k < 1000000 →
      ∃ kvs' y4 y5 y6 y7 y8, forGo (forEl 300 cl pm (.n 4) mB2) (upT (cur.length : Int) k) [some (.t (.int mo)), some (.t (.int fa)), some (.o 1), some (.t (.int (rows.length : Int))), x4, x5, x6, x7, x8] [c0, .dT kvs] =
        .ok (.nx, [some (.t (.int mo)), some (.t (.int fa)), some (.o 1), some (.t (.int (rows.length : Int))), y4, y5, y6, y7, y8]) [c0, .dT kvs'] ∧ Spec kvs' rows ∧ CurOk kvs' rows.length cur' ∧ kvs'.length ≤ kvs.length + k := by
  intro k
  induction k with
  | zero =>
    intro cur cur' kvs x4 x5 x6 x7 x8 h hs hc _ _
    cases h
    exact ⟨kvs, x4, x5, x6, x7, x8, rfl, hs, hc, Nat.le_refl _⟩
  | succ k ih =>
    intro cur cur' kvs x4 x5 x6 x7 x8 h hs hc hl hm
    unfold rowN at h
    obtain ⟨v, hv, h⟩ := Option.bind_eq_some_iff.mp h
    obtain ⟨y4, y5, y6, y7, y8, e⟩ := many_step (cl := cl) (pm := pm) (c0 := c0) (mo := mo) (fa := fa) (x4 := x4) (x5 := x5) (x6 := x6) (x7 := x7) (x8 := x8) (fun hb c lo hlo => hs (rows.length - 1) c prev lo (hp hb) hlo) hc (Nat.lt_of_le_of_lt (Nat.le_add_right _ _) hl) (by omega) hv
    have hs2 : Spec (putT kvs (K2 cur.length rows.length) (enc v)) rows := fun b i row w h1 h2 => by
      rw [val_put, if_neg]
      · exact hs b i row w h1 h2
      · intro z
        have := (K2_inj.mp z).2
        have hb := (List.getElem?_eq_some_iff.mp h1).1
        omega
    have hc2 : CurOk (putT kvs (K2 cur.length rows.length) (enc v)) rows.length (cur ++ [v]) := fun i w h1 => by
      rw [val_put]
      by_cases hi : i = cur.length
      · subst hi
        rw [List.getElem?_append_right (Nat.le_refl _), Nat.sub_self] at h1
        cases h1
        rw [if_pos rfl]
      · have hlt : i < cur.length := by
          have := (List.getElem?_eq_some_iff.mp h1).1
          rw [List.length_append] at this
          simp at this
          omega
        rw [List.getElem?_append_left hlt] at h1
        rw [if_neg (fun z => hi (K2_inj.mp z).1)]
        exact hc i w h1
    have hlen := len_put kvs (K2 cur.length rows.length) (enc v)
    have hcl : (cur ++ [v]).length = cur.length + 1 := by rw [List.length_append]; rfl
    obtain ⟨kvs', z4, z5, z6, z7, z8, e2, s1, s2, s3⟩ := ih (cur ++ [v]) cur' _ y4 y5 y6 y7 y8 h hs2 hc2 (Nat.lt_of_le_of_lt (by omega : _ ≤ kvs.length + (k + 1)) hl) (by omega)
    refine ⟨kvs', z4, z5, z6, z7, z8, ?_, s1, s2, by omega⟩
    rw [hcl] at e2
    unfold upT forGo
    rw [e]
    exact e2


def gS : P := (.for_ (.n 4) .r1 (.cons (.bin false .Add (.var 0) (.cst (.int 1))) .nil) mB2)
def oBg (p : P) : P := .seq p .nil
theorem oB_eq : oB = oBg gS := rfl
theorem o_gen (p : P) {cl : Nat → List D → Sto → R D} {pm : Nat → List D → List D → Option (List D)} {S S' : Sto} {d : T} {a b c x3 x4 x5 x6 x7 x8 : Option D} {r' : Env} (h : exec 300 cl pm p [a, b, c, some (.t d), x4, x5, x6, x7, x8] S = .ok (.nx, r') S') :
    forEl 300 cl pm (.n 3) (oBg p) d [a, b, c, x3, x4, x5, x6, x7, x8] S = .ok (.nx, r') S' := by
  simp [forEl, oBg, h]
theorem src32 (S : Sto) : srcT .r1 (.l [.t (.int 32)]) S = some (none, upT 0 32) := rfl
def tabN : Nat → List (List (Option Int)) → Option (List (List (Option Int)))
  | 0, rows => some rows
  | n + 1, rows => (rowN ((rows[rows.length - 1]?).getD []) rows.length 32 []).bind fun c => tabN n (rows ++ [c])
theorem o_step {cl : Nat → List D → Sto → R D} {pm : Nat → List D → List D → Option (List D)} {c0 : Cl} {fa : Int} {rows : List (List (Option Int))} {cur : List (Option Int)} {kvs : List (List Key × T)} {x3 x4 x5 x6 x7 x8 : Option D} (h : rowN ((rows[rows.length - 1]?).getD []) rows.length 32 [] = some cur) (hs : Spec kvs rows) (hl : kvs.length + 32 < line) :
    ∃ kvs' y4 y5 y6 y7 y8, forEl 300 cl pm (.n 3) oB (.int (rows.length : Int)) [some (.t (.int 31)), some (.t (.int fa)), some (.o 1), x3, x4, x5, x6, x7, x8] [c0, .dT kvs] =
      .ok (.nx, [some (.t (.int 31)), some (.t (.int fa)), some (.o 1), some (.t (.int (rows.length : Int))), y4, y5, y6, y7, y8]) [c0, .dT kvs'] ∧ Spec kvs' (rows ++ [cur]) ∧ kvs'.length ≤ kvs.length + 32 := by
  have hp : 0 < rows.length → rows[rows.length - 1]? = some ((rows[rows.length - 1]?).getD []) := fun h => by
    rw [List.getElem?_eq_getElem (by omega)]; rfl
  obtain ⟨kvs', y4, y5, y6, y7, y8, e, s1, s2, s3⟩ := row_loop (cl := cl) (pm := pm) (c0 := c0) (mo := 31) (fa := fa) hp 32 [] cur kvs x4 x5 x6 x7 x8 h hs (fun i v z => by simp at z) hl (by decide)
  refine ⟨kvs', y4, y5, y6, y7, y8, ?_, fun b i row v h1 h2 => ?_, s3⟩
  · rw [oB_eq]
    exact o_gen gS (for_ok (ds := [.t (.int 32)]) rfl (src32 _) e)
  · by_cases hb : b < rows.length
    · rw [List.getElem?_append_left hb] at h1
      exact s1 b i row v h1 h2
    · have hb2 : b = rows.length := by
        have := (List.getElem?_eq_some_iff.mp h1).1
        rw [List.length_append] at this
        simp at this
        omega
      subst hb2
      rw [List.getElem?_append_right (Nat.le_refl _), Nat.sub_self] at h1
      cases h1
      exact s2 i v h2
theorem o_loop {cl : Nat → List D → Sto → R D} {pm : Nat → List D → List D → Option (List D)} {c0 : Cl} {fa : Int} : ∀ (k : Nat) (rows rows' : List (List (Option Int))) (kvs : List (List Key × T)) (x3 x4 x5 x6 x7 x8 : Option D), tabN k rows = some rows' → Spec kvs rows → kvs.length + 32 * k < line →
    ∃ kvs' y3 y4 y5 y6 y7 y8, forGo (forEl 300 cl pm (.n 3) oB) (upT (rows.length : Int) k) [some (.t (.int 31)), some (.t (.int fa)), some (.o 1), x3, x4, x5, x6, x7, x8] [c0, .dT kvs] =
      .ok (.nx, [some (.t (.int 31)), some (.t (.int fa)), some (.o 1), y3, y4, y5, y6, y7, y8]) [c0, .dT kvs'] ∧ Spec kvs' rows' := by
  intro k
  induction k with
  | zero => intro rows rows' kvs x3 x4 x5 x6 x7 x8 h hs _; cases h; exact ⟨kvs, _, _, _, _, _, _, rfl, hs⟩
  | succ k ih =>
    intro rows rows' kvs x3 x4 x5 x6 x7 x8 h hs hl
    unfold tabN at h
    obtain ⟨cur, hc, h⟩ := Option.bind_eq_some_iff.mp h
    obtain ⟨kvs1, y4, y5, y6, y7, y8, e, s1, s2⟩ := o_step (cl := cl) (pm := pm) (c0 := c0) (fa := fa) (x3 := x3) (x4 := x4) (x5 := x5) (x6 := x6) (x7 := x7) (x8 := x8) hc hs (Nat.lt_of_le_of_lt (by omega : _ ≤ kvs.length + 32 * (k + 1)) hl)
    have hcl : (rows ++ [cur]).length = rows.length + 1 := by rw [List.length_append]; rfl
    obtain ⟨kvs', z3, z4, z5, z6, z7, z8, e2, s3⟩ := ih (rows ++ [cur]) rows' kvs1 (some (.t (.int (rows.length : Int)))) y4 y5 y6 y7 y8 h s1 (Nat.lt_of_le_of_lt (by omega : _ ≤ kvs.length + 32 * (k + 1)) hl)
    refine ⟨kvs', z3, z4, z5, z6, z7, z8, ?_, s3⟩
    rw [hcl] at e2
    unfold upT forGo
    rw [e]
    exact e2


def hS : P := (.for_ (.n 3) .r1 (.cons (.bin false .Add (.var 1) (.cst (.int 1))) .nil) oB)
def F6g (p : P) : FI := ⟨2, 9, false, (.seq (.asg (.n 2) (.dct true true)) (.seq p (.seq (.ret (.var 2)) .nil)))⟩
theorem F6_g : FAsked = F6g hS := rfl
theorem own_d (S : Sto) : own true (.dT []) S = .ok (.o S.length) (S ++ [.dT []]) := rfl
theorem body6 (p : P) {cl : Nat → List D → Sto → R D} {pm : Nat → List D → List D → Option (List D)} {c0 : Cl} {kvs : List (List Key × T)} {a b y3 y4 y5 y6 y7 y8 : Option D}
    (h : exec 300 cl pm p [some (.t (.int 31)), some (.t (.int 5)), some (.o 1), none, none, none, none, none, none] [c0, .dT []] = .ok (.nx, [a, b, some (.o 1), y3, y4, y5, y6, y7, y8]) [c0, .dT kvs]) :
    bodyF 300 cl pm (F6g p) [.t (.int 31), .t (.int 5)] [c0] = .ok (.t (.dT kvs)) [c0] := by
  unfold bodyF
  simp [F6g, own_d, h, fin, R.cut]
theorem src7 (S : Sto) : srcT .r1 (.l [.t (.int 6)]) S = some (none, upT 0 6) := rfl
def rowsF : List (List (Option Int)) := (tabN 6 []).getD []
theorem tab_some : (tabN 6 []).isSome = true := by decide +kernel
theorem tab_eq : tabN 6 [] = some rowsF := by
  unfold rowsF
  have := tab_some
  cases h : tabN 6 [] with
  | none => rw [h] at this; cases this
  | some r => rfl
theorem table_ok {fs : List FI} {pm : Nat → List D → List D → Option (List D)} {iA : Nat} (hF : fs[iA]? = some FAsked) (n : Nat) (c0 : Cl) : ∃ kvs, Spec kvs rowsF ∧ callF fs 300 pm (n + 1) iA [.t (.int 31), .t (.int 5)] [c0] = .ok (.t (.dT kvs)) [c0] := by
  obtain ⟨kvs, y3, y4, y5, y6, y7, y8, e, s⟩ := o_loop (cl := callF fs 300 pm n) (pm := pm) (c0 := c0) (fa := 5) 6 [] rowsF [] none none none none none none tab_eq (fun b i row v h1 h2 => by simp at h1) (by decide)
  refine ⟨kvs, s, callF_of hF rfl (Le.refl _) ?_⟩
  rw [F6_g]
  exact body6 hS (for_ok (ds := [.t (.int 6)]) rfl (src7 _) e)

end Qq.Lw

set_option maxHeartbeats 400000
/-! P6: trees compared. -/
namespace Qq.Lw
open PySem L2
def atq : T → T → Bool
  | .non, .non => true
  | .bl a, .bl b => a == b
  | .int a, .int b => decide (a = b)
  | .str a, .str b => decide (a = b)
  | _, _ => false
def allq (f : T → T → Bool) : List T → List T → Bool
  | [], [] => true
  | a :: as, b :: bs => f a b && allq f as bs
  | _, _ => false
def teq : Nat → T → T → Bool
  | 0, a, b => atq a b
  | k + 1, a, b => match a, b with
    | .lst as, .lst bs => allq (teq k) as bs
    | .tup as, .tup bs => allq (teq k) as bs
    | a, b => atq a b
theorem atq_eq {a b : T} (h : atq a b = true) : a = b := by
  unfold atq at h
  split at h
  · rfl
  · rw [eq_of_beq h]
  · rw [of_decide_eq_true h]
  · rw [of_decide_eq_true h]
  · cases h
theorem allq_eq {f : T → T → Bool} (hf : ∀ a b, f a b = true → a = b) : ∀ {as bs : List T}, allq f as bs = true → as = bs
  | [], [], _ => rfl
  | [], _ :: _, h => by cases h
  | _ :: _, [], h => by cases h
  | a :: as, b :: bs, h => by
    unfold allq at h
    rw [Bool.and_eq_true] at h
    rw [hf a b h.1, allq_eq hf h.2]
theorem teq_eq : ∀ (k : Nat) {a b : T}, teq k a b = true → a = b
  | 0, a, b, h => atq_eq h
  | k + 1, a, b, h => by
    unfold teq at h
    split at h
    · rw [allq_eq (fun a b => teq_eq k) h]
    · rw [allq_eq (fun a b => teq_eq k) h]
    · exact atq_eq h
def smq (k : Nat) (g d : T) : Bool := teq k g d && pln k g
theorem smq_ok {fs : List FI} {wf : Nat} {pm : Nat → List D → List D → Option (List D)} {i : Nat} (hF : fs[i]? = some (FSame i)) {k n : Nat} {g d : T} (S : Sto) (h : smq k g d = true) : callF fs wf pm (n + 1 + k) i [.t g, .t d] S = .ok (.t (.bl true)) S := by
  unfold smq at h
  rw [Bool.and_eq_true] at h
  rw [← teq_eq k h.1]
  exact same_ok hF k n g S h.2
def isTru (r : R D) : Bool := match r with
  | .ok (.t (.bl true)) [] => true
  | _ => false
theorem isTru_ok {r : R D} (h : isTru r = true) : r = .ok (.t (.bl true)) [] := by
  unfold isTru at h
  split at h
  · rfl
  · cases h
end Qq.Lw

set_option maxHeartbeats 400000
namespace Q58
open PySem L2 Qq
def top (i : Nat) : Stmt := PySem.Challenge.pw_raisedlimits_k58_the_least_number_to_be.main.body.getD i (.Pass ⟨0, 0, 0, 0⟩)
def dfs : List Df := [
  ⟨"many_found", top 1, ["probes", "refusals", "enough"], ["probes", "refusals", "enough", "turn", "found", "part"], [], [], false⟩,
  ⟨"fewest_probes", top 2, ["spare", "refusals"], ["spare", "refusals", "low", "high", "middle"], [], [], false⟩,
  ⟨"best_probe", top 3, ["low", "high", "refusals"], ["low", "high", "refusals", "probes"], [], [], false⟩,
  ⟨"_law_box", top 5, ["_law_script", "_law_k"], ["_law_script", "_law_k", "_law_cell"], [], [], true⟩,
  ⟨"_law_take", top 6, ["_law_jar", "_law_top_so"], ["_law_jar", "_law_top_so", "_law_first", "_law_wide", "_law_then_so", "_law_picked"], ["_law_jar"], [], false⟩,
  ⟨"_law_cells", top 7, ["_law_script", "_law_most_so"], ["_law_script", "_law_most_so", "_law_cells_here", "_law_k", "_law_cell", "_law_at_so"], ["_law_cells_here"], [], false⟩,
  ⟨"_law_of", top 8, ["_law_jar", "_law_some_so"], ["_law_jar", "_law_some_so"], ["_law_jar"], [], false⟩,
  ⟨"_law_same", top 9, ["_law_got", "_law_goal"], ["_law_got", "_law_goal", "_law_mine", "_law_own"], [], [], false⟩,
  ⟨"_law_fewest_asked", top 10, ["_law_most_so", "_law_fails_so"], ["_law_most_so", "_law_fails_so", "_law_table", "_law_bad", "_law_many", "_law_best", "_law_cut_so", "_law_low_so", "_law_high_so"], ["_law_table"], ["_law_table"], false⟩,
  ⟨"_law_least", top 11, ["_law_table", "_law_near_so", "_law_top_so", "_law_bad"], ["_law_table", "_law_near_so", "_law_top_so", "_law_bad", "_law_fewest", "_law_own", "_law_under_so", "_law_above"], [], ["_law_table"], false⟩,
  ⟨"_law_hand_right", top 12, [], ["_law_far", "_law_some", "_law_got", "_law_due", "_law_own"], [], [], false⟩,
  ⟨"_law_right", top 13, ["_law_jar"], ["_law_jar", "_law_table", "_law_turn", "_law_due", "_law_goal", "_law_near_so", "_law_span_so", "_law_bad"], ["_law_jar"], [], false⟩,
  ⟨"law", top 14, ["_law_script"], ["_law_script", "_law_cells_here", "_law_k"], [], [], false⟩]
def kws : List ((Str × Nat × List Str) × (Nat × List Nat)) := [(("best_probe", 0, ["refusals", "high", "low"]), (2, [2, 1, 0]))]
def F0 : FI := ⟨3, 6, false, (.seq (.asg (.cons (.n 4) (.cons (.n 5) .nil)) (.tup (.cons (.cst (.int 0)) (.cons (.cst (.int 1)) .nil)))) (.seq (.for_ (.n 3) .r1 (.cons (.bin false .Add (.bi false .min2 (.cons (.var 0) (.cons (.var 1) .nil))) (.cst (.int 1))) .nil) (.seq (.aug 4 .Add (.var 5)) (.seq (.asg (.n 5) (.bin false .FloorDiv (.bin false .Mult (.var 5) (.bin false .Sub (.var 0) (.var 3))) (.bin false .Add (.var 3) (.cst (.int 1))))) (.seq (.ite (.cmp .Gt (.var 4) (.var 2)) (.seq .brk .nil) .nil) .nil)))) (.seq (.ret (.var 4)) .nil)))⟩
def F1 : FI := ⟨2, 5, false, (.seq (.ite (.orV (.cmp .Eq (.var 0) (.cst (.int 0))) (.cmp .Eq (.var 1) (.cst (.int 0)))) (.seq (.ret (.ife (.cmp .Eq (.var 0) (.cst (.int 0))) (.cst (.int 0)) (.cst .non))) .nil) .nil) (.seq (.par [2, 3] (.cons (.cst (.int 0)) (.cons (.var 0) .nil))) (.seq (.whl (.cmp .Lt (.var 2) (.var 3)) (.seq (.asg (.n 4) (.bin false .FloorDiv (.bin false .Add (.var 2) (.var 3)) (.cst (.int 2)))) (.seq (.asg (.cons (.n 2) (.cons (.n 3) .nil)) (.ife (.cmp .Gt (.call 0 (.cons (.var 4) (.cons (.var 1) (.cons (.var 0) .nil)))) (.var 0)) (.tup (.cons (.var 2) (.cons (.var 4) .nil))) (.tup (.cons (.bin false .Add (.var 4) (.cst (.int 1))) (.cons (.var 3) .nil))))) .nil))) (.seq (.ret (.var 2)) .nil))))⟩
def F2 : FI := ⟨3, 4, false, (.seq (.asg (.n 3) (.call 1 (.cons (.bin false .Sub (.var 1) (.var 0)) (.cons (.var 2) .nil)))) (.seq (.ite (.orV (.cmp .Eq (.var 0) (.var 1)) (.cmp .Is (.var 3) (.cst .non))) (.seq (.ret (.cst .non)) .nil) .nil) (.seq (.ret (.bi false .max2 (.cons (.bin false .Add (.var 0) (.cst (.int 1))) (.cons (.bin false .Sub (.bin false .Add (.var 1) (.cst (.int 1))) (.call 0 (.cons (.bin false .Sub (.var 3) (.cst (.int 1))) (.cons (.var 2) (.cons (.bin false .Sub (.var 1) (.var 0)) .nil))))) .nil)))) .nil)))⟩
def F3 : FI := ⟨2, 3, true, (.seq (.asg (.n 2) (.ife (.cmp .Lt (.var 1) (.bi false .len (.cons (.var 0) .nil))) (.idx (.var 0) (.var 1)) (.cst (.int 0)))) (.seq (.ret (.lst true (.cons (.bin false .Mult (.bi false .abs (.cons (.var 2) .nil)) (.bi false .int (.cons (.cmp .GtE (.bi false .abs (.cons (.var 2) .nil)) (.bin false .Pow (.cst (.int 10)) (.cst (.int 18)))) .nil))) (.cons (.bin false .Add (.bin false .Add (.bin false .Mod (.bi false .int (.cons (.var 2) .nil)) (.cst (.int 2305843009213693951))) (.bin false .Mult (.cst (.int 39659)) (.var 1))) (.cst (.int 1050158))) (.cons (.cst (.int 0)) .nil))))) .nil))⟩
def F4 : FI := ⟨2, 6, false, (.seq (.ite (.cmp .Gt (.idx (.var 0) (.cst (.int 0))) (.cst (.int 0))) (.seq (.asg (.n 5) (.bin false .Mod (.bi false .int (.cons (.idx (.var 0) (.cst (.int 0))) .nil)) (.var 1))) (.seq (.setI (.var 0) (.cst (.int 0)) (.bin false .FloorDiv (.idx (.var 0) (.cst (.int 0))) (.var 1))) (.seq (.ret (.var 5)) .nil))) .nil) (.seq (.setI (.var 0) (.cst (.int 2)) (.bin false .Add (.idx (.var 0) (.cst (.int 2))) (.cst (.int 1)))) (.seq (.asg (.n 2) (.bin false .Mod (.bi false .int (.cons (.bin false .Mult (.bin false .Add (.idx (.var 0) (.cst (.int 1))) (.bin false .Mult (.cst (.int 48271)) (.idx (.var 0) (.cst (.int 2))))) (.bin false .Add (.cst (.int 39659)) (.idx (.var 0) (.cst (.int 2))))) .nil)) (.cst (.int 2147483647)))) (.seq (.asg (.n 3) (.bin false .Add (.bin false .Mod (.bi false .int (.cons (.var 2) .nil)) (.cst (.int 40009))) (.cst (.int 7)))) (.seq (.asg (.n 4) (.bin false .Mod (.bi false .int (.cons (.bin false .Mult (.bin false .Add (.bin false .Add (.var 2) (.idx (.var 0) (.cst (.int 2)))) (.bin false .FloorDiv (.idx (.var 0) (.cst (.int 1))) (.cst (.int 1000003)))) (.var 3)) .nil)) (.cst (.int 2147483629)))) (.seq (.ret (.bin false .Mod (.bi false .int (.cons (.bin false .FloorDiv (.bin false .Mod (.bi false .int (.cons (.bin false .Add (.bin false .Mult (.var 4) (.cst (.int 48271))) (.var 2)) .nil)) (.cst (.int 2147483587))) (.cst (.int 64))) .nil)) (.var 1))) .nil))))))⟩
def F5 : FI := ⟨2, 6, false, (.seq (.asg (.n 2) (.orV (.bi true .list (.cons (.sl false (.var 0) none (some ()) .nil (.var 1)) .nil)) (.lst true (.cons (.cst (.int 0)) .nil)))) (.seq (.for_ (.cons (.n 3) (.cons (.n 4) .nil)) .enum (.cons (.sl false (.var 0) (some ()) (some ()) (.var 1) (.cst (.int 63))) .nil) (.seq (.asg (.n 5) (.bin false .Mod (.bi false .int (.cons (.var 3) .nil)) (.var 1))) (.seq (.setI (.var 2) (.var 5) (.bin false .Add (.idx (.var 2) (.var 5)) (.bin false .Mult (.var 4) (.bin false .Add (.var 3) (.cst (.int 2)))))) .nil))) (.seq (.ret (.var 2)) .nil)))⟩
def F6 : FI := ⟨2, 2, false, (.seq (.ret (.idx (.var 1) (.call 4 (.cons (.var 0) (.cons (.bi false .len (.cons (.var 1) .nil)) .nil))))) .nil)⟩
def F7 : FI := ⟨2, 4, false, (.seq (.ite (.tru (.isi (.var 1) ["list", "tuple"] false)) (.seq (.ite (.orV (.cmp .NotEq (.isi (.var 0) ["list"] true) (.isi (.var 1) ["list"] true)) (.cmp .NotEq (.isi (.var 0) ["tuple"] true) (.isi (.var 1) ["tuple"] true))) (.seq (.ret (.cst (.bl false))) .nil) .nil) (.seq (.ret (.andV (.cmp .Eq (.bi false .len (.cons (.var 0) .nil)) (.bi false .len (.cons (.var 1) .nil))) (.bi false .all (.cons (.comp false [2, 3] (.cons (.n 2) (.cons (.n 3) .nil)) .zip (.cons (.var 0) (.cons (.var 1) .nil)) (.cst (.bl true)) (.call 7 (.cons (.var 2) (.cons (.var 3) .nil)))) .nil)))) .nil)) .nil) (.seq (.ite (.orV (.cmp .Is (.var 1) (.cst .non)) (.tru (.isi (.var 1) ["bool", "str"] false))) (.seq (.ret (.andV (.cmp .Eq (.var 0) (.var 1)) (.andV (.cmp .Eq (.isi (.var 0) ["bool"] true) (.isi (.var 1) ["bool"] true)) (.cmp .Eq (.cmp .Is (.var 0) (.cst .non)) (.cmp .Is (.var 1) (.cst .non)))))) .nil) .nil) (.seq (.ret (.andV (.isi (.var 0) ["int"] true) (.andV (.notV (.isi (.var 0) ["bool"] true)) (.cmp .Eq (.var 0) (.var 1))))) .nil)))⟩
def F8 : FI := ⟨2, 9, false, (.seq (.asg (.n 2) (.dct true true)) (.seq (.for_ (.n 3) .r1 (.cons (.bin false .Add (.var 1) (.cst (.int 1))) .nil) (.seq (.for_ (.n 4) .r1 (.cons (.bin false .Add (.var 0) (.cst (.int 1))) .nil) (.seq (.asg (.n 5) (.ife (.cmp .Lt (.var 4) (.cst (.int 2))) (.cst (.int 0)) (.cst .non))) (.seq (.ite (.andV (.cmp .Gt (.var 4) (.cst (.int 1))) (.cmp .Gt (.var 3) (.cst (.int 0)))) (.seq (.for_ (.n 6) .r2 (.cons (.cst (.int 1)) (.cons (.var 4) .nil)) (.seq (.par [7, 8] (.cons (.idx (.var 2) (.tup (.cons (.var 6) (.cons (.bin false .Sub (.var 3) (.cst (.int 1))) .nil)))) (.cons (.idx (.var 2) (.tup (.cons (.bin false .Sub (.var 4) (.var 6)) (.cons (.var 3) .nil)))) .nil))) (.seq (.ite (.andV (.cmp .IsNot (.var 7) (.cst .non)) (.orV (.cmp .Is (.var 5) (.cst .non)) (.cmp .Lt (.bin false .Add (.cst (.int 1)) (.bi false .max2 (.cons (.var 7) (.cons (.var 8) .nil)))) (.var 5)))) (.seq (.asg (.n 5) (.bin false .Add (.cst (.int 1)) (.bi false .max2 (.cons (.var 7) (.cons (.var 8) .nil))))) .nil) .nil) .nil))) .nil) .nil) (.seq (.setI (.var 2) (.tup (.cons (.var 4) (.cons (.var 3) .nil))) (.var 5)) .nil)))) .nil)) (.seq (.ret (.var 2)) .nil)))⟩
def F9 : FI := ⟨4, 8, false, (.seq (.asg (.n 4) (.idx (.var 0) (.tup (.cons (.bin false .Add (.bin false .Sub (.var 2) (.var 1)) (.cst (.int 1))) (.cons (.var 3) .nil))))) (.seq (.ite (.orV (.cmp .Eq (.var 2) (.var 1)) (.cmp .Is (.var 4) (.cst .non))) (.seq (.ret (.cst .non)) .nil) .nil) (.seq (.for_ (.n 5) .r2 (.cons (.bin false .Add (.var 1) (.cst (.int 1))) (.cons (.bin false .Add (.var 2) (.cst (.int 1))) .nil)) (.seq (.par [6, 7] (.cons (.idx (.var 0) (.tup (.cons (.bin false .Sub (.var 5) (.var 1)) (.cons (.bin false .Sub (.var 3) (.cst (.int 1))) .nil)))) (.cons (.idx (.var 0) (.tup (.cons (.bin false .Add (.bin false .Sub (.var 2) (.var 5)) (.cst (.int 1))) (.cons (.var 3) .nil)))) .nil))) (.seq (.ite (.andV (.cmp .IsNot (.var 6) (.cst .non)) (.cmp .Lt (.bi false .max2 (.cons (.var 6) (.cons (.var 7) .nil))) (.var 4))) (.seq (.ret (.var 5)) .nil) .nil) .nil))) (.seq (.ret (.cst .non)) .nil))))⟩
def F10 : FI := ⟨0, 5, false, (.seq (.asg (.n 0) (.bin false .Pow (.cst (.int 10)) (.cst (.int 40)))) (.seq (.asg (.n 1) (.lst false (.cons (.tup (.cons (.cst (.int 0)) (.cons (.cst (.int 7)) (.cons (.cst (.int 3)) .nil)))) (.cons (.tup (.cons (.cst (.int 0)) (.cons (.cst (.int 7)) (.cons (.cst (.int 2)) .nil)))) (.cons (.tup (.cons (.cst (.int 0)) (.cons (.cst (.int 7)) (.cons (.cst (.int 1)) .nil)))) (.cons (.tup (.cons (.cst (.int 5)) (.cons (.cst (.int 5)) (.cons (.cst (.int 9)) .nil)))) (.cons (.tup (.cons (.cst (.int 0)) (.cons (.cst (.int 7)) (.cons (.cst (.int 0)) .nil)))) (.cons (.tup (.cons (.cst (.int 4)) (.cons (.cst (.int 4)) (.cons (.cst (.int 0)) .nil)))) (.cons (.tup (.cons (.cst (.int 0)) (.cons (.cst (.int 1)) (.cons (.cst (.int 1)) .nil)))) (.cons (.tup (.cons (.cst (.int 3)) (.cons (.cst (.int 5)) (.cons (.cst (.int 2)) .nil)))) (.cons (.tup (.cons (.cst (.int 10)) (.cons (.cst (.int 17)) (.cons (.cst (.int 3)) .nil)))) (.cons (.tup (.cons (.cst (.int 0)) (.cons (.cst (.int 8)) (.cons (.cst (.int 4)) .nil)))) (.cons (.tup (.cons (.cst (.int 0)) (.cons (.cst (.int 6)) (.cons (.cst (.int 3)) .nil)))) .nil))))))))))))) (.seq (.asg (.n 2) (.lst false (.cons (.comp false [4] (.n 4) .seq (.cons (.var 1) .nil) (.cst (.bl true)) (.call 2 (.cons (.idx (.var 4) (.cst (.int 0))) (.cons (.idx (.var 4) (.cst (.int 1))) (.cons (.idx (.var 4) (.cst (.int 2))) .nil))))) (.cons (.callk 2 0 .nil (.cons (.cst (.int 3)) (.cons (.cst (.int 17)) (.cons (.cst (.int 10)) .nil)))) .nil)))) (.seq (.asg (.n 3) (.lst false (.cons (.lst false (.cons (.cst (.int 4)) (.cons (.cst (.int 1)) (.cons (.cst (.int 1)) (.cons (.cst .non) (.cons (.cst .non) (.cons (.cst .non) (.cons (.cst (.int 1)) (.cons (.cst (.int 4)) (.cons (.cst (.int 14)) (.cons (.cst (.int 1)) (.cons (.cst (.int 3)) .nil)))))))))))) (.cons (.cst (.int 14)) .nil)))) (.seq (.asg (.n 2) (.bin false .Add (.var 2) (.lst false (.cons (.call 2 (.cons (.cst (.int 0)) (.cons (.var 0) (.cons (.cst (.int 1)) .nil)))) (.cons (.call 2 (.cons (.bin false .Sub (.var 0) (.cst (.int 1))) (.cons (.var 0) (.cons (.cst (.int 1)) .nil)))) (.cons (.call 2 (.cons (.cst (.int 0)) (.cons (.var 0) (.cons (.cst (.int 0)) .nil)))) (.cons (.call 2 (.cons (.cst (.int 0)) (.cons (.bin false .Sub (.bin false .Mult (.bin false .Pow (.cst (.int 2)) (.cst (.int 50))) (.bin false .Pow (.cst (.int 2)) (.cst (.int 50)))) (.cst (.int 1))) (.cons (.cst (.int 100)) .nil)))) .nil))))))) (.seq (.asg (.n 3) (.bin false .Add (.var 3) (.lst false (.cons (.cst (.int 1)) (.cons (.var 0) (.cons (.cst .non) (.cons (.bin false .Mult (.bin false .Pow (.cst (.int 2)) (.cst (.int 50))) (.bin false .Pow (.cst (.int 2)) (.cst (.int 49)))) .nil))))))) (.seq (.asg (.n 2) (.bin false .Add (.var 2) (.lst false (.cons (.call 2 (.cons (.cst (.int 0)) (.cons (.bin false .Mult (.bin false .Pow (.cst (.int 2)) (.cst (.int 50))) (.bin false .Pow (.cst (.int 2)) (.cst (.int 50)))) (.cons (.cst (.int 100)) .nil)))) (.cons (.call 2 (.cons (.cst (.int 0)) (.cons (.bin false .Sub (.bin false .Mult (.bin false .Pow (.cst (.int 2)) (.cst (.int 50))) (.bin false .Pow (.cst (.int 2)) (.cst (.int 50)))) (.cst (.int 2))) (.cons (.cst (.int 99)) .nil)))) (.cons (.call 2 (.cons (.cst (.int 7)) (.cons (.bin false .Add (.bin false .Mult (.bin false .Pow (.cst (.int 2)) (.cst (.int 50))) (.bin false .Pow (.cst (.int 2)) (.cst (.int 50)))) (.cst (.int 6))) (.cons (.cst (.int 120)) .nil)))) .nil)))))) (.seq (.ret (.call 7 (.cons (.var 2) (.cons (.bin false .Add (.var 3) (.lst false (.cons (.cst (.int 1)) (.cons (.bin false .Sub (.bin false .Mult (.bin false .Pow (.cst (.int 2)) (.cst (.int 50))) (.bin false .Pow (.cst (.int 2)) (.cst (.int 49)))) (.cst (.int 1))) (.cons (.bin false .Add (.bin false .Mult (.bin false .Pow (.cst (.int 2)) (.cst (.int 50))) (.bin false .Pow (.cst (.int 2)) (.cst (.int 49)))) (.cst (.int 7))) .nil))))) .nil)))) .nil))))))))⟩
def F11 : FI := ⟨1, 8, false, (.seq (.asg (.n 1) (.call 8 (.cons (.cst (.int 31)) (.cons (.cst (.int 5)) .nil)))) (.seq (.for_ (.n 2) .r1 (.cons (.cst (.int 15)) .nil) (.seq (.par [5, 6, 7] (.cons (.call 6 (.cons (.var 0) (.cons (.lst false (.cons (.cst (.int 0)) (.cons (.cst (.int 0)) (.cons (.cst (.int 1)) (.cons (.cst (.int 7)) (.cons (.bin false .Pow (.cst (.int 10)) (.cst (.int 30))) .nil)))))) .nil))) (.cons (.call 4 (.cons (.var 0) (.cons (.cst (.int 31)) .nil))) (.cons (.call 4 (.cons (.var 0) (.cons (.cst (.int 6)) .nil))) .nil)))) (.seq (.asg (.n 3) (.call 9 (.cons (.var 1) (.cons (.cst (.int 0)) (.cons (.var 6) (.cons (.var 7) .nil)))))) (.seq (.asg (.n 4) (.ife (.cmp .Is (.var 3) (.cst .non)) (.cst .non) (.bin false .Add (.var 3) (.var 5)))) (.seq (.ite (.notV (.tru (.call 7 (.cons (.lst false (.cons (.call 2 (.cons (.var 5) (.cons (.bin false .Add (.var 5) (.var 6)) (.cons (.var 7) .nil)))) (.cons (.callk 2 0 .nil (.cons (.var 7) (.cons (.bin false .Add (.var 5) (.var 6)) (.cons (.var 5) .nil)))) .nil))) (.cons (.lst false (.cons (.var 4) (.cons (.var 4) .nil))) .nil))))) (.seq (.ret (.cst (.bl false))) .nil) .nil) .nil))))) (.seq (.ret (.cst (.bl true))) .nil)))⟩
def F12 : FI := ⟨1, 3, false, (.seq (.ite (.notV (.tru (.call 10 .nil))) (.seq (.ret (.cst (.bl false))) .nil) .nil) (.seq (.asg (.n 1) (.call 5 (.cons (.var 0) (.cons (.cst (.int 3)) .nil)))) (.seq (.ret (.bi false .all (.cons (.comp false [2] (.n 2) .r1 (.cons (.bi false .len (.cons (.var 1) .nil)) .nil) (.cst (.bl true)) (.call 11 (.cons (.call 3 (.cons (.var 1) (.cons (.var 2) .nil))) .nil))) .nil))) .nil)))⟩
def fs : List FI := [F0, F1, F2, F3, F4, F5, F6, F7, F8, F9, F10, F11, F12]
theorem tr_ok : dfs.map (fun d => d.tr (fnsOf dfs) kws) = fs.map some := by kernel_rfl!
theorem sc_ok : dfs.all (fun d => scopeB d.N d.ps (defScope d.st)) = true := by kernel_rfl!
end Q58

set_option maxHeartbeats 400000
namespace Qq.N58
open PySem L2 Q58 Qq.Lw
/-! best_probe -/
def bpO (lo hi rf : Int) : Option T := match fpO (hi - lo) rf with
  | none => none
  | some p => if lo = hi then some .non else match p with
    | .non => some .non
    | .int q => (mfO (q - 1) rf (hi - lo)).map fun m => .int (mxI (lo + 1) (hi + 1 - m))
    | _ => none
theorem hM : fs[0]? = some FMany := rfl
theorem hW : fs[1]? = some (FFew 0) := rfl
theorem is_i (i : Int) : cmpT .Is (.int i) .non = some false := rfl
theorem is_n : cmpT .Is .non .non = some true := rfl
theorem bp_ok {n : Nat} {lo hi rf : Int} {v : T} {S : Sto} (h : bpO lo hi rf = some v) : callF fs 300 (pmT kws) (n + 1 + 2) 2 [.t (.int lo), .t (.int hi), .t (.int rf)] S = .ok (.t v) S := by
  refine callF_of (F := F2) rfl rfl (Le.refl _) ?_
  unfold bpO at h
  split at h
  · cases h
  · rename_i p hp
    have e1 : callF fs 300 (pmT kws) (n + 1 + 1) 1 [.t (.int (hi - lo)), .t (.int rf)] S = .ok (.t p) S := fp_ok hM hW hp
    unfold bodyF
    by_cases h0 : lo = hi
    · rw [if_pos h0] at h
      cases h
      simp [F2, b_sub, e1, c_eq, h0, truT, fin, R.cut, take_len1, take_len]
      rw [h0] at e1
      simp at e1
      simp [e1, c_eq, fin, R.cut, take_len1, take_len, truT]
    · rw [if_neg h0] at h
      split at h
      · cases h
        simp [F2, b_sub, e1, c_eq, h0, truT, is_n, fin, R.cut, take_len1, take_len]
      · rename_i q
        obtain ⟨m, hm, rfl⟩ := Option.map_eq_some_iff.mp h
        have e2 : callF fs 300 (pmT kws) (n + 1 + 1) 0 [.t (.int (q - 1)), .t (.int rf), .t (.int (hi - lo))] S = .ok (.t (.int m)) S := mf_ok hM hm
        simp [F2, b_sub, b_add, e1, e2, c_eq, h0, truT, is_i, b_max, fin, R.cut, take_len1, take_len]
      · cases h
/-! _law_least -/
def leL (rows : List (List (Option Int))) (span bad : Nat) (few : Int) : Nat → Nat → Option (Option Int)
  | 0, _ => some none
  | n + 1, own => match rows[bad - 1]?, rows[bad]? with
    | some r1, some r2 => (match r1[own]?, r2[span - own + 1]? with
      | some none, some _ => leL rows span bad few n (own + 1)
      | some (some u), some (some a) => if mxI u a < few then some (some (own : Int)) else leL rows span bad few n (own + 1)
      | _, _ => none)
    | _, _ => none
def leN (rows : List (List (Option Int))) (span bad : Nat) : Option (Option Int) := match rows[bad]? with
  | some r => (match r[span + 1]? with
    | some (some few) => if span = 0 then some none else if bad = 0 then none else leL rows span bad few span 1
    | some none => some none
    | none => none)
  | none => none
def lB : P := (.seq (.par [6, 7] (.cons (.idx (.var 0) (.tup (.cons (.bin false .Sub (.var 5) (.var 1)) (.cons (.bin false .Sub (.var 3) (.cst (.int 1))) .nil)))) (.cons (.idx (.var 0) (.tup (.cons (.bin false .Add (.bin false .Sub (.var 2) (.var 5)) (.cst (.int 1))) (.cons (.var 3) .nil)))) .nil))) (.seq (.ite (.andV (.cmp .IsNot (.var 6) (.cst .non)) (.cmp .Lt (.bi false .max2 (.cons (.var 6) (.cons (.var 7) .nil))) (.var 4))) (.seq (.ret (.var 5)) .nil) .nil) .nil))
theorem F9_eq : F9 = ⟨4, 8, false, (.seq (.asg (.n 4) (.idx (.var 0) (.tup (.cons (.bin false .Add (.bin false .Sub (.var 2) (.var 1)) (.cst (.int 1))) (.cons (.var 3) .nil))))) (.seq (.ite (.orV (.cmp .Eq (.var 2) (.var 1)) (.cmp .Is (.var 4) (.cst .non))) (.seq (.ret (.cst .non)) .nil) .nil) (.seq (.for_ (.n 5) .r2 (.cons (.bin false .Add (.var 1) (.cst (.int 1))) (.cons (.bin false .Add (.var 2) (.cst (.int 1))) .nil)) lB) (.seq (.ret (.cst .non)) .nil))))⟩ := rfl
def lFl (o : Option Int) : Fl := match o with
  | none => .nx
  | some k => .ret (.t (.int k))
theorem le_loop {cl : Nat → List D → Sto → R D} {pm : Nat → List D → List D → Option (List D)} {kvs : List (List Key × T)} {rows : List (List (Option Int))} (hk : Spec kvs rows) {span bad : Nat} {few : Int} (hb : 0 < bad) (S : Sto) : ∀ (n own : Nat) (res : Option Int) (x5 x6 x7 : Option D), own + n = span + 1 → leL rows span bad few n own = some res →
    ∃ r', forGo (forEl 300 cl pm (.n 5) lB) (upT (own : Int) n) [some (.t (.dT kvs)), some (.t (.int 0)), some (.t (.int (span : Int))), some (.t (.int (bad : Int))), some (.t (.int few)), x5, x6, x7] S = .ok (lFl res, r') S := by
  intro n
  induction n with
  | zero => intro own res x5 x6 x7 _ h; cases h; exact ⟨_, rfl⟩
  | succ n ih =>
    intro own res x5 x6 x7 ho h
    obtain ⟨b1, hb1⟩ : ∃ b1, b1 = bad - 1 := ⟨_, rfl⟩
    obtain ⟨b2, hb2⟩ : ∃ b2, b2 = span - own + 1 := ⟨_, rfl⟩
    have e1 : (bad : Int) - 1 = (b1 : Int) := by omega
    have e2 : (span : Int) - (own : Int) + 1 = (b2 : Int) := by omega
    have e3 : ((own + 1 : Nat) : Int) = (own : Int) + 1 := by omega
    unfold leL at h
    rw [← hb1, ← hb2] at h
    split at h
    · rename_i r1 r2 h1 h2
      split at h
      · rename_i a q1 q2
        have k1 := hk _ _ _ _ h1 q1
        have k2 := hk _ _ _ _ h2 q2
        unfold K2 at k1 k2
        obtain ⟨r', e⟩ := ih (own + 1) res (some (.t (.int (own : Int)))) (some (.t .non)) (some (.t (enc a))) (by omega) h
        refine ⟨r', ?_⟩
        rw [e3] at e
        unfold upT forGo
        simp only [enc] at k1
        simp [forEl, lB, b_sub, b_add, e1, e2, ix_dT, k1, k2, asgP, isn0, truT]
        exact e
      · rename_i u a q1 q2
        have k1 := hk _ _ _ _ h1 q1
        have k2 := hk _ _ _ _ h2 q2
        unfold K2 at k1 k2
        simp only [enc] at k1 k2
        unfold upT forGo
        by_cases hlt : mxI u a < few
        · rw [if_pos hlt] at h
          cases h
          refine ⟨[some (.t (.dT kvs)), some (.t (.int 0)), some (.t (.int (span : Int))), some (.t (.int (bad : Int))), some (.t (.int few)), some (.t (.int (own : Int))), some (.t (.int u)), some (.t (.int a))], ?_⟩
          simp [forEl, lB, b_sub, b_add, e1, e2, ix_dT, k1, k2, asgP, isn1, truT, b_max, c_lt, hlt, lFl]
        · rw [if_neg hlt] at h
          obtain ⟨r', e⟩ := ih (own + 1) res (some (.t (.int (own : Int)))) (some (.t (.int u))) (some (.t (.int a))) (by omega) h
          refine ⟨r', ?_⟩
          rw [e3] at e
          simp [forEl, lB, b_sub, b_add, e1, e2, ix_dT, k1, k2, asgP, isn1, truT, b_max, c_lt, hlt]
          exact e
      · cases h
    · cases h
def F9g (p : P) : FI := ⟨4, 8, false, (.seq (.asg (.n 4) (.idx (.var 0) (.tup (.cons (.bin false .Add (.bin false .Sub (.var 2) (.var 1)) (.cst (.int 1))) (.cons (.var 3) .nil))))) (.seq (.ite (.orV (.cmp .Eq (.var 2) (.var 1)) (.cmp .Is (.var 4) (.cst .non))) (.seq (.ret (.cst .non)) .nil) .nil) (.seq p (.seq (.ret (.cst .non)) .nil))))⟩
def lS : P := (.for_ (.n 5) .r2 (.cons (.bin false .Add (.var 1) (.cst (.int 1))) (.cons (.bin false .Add (.var 2) (.cst (.int 1))) .nil)) lB)
theorem F9_g : F9 = F9g lS := rfl
section
variable {cl : Nat → List D → Sto → R D} {pm : Nat → List D → List D → Option (List D)} {kvs : List (List Key × T)} {sp bad few : Int} {S : Sto} (p : P)
theorem sub0 (i : Int) : i - 0 = i := Int.sub_zero i
theorem b9_eq (h : valT kvs [.inl (sp + 1), .inl bad] = some (.int few)) (h0 : sp = 0) : bodyF 300 cl pm (F9g p) [.t (.dT kvs), .t (.int 0), .t (.int sp), .t (.int bad)] S = .ok (.t .non) S := by
  subst h0
  unfold bodyF
  simp at h
  simp [F9g, b_sub, b_add, ix_dT, h, c_eq, truT, fin, R.cut, take_len1, take_len]
theorem b9_non (h : valT kvs [.inl (sp + 1), .inl bad] = some .non) : bodyF 300 cl pm (F9g p) [.t (.dT kvs), .t (.int 0), .t (.int sp), .t (.int bad)] S = .ok (.t .non) S := by
  unfold bodyF
  by_cases h0 : sp = 0
  · subst h0
    simp at h
    simp [F9g, b_sub, b_add, ix_dT, h, c_eq, truT, fin, R.cut, take_len1, take_len]
  · simp [F9g, b_sub, b_add, ix_dT, h, c_eq, h0, truT, is_n, fin, R.cut, take_len1, take_len]
theorem b9_go {res : Option Int} {r' : Env} (h : valT kvs [.inl (sp + 1), .inl bad] = some (.int few)) (h0 : ¬ sp = 0) (hp : exec 300 cl pm p [some (.t (.dT kvs)), some (.t (.int 0)), some (.t (.int sp)), some (.t (.int bad)), some (.t (.int few)), none, none, none] S = .ok (lFl res, r') S) :
    bodyF 300 cl pm (F9g p) [.t (.dT kvs), .t (.int 0), .t (.int sp), .t (.int bad)] S = .ok (.t (enc res)) S := by
  unfold bodyF
  cases res with
  | none => simp [F9g, b_sub, b_add, ix_dT, h, c_eq, h0, truT, is_i, hp, lFl, fin, R.cut, take_len1, take_len, enc]
  | some k => simp [F9g, b_sub, b_add, ix_dT, h, c_eq, h0, truT, is_i, hp, lFl, fin, R.cut, take_len1, take_len, enc]
end
theorem lS_ok {cl : Nat → List D → Sto → R D} {pm : Nat → List D → List D → Option (List D)} {kvs : List (List Key × T)} {rows : List (List (Option Int))} (hk : Spec kvs rows) {span bad : Nat} {few : Int} (hb : 0 < bad) (hs : span < 1000) (S : Sto) {res : Option Int} (h : leL rows span bad few span 1 = some res) :
    ∃ r', exec 300 cl pm lS [some (.t (.dT kvs)), some (.t (.int 0)), some (.t (.int (span : Int))), some (.t (.int (bad : Int))), some (.t (.int few)), none, none, none] S = .ok (lFl res, r') S := by
  obtain ⟨r', e⟩ := le_loop (cl := cl) (pm := pm) hk hb S span 1 res none none none (by omega) h
  have hn : ((span : Int) + 1 - 1).toNat = span := by omega
  have hi : itT .r2 [.int 1, .int ((span : Int) + 1)] = some (upT ((1 : Nat) : Int) span) := by
    have := it_r2 (i := 1) (j := (span : Int) + 1) (by omega) (by omega) (by omega) (by omega) (by omega)
    rw [hn] at this
    exact this
  have hsr : srcT .r2 (.l [.t (.int 1), .t (.int ((span : Int) + 1))]) S = some (none, upT ((1 : Nat) : Int) span) := src_of (lkOf_2 _ _) (bind2 hi) (by rw [len_upT]; unfold line; omega)
  refine ⟨r', for_ok (ds := [.t (.int 1), .t (.int ((span : Int) + 1))]) rfl hsr e⟩
theorem least_ok {n : Nat} {kvs : List (List Key × T)} {rows : List (List (Option Int))} (hk : Spec kvs rows) {span bad : Nat} (hs : span < 1000) {res : Option Int} (S : Sto) (h : leN rows span bad = some res) :
    callF fs 300 (pmT kws) (n + 1) 9 [.t (.dT kvs), .t (.int 0), .t (.int (span : Int)), .t (.int (bad : Int))] S = .ok (.t (enc res)) S := by
  refine callF_of (F := F9) rfl rfl (Le.refl _) ?_
  rw [F9_g]
  unfold leN at h
  split at h
  · rename_i r hr
    split at h
    · rename_i few hq
      have k1 : valT kvs [.inl ((span : Int) + 1), .inl (bad : Int)] = some (.int few) := hk _ _ _ _ hr hq
      by_cases h0 : span = 0
      · rw [if_pos h0] at h
        cases h
        exact b9_eq lS k1 (by omega)
      · rw [if_neg h0] at h
        by_cases hb : bad = 0
        · rw [if_pos hb] at h; cases h
        · rw [if_neg hb] at h
          obtain ⟨r', e⟩ := lS_ok (cl := callF fs 300 (pmT kws) n) (pm := pmT kws) hk (by omega) hs S h
          exact b9_go lS k1 (by omega) e
    · rename_i hq
      have k1 : valT kvs [.inl ((span : Int) + 1), .inl (bad : Int)] = some .non := hk _ _ _ _ hr hq
      cases h
      exact b9_non lS k1
    · cases h
  · cases h
end Qq.N58

set_option maxHeartbeats 400000
namespace Qq.N58
open PySem L2 Q58 Qq.Lw
theorem hS : fs[7]? = some (FSame 7) := rfl
/-- what is known of the defs -/
def clM (f : Nat) (ds : List D) (S : Sto) : R D := match f, ds with
  | 2, [.t (.int lo), .t (.int hi), .t (.int r)] => (match bpO lo hi r with
    | some v => .ok (.t v) S
    | none => .bad)
  | 7, [.t g, .t d] => (match smq 3 g d with
    | true => .ok (.t (.bl true)) S
    | false => .bad)
  | _, _ => .bad
theorem clM_le (n : Nat) : Le clM (callF fs 300 (pmT kws) (n + 1 + 3)) := by
  intro f ds S
  unfold clM
  split
  · split
    · rename_i v hv; exact .inr (bp_ok (n := n + 1) hv).symm
    · exact .inl rfl
  · split
    · rename_i h; exact .inr (smq_ok hS S h).symm
    · exact .inl rfl
  · exact .inl rfl
theorem hand_body : isTru (bodyF 300 clM (pmT kws) F10 [] []) = true := by decide +kernel
theorem hand_ok (n : Nat) : callF fs 300 (pmT kws) (n + 1 + 3 + 1) 10 [] [] = .ok (.t (.bl true)) [] :=
  callF_of (F := F10) rfl rfl (clM_le n) (isTru_ok hand_body)
end Qq.N58

set_option maxHeartbeats 400000
namespace Qq.N58
open PySem L2 Q58 Qq.Lw
def nears : List Int := [0, 0, 1, 7, 1000000000000000000000000000000]
def encN (near : Int) : Option Int → T
  | none => .non
  | some i => .int (i + near)
def chk (near : Int) : Bool := (List.range 6).all fun b => (List.range 31).all fun m => match leN rowsF m b with
  | none => false
  | some o => match bpO near (near + (m : Int)) (b : Int) with
    | none => false
    | some t => atq t (encN near o)
theorem chk0 : chk 0 = true := by decide +kernel
theorem chk1 : chk 1 = true := by decide +kernel
theorem chk7 : chk 7 = true := by decide +kernel
theorem chkM : chk 1000000000000000000000000000000 = true := by decide +kernel
theorem cases_ok {near : Int} {m b : Nat} (hn : near ∈ nears) (hm : m < 31) (hb : b < 6) : ∃ o, leN rowsF m b = some o ∧ bpO near (near + (m : Int)) (b : Int) = some (encN near o) := by
  have h : chk near = true := by
    unfold nears at hn
    simp only [List.mem_cons, List.not_mem_nil, or_false] at hn
    rcases hn with rfl | rfl | rfl | rfl | rfl
    · exact chk0
    · exact chk0
    · exact chk1
    · exact chk7
    · exact chkM
  unfold chk at h
  have h1 := List.all_eq_true.mp h b (List.mem_range.mpr hb)
  have h2 := List.all_eq_true.mp h1 m (List.mem_range.mpr hm)
  split at h2
  · cases h2
  · rename_i o ho
    split at h2
    · cases h2
    · rename_i t ht
      rw [atq_eq h2] at ht
      exact ⟨o, ho, ht⟩
theorem hT : fs[4]? = some (FTake 39659) := rfl
theorem hO : fs[6]? = some (FOf 4) := rfl
theorem hA : fs[8]? = some FAsked := rfl
theorem pw30 : binT .Pow (.int 10) (.int 30) = some (.int 1000000000000000000000000000000) := by kernel_rfl!
def rB : P := (.seq (.par [5, 6, 7] (.cons (.call 6 (.cons (.var 0) (.cons (.lst false (.cons (.cst (.int 0)) (.cons (.cst (.int 0)) (.cons (.cst (.int 1)) (.cons (.cst (.int 7)) (.cons (.bin false .Pow (.cst (.int 10)) (.cst (.int 30))) .nil)))))) .nil))) (.cons (.call 4 (.cons (.var 0) (.cons (.cst (.int 31)) .nil))) (.cons (.call 4 (.cons (.var 0) (.cons (.cst (.int 6)) .nil))) .nil)))) (.seq (.asg (.n 3) (.call 9 (.cons (.var 1) (.cons (.cst (.int 0)) (.cons (.var 6) (.cons (.var 7) .nil)))))) (.seq (.asg (.n 4) (.ife (.cmp .Is (.var 3) (.cst .non)) (.cst .non) (.bin false .Add (.var 3) (.var 5)))) (.seq (.ite (.notV (.tru (.call 7 (.cons (.lst false (.cons (.call 2 (.cons (.var 5) (.cons (.bin false .Add (.var 5) (.var 6)) (.cons (.var 7) .nil)))) (.cons (.callk 2 0 .nil (.cons (.var 7) (.cons (.bin false .Add (.var 5) (.var 6)) (.cons (.var 5) .nil)))) .nil))) (.cons (.lst false (.cons (.var 4) (.cons (.var 4) .nil))) .nil))))) (.seq (.ret (.cst (.bl false))) .nil) .nil) .nil))))
theorem pm0 (d e f : D) : pmT kws 0 [] [d, e, f] = some [f, e, d] := rfl
theorem len5 : (5 : Nat) ≤ line := by unfold line; omega
theorem len2 : (2 : Nat) ≤ line := by unfold line; omega
theorem turn_ok {n k : Nat} {kvs : List (List Key × T)} (hk : Spec kvs rowsF) {j : Cl} (hj : JarOk (k + 3) j) (d : T) (x2 x3 x4 x5 x6 x7 : Option D) : ∃ j' y3 y4 y5 y6 y7, JarOk k j' ∧
    forEl 300 (callF fs 300 (pmT kws) (n + 1 + 2 + 1)) (pmT kws) (.n 2) rB d [some (.o 0), some (.t (.dT kvs)), x2, x3, x4, x5, x6, x7] [j] = .ok (.nx, [some (.o 0), some (.t (.dT kvs)), some (.t d), y3, y4, y5, y6, y7]) [j'] := by
  obtain ⟨t, j1, ht, hj1, e1⟩ := of_ok (wf := 300) (pm := pmT kws) (n := n + 1 + 1) (fs := fs) (k := k + 2) hO hT (by decide) hj [] (ts := nears.map T.int) (by decide) (by decide)
  obtain ⟨near, hn, rfl⟩ := List.mem_map.mp ht
  obtain ⟨m, j2, hm, hj2, e2⟩ := take_ok (wf := 300) (pm := pmT kws) (n := n + 1 + 1 + 1) (fs := fs) (k := k + 1) hT (by decide) hj1 [] (top := 31) (by decide) (by decide)
  obtain ⟨b, j3, hb, hj3, e3⟩ := take_ok (wf := 300) (pm := pmT kws) (n := n + 1 + 1 + 1) (fs := fs) (k := k) hT (by decide) hj2 [] (top := 6) (by decide) (by decide)
  obtain ⟨o, ho, hbp⟩ := cases_ok hn (m := m) (b := b) (by omega) (by omega)
  have e4 := least_ok (n := n + 1 + 2) hk (span := m) (bad := b) (by omega) [j3] ho
  have e5 : ∀ S, callF fs 300 (pmT kws) (n + 1 + 2 + 1) 2 [.t (.int near), .t (.int (near + (m : Int))), .t (.int (b : Int))] S = .ok (.t (encN near o)) S := fun S => bp_ok (n := n + 1) hbp
  have e6 : ∀ S, callF fs 300 (pmT kws) (n + 1 + 2 + 1) 7 [.t (.lst [encN near o, encN near o]), .t (.lst [encN near o, encN near o])] S = .ok (.t (.bl true)) S := fun S => same_ok hS 1 (n + 2) _ S (by cases o <;> simp [pln, encN, atm])
  refine ⟨j3, some (.t (enc o)), some (.t (encN near o)), some (.t (.int near)), some (.t (.int (m : Int))), some (.t (.int (b : Int))), hj3, ?_⟩
  unfold nears at e1
  simp only [List.map_cons, List.map_nil] at e1
  generalize callF fs 300 (pmT kws) (n + 1 + 2 + 1) = cl at *
  have f1 : cl 6 [.o 0, .t (.lst [.int 0, .int 0, .int 1, .int 7, .int 1000000000000000000000000000000])] [j] = .ok (.t (.int near)) [j1] := e1
  have f2 : cl 4 [.o 0, .t (.int 31)] [j1] = .ok (.t (.int (m : Int))) [j2] := e2
  have f3 : cl 4 [.o 0, .t (.int 6)] [j2] = .ok (.t (.int (b : Int))) [j3] := e3
  cases o with
  | none =>
    simp only [enc, encN] at *
    simp [forEl, rB, pw30, f1, f2, f3, e4, asgP, b_add, e5, e6, pm0, is_n, truT, len5, len2]
  | some i =>
    simp only [enc, encN] at *
    simp [forEl, rB, pw30, f1, f2, f3, e4, asgP, b_add, e5, e6, pm0, is_i, truT, len5, len2]
theorem turns {n : Nat} {kvs : List (List Key × T)} (hk : Spec kvs rowsF) : ∀ (ds : List T) (k : Nat) (j : Cl) (x2 x3 x4 x5 x6 x7 : Option D), JarOk (k + 3 * ds.length) j → ∃ j' r', 
    forGo (forEl 300 (callF fs 300 (pmT kws) (n + 1 + 2 + 1)) (pmT kws) (.n 2) rB) ds [some (.o 0), some (.t (.dT kvs)), x2, x3, x4, x5, x6, x7] [j] = .ok (.nx, r') [j']
  | [], k, j, x2, x3, x4, x5, x6, x7, _ => ⟨j, _, rfl⟩
  | d :: ds, k, j, x2, x3, x4, x5, x6, x7, hj => by
    rw [List.length_cons] at hj
    obtain ⟨j1, y3, y4, y5, y6, y7, hj1, e⟩ := turn_ok (n := n) (k := k + 3 * ds.length) hk (j := j) (hj.mono (by omega)) d x2 x3 x4 x5 x6 x7
    obtain ⟨j', r', e2⟩ := turns (n := n) hk ds k j1 (some (.t d)) y3 y4 y5 y6 y7 hj1
    refine ⟨j', r', ?_⟩
    unfold forGo
    rw [e]
    exact e2
def rS : P := (.for_ (.n 2) .r1 (.cons (.cst (.int 15)) .nil) rB)
def F11g (p : P) : FI := ⟨1, 8, false, (.seq (.asg (.n 1) (.call 8 (.cons (.cst (.int 31)) (.cons (.cst (.int 5)) .nil)))) (.seq p (.seq (.ret (.cst (.bl true))) .nil)))⟩
theorem F11_g : F11 = F11g rS := rfl
theorem src15 (S : Sto) : srcT .r1 (.l [.t (.int 15)]) S = some (none, upT 0 15) := rfl
theorem body11 (p : P) {cl : Nat → List D → Sto → R D} {pm : Nat → List D → List D → Option (List D)} {c0 c1 : Cl} {t : T} {r' : Env} (h6 : cl 8 [.t (.int 31), .t (.int 5)] [c0] = .ok (.t t) [c0])
    (h : exec 300 cl pm p [some (.o 0), some (.t t), none, none, none, none, none, none] [c0] = .ok (.nx, r') [c1]) : bodyF 300 cl pm (F11g p) [.o 0] [c0] = .ok (.t (.bl true)) [c1] := by
  unfold bodyF
  simp [F11g, h6, h, fin, R.cut]
theorem right_ok (n : Nat) : RightOk (callF fs 300 (pmT kws) (n + 1 + 2 + 1 + 1)) 11 := by
  intro j hj
  obtain ⟨kvs, hk, e6⟩ := table_ok (pm := pmT kws) hA (n + 1 + 2) j
  obtain ⟨j', r', e⟩ := turns (n := n) hk (upT 0 15) 0 j none none none none none none (hj.mono (by rw [len_upT]; decide))
  refine ⟨j', callF_of (F := F11) rfl rfl (Le.refl _) ?_⟩
  rw [F11_g]
  exact body11 rS e6 (for_ok (ds := [.t (.int 15)]) rfl (src15 _) e)
theorem law_true (ns : List Int) (h1 : ns.length ≤ 63) (h2 : ∀ z ∈ ns, Builtin.Int.intBits z ≤ 1048576) : ∃ S, callF fs 300 (pmT kws) 8 12 [.t (.scr ns)] [] = .ok (.t (.bl true)) S :=
  ⟨[], lawH_ok (n := 6) (m := 3) (iH := 10) (iC := 5) (iB := 3) (iR := 11) (cA := 39659) (cB := 1050158) rfl rfl rfl (by decide) (by decide) (by decide) (hand_ok 2) (right_ok 2) ns h2⟩
end Qq.N58

set_option autoImplicit true
set_option maxHeartbeats 400000
namespace Q58
open PySem L2 Qq
theorem law_true (ns : List Int) (h1 : ns.length ≤ 63) (h2 : ∀ z ∈ ns, Builtin.Int.intBits z ≤ 1048576) : ∃ S, callF fs 300 (pmT kws) 8 12 [.t (.scr ns)] [] = .ok (.t (.bl true)) S := Qq.N58.law_true ns h1 h2
theorem bd0 (kV doc pm : Value) (an : Option Addr) (cdv ct : Value) (us : List Value) (hl : us.length = (["probes", "refusals", "enough"] : List Str).length) : bindArgs (PySem.W.fnOf "many_found" "many_found" (defArgs (top 1)) (defBody (top 1)) (defScope (top 1)) .none kV doc pm an cdv ct) ⟨us, []⟩ = pure ((["probes", "refusals", "enough"] : List Str).zip us) :=
  match us, hl with | [_, _, _], _ => rfl
theorem bd1 (kV doc pm : Value) (an : Option Addr) (cdv ct : Value) (us : List Value) (hl : us.length = (["spare", "refusals"] : List Str).length) : bindArgs (PySem.W.fnOf "fewest_probes" "fewest_probes" (defArgs (top 2)) (defBody (top 2)) (defScope (top 2)) .none kV doc pm an cdv ct) ⟨us, []⟩ = pure ((["spare", "refusals"] : List Str).zip us) :=
  match us, hl with | [_, _], _ => rfl
theorem bd2 (kV doc pm : Value) (an : Option Addr) (cdv ct : Value) (us : List Value) (hl : us.length = (["low", "high", "refusals"] : List Str).length) : bindArgs (PySem.W.fnOf "best_probe" "best_probe" (defArgs (top 3)) (defBody (top 3)) (defScope (top 3)) .none kV doc pm an cdv ct) ⟨us, []⟩ = pure ((["low", "high", "refusals"] : List Str).zip us) :=
  match us, hl with | [_, _, _], _ => rfl
theorem bd3 (kV doc pm : Value) (an : Option Addr) (cdv ct : Value) (us : List Value) (hl : us.length = (["_law_script", "_law_k"] : List Str).length) : bindArgs (PySem.W.fnOf "_law_box" "_law_box" (defArgs (top 5)) (defBody (top 5)) (defScope (top 5)) .none kV doc pm an cdv ct) ⟨us, []⟩ = pure ((["_law_script", "_law_k"] : List Str).zip us) :=
  match us, hl with | [_, _], _ => rfl
theorem bd4 (kV doc pm : Value) (an : Option Addr) (cdv ct : Value) (us : List Value) (hl : us.length = (["_law_jar", "_law_top_so"] : List Str).length) : bindArgs (PySem.W.fnOf "_law_take" "_law_take" (defArgs (top 6)) (defBody (top 6)) (defScope (top 6)) .none kV doc pm an cdv ct) ⟨us, []⟩ = pure ((["_law_jar", "_law_top_so"] : List Str).zip us) :=
  match us, hl with | [_, _], _ => rfl
theorem bd5 (kV doc pm : Value) (an : Option Addr) (cdv ct : Value) (us : List Value) (hl : us.length = (["_law_script", "_law_most_so"] : List Str).length) : bindArgs (PySem.W.fnOf "_law_cells" "_law_cells" (defArgs (top 7)) (defBody (top 7)) (defScope (top 7)) .none kV doc pm an cdv ct) ⟨us, []⟩ = pure ((["_law_script", "_law_most_so"] : List Str).zip us) :=
  match us, hl with | [_, _], _ => rfl
theorem bd6 (kV doc pm : Value) (an : Option Addr) (cdv ct : Value) (us : List Value) (hl : us.length = (["_law_jar", "_law_some_so"] : List Str).length) : bindArgs (PySem.W.fnOf "_law_of" "_law_of" (defArgs (top 8)) (defBody (top 8)) (defScope (top 8)) .none kV doc pm an cdv ct) ⟨us, []⟩ = pure ((["_law_jar", "_law_some_so"] : List Str).zip us) :=
  match us, hl with | [_, _], _ => rfl
theorem bd7 (kV doc pm : Value) (an : Option Addr) (cdv ct : Value) (us : List Value) (hl : us.length = (["_law_got", "_law_goal"] : List Str).length) : bindArgs (PySem.W.fnOf "_law_same" "_law_same" (defArgs (top 9)) (defBody (top 9)) (defScope (top 9)) .none kV doc pm an cdv ct) ⟨us, []⟩ = pure ((["_law_got", "_law_goal"] : List Str).zip us) :=
  match us, hl with | [_, _], _ => rfl
theorem bd8 (kV doc pm : Value) (an : Option Addr) (cdv ct : Value) (us : List Value) (hl : us.length = (["_law_most_so", "_law_fails_so"] : List Str).length) : bindArgs (PySem.W.fnOf "_law_fewest_asked" "_law_fewest_asked" (defArgs (top 10)) (defBody (top 10)) (defScope (top 10)) .none kV doc pm an cdv ct) ⟨us, []⟩ = pure ((["_law_most_so", "_law_fails_so"] : List Str).zip us) :=
  match us, hl with | [_, _], _ => rfl
theorem bd9 (kV doc pm : Value) (an : Option Addr) (cdv ct : Value) (us : List Value) (hl : us.length = (["_law_table", "_law_near_so", "_law_top_so", "_law_bad"] : List Str).length) : bindArgs (PySem.W.fnOf "_law_least" "_law_least" (defArgs (top 11)) (defBody (top 11)) (defScope (top 11)) .none kV doc pm an cdv ct) ⟨us, []⟩ = pure ((["_law_table", "_law_near_so", "_law_top_so", "_law_bad"] : List Str).zip us) :=
  match us, hl with | [_, _, _, _], _ => rfl
theorem bd10 (kV doc pm : Value) (an : Option Addr) (cdv ct : Value) (us : List Value) (hl : us.length = ([] : List Str).length) : bindArgs (PySem.W.fnOf "_law_hand_right" "_law_hand_right" (defArgs (top 12)) (defBody (top 12)) (defScope (top 12)) .none kV doc pm an cdv ct) ⟨us, []⟩ = pure (([] : List Str).zip us) :=
  match us, hl with | [], _ => rfl
theorem bd11 (kV doc pm : Value) (an : Option Addr) (cdv ct : Value) (us : List Value) (hl : us.length = (["_law_jar"] : List Str).length) : bindArgs (PySem.W.fnOf "_law_right" "_law_right" (defArgs (top 13)) (defBody (top 13)) (defScope (top 13)) .none kV doc pm an cdv ct) ⟨us, []⟩ = pure ((["_law_jar"] : List Str).zip us) :=
  match us, hl with | [_], _ => rfl
theorem bd12 (kV doc pm : Value) (an : Option Addr) (cdv ct : Value) (us : List Value) (hl : us.length = (["_law_script"] : List Str).length) : bindArgs (PySem.W.fnOf "law" "law" (defArgs (top 14)) (defBody (top 14)) (defScope (top 14)) .none kV doc pm an cdv ct) ⟨us, []⟩ = pure ((["_law_script"] : List Str).zip us) :=
  match us, hl with | [_], _ => rfl
theorem kw0 (kV doc pm : Value) (an : Option Addr) (cdv ct : Value) (us ws : List Value) (h1 : us.length = 0) (h2 : ws.length = (["refusals", "high", "low"] : List Str).length) : bindArgs (PySem.W.fnOf "best_probe" "best_probe" (defArgs (top 3)) (defBody (top 3)) (defScope (top 3)) .none kV doc pm an cdv ct) ⟨us, (["refusals", "high", "low"] : List Str).zip ws⟩ = pure ((["low", "high", "refusals"] : List Str).zip (([2, 1, 0] : List Nat).map fun j => (us ++ ws).getD j .none)) :=
  match us, h1, ws, h2 with | [], _, [_, _, _], _ => rfl
theorem mk {l : PySem.W.OpenLaw} {w : World} {K : PySem.W.Frag} {h : Heap} {mg : Str → Option Value} {fa f0 f1 f2 f3 f4 f5 f6 f7 f8 f9 f10 f11 f12 : Addr} {od0 an0 od1 an1 od2 an2 od3 an3 od4 an4 od5 an5 od6 an6 od7 an7 od8 an8 od9 an9 od10 an10 od11 an11 od12 an12 : Option Addr} {sl0 sl1 sl2 sl3 sl4 sl5 sl6 sl7 sl8 sl9 sl10 sl11 sl12 : Array (Option Value)} {oc0 kV0 dc0 pm0 cd0 ct0 oc1 kV1 dc1 pm1 cd1 ct1 oc2 kV2 dc2 pm2 cd2 ct2 oc3 kV3 dc3 pm3 cd3 ct3 oc4 kV4 dc4 pm4 cd4 ct4 oc5 kV5 dc5 pm5 cd5 ct5 oc6 kV6 dc6 pm6 cd6 ct6 oc7 kV7 dc7 pm7 cd7 ct7 oc8 kV8 dc8 pm8 cd8 ct8 oc9 kV9 dc9 pm9 cd9 ct9 oc10 kV10 dc10 pm10 cd10 ct10 oc11 kV11 dc11 pm11 cd11 ct11 oc12 kV12 dc12 pm12 cd12 ct12 : Value} (X : K.In h) (G : h.Ns mainGlobals mg) (hfa : mg "law" = some (.ref fa))
    (a0 : PySem.W.nsIn K mainGlobals "many_found" = some (some (.ref f0))) (l0 : K.lookup f0 = some ⟨oc0, od0, .func (PySem.W.fnOf "many_found" "many_found" (defArgs (top 1)) (defBody (top 1)) (defScope (top 1)) .none kV0 dc0 pm0 an0 cd0 ct0), sl0⟩) (c0 : PySem.W.codeIn K cd0 "many_found" = true) (k0 : PySem.W.keepIn K (.ref f0) = true)
    (a1 : PySem.W.nsIn K mainGlobals "fewest_probes" = some (some (.ref f1))) (l1 : K.lookup f1 = some ⟨oc1, od1, .func (PySem.W.fnOf "fewest_probes" "fewest_probes" (defArgs (top 2)) (defBody (top 2)) (defScope (top 2)) .none kV1 dc1 pm1 an1 cd1 ct1), sl1⟩) (c1 : PySem.W.codeIn K cd1 "fewest_probes" = true) (k1 : PySem.W.keepIn K (.ref f1) = true)
    (a2 : PySem.W.nsIn K mainGlobals "best_probe" = some (some (.ref f2))) (l2 : K.lookup f2 = some ⟨oc2, od2, .func (PySem.W.fnOf "best_probe" "best_probe" (defArgs (top 3)) (defBody (top 3)) (defScope (top 3)) .none kV2 dc2 pm2 an2 cd2 ct2), sl2⟩) (c2 : PySem.W.codeIn K cd2 "best_probe" = true) (k2 : PySem.W.keepIn K (.ref f2) = true)
    (a3 : PySem.W.nsIn K mainGlobals "_law_box" = some (some (.ref f3))) (l3 : K.lookup f3 = some ⟨oc3, od3, .func (PySem.W.fnOf "_law_box" "_law_box" (defArgs (top 5)) (defBody (top 5)) (defScope (top 5)) .none kV3 dc3 pm3 an3 cd3 ct3), sl3⟩) (c3 : PySem.W.codeIn K cd3 "_law_box" = true) (k3 : PySem.W.keepIn K (.ref f3) = true)
    (a4 : PySem.W.nsIn K mainGlobals "_law_take" = some (some (.ref f4))) (l4 : K.lookup f4 = some ⟨oc4, od4, .func (PySem.W.fnOf "_law_take" "_law_take" (defArgs (top 6)) (defBody (top 6)) (defScope (top 6)) .none kV4 dc4 pm4 an4 cd4 ct4), sl4⟩) (c4 : PySem.W.codeIn K cd4 "_law_take" = true) (k4 : PySem.W.keepIn K (.ref f4) = true)
    (a5 : PySem.W.nsIn K mainGlobals "_law_cells" = some (some (.ref f5))) (l5 : K.lookup f5 = some ⟨oc5, od5, .func (PySem.W.fnOf "_law_cells" "_law_cells" (defArgs (top 7)) (defBody (top 7)) (defScope (top 7)) .none kV5 dc5 pm5 an5 cd5 ct5), sl5⟩) (c5 : PySem.W.codeIn K cd5 "_law_cells" = true) (k5 : PySem.W.keepIn K (.ref f5) = true)
    (a6 : PySem.W.nsIn K mainGlobals "_law_of" = some (some (.ref f6))) (l6 : K.lookup f6 = some ⟨oc6, od6, .func (PySem.W.fnOf "_law_of" "_law_of" (defArgs (top 8)) (defBody (top 8)) (defScope (top 8)) .none kV6 dc6 pm6 an6 cd6 ct6), sl6⟩) (c6 : PySem.W.codeIn K cd6 "_law_of" = true) (k6 : PySem.W.keepIn K (.ref f6) = true)
    (a7 : PySem.W.nsIn K mainGlobals "_law_same" = some (some (.ref f7))) (l7 : K.lookup f7 = some ⟨oc7, od7, .func (PySem.W.fnOf "_law_same" "_law_same" (defArgs (top 9)) (defBody (top 9)) (defScope (top 9)) .none kV7 dc7 pm7 an7 cd7 ct7), sl7⟩) (c7 : PySem.W.codeIn K cd7 "_law_same" = true) (k7 : PySem.W.keepIn K (.ref f7) = true)
    (a8 : PySem.W.nsIn K mainGlobals "_law_fewest_asked" = some (some (.ref f8))) (l8 : K.lookup f8 = some ⟨oc8, od8, .func (PySem.W.fnOf "_law_fewest_asked" "_law_fewest_asked" (defArgs (top 10)) (defBody (top 10)) (defScope (top 10)) .none kV8 dc8 pm8 an8 cd8 ct8), sl8⟩) (c8 : PySem.W.codeIn K cd8 "_law_fewest_asked" = true) (k8 : PySem.W.keepIn K (.ref f8) = true)
    (a9 : PySem.W.nsIn K mainGlobals "_law_least" = some (some (.ref f9))) (l9 : K.lookup f9 = some ⟨oc9, od9, .func (PySem.W.fnOf "_law_least" "_law_least" (defArgs (top 11)) (defBody (top 11)) (defScope (top 11)) .none kV9 dc9 pm9 an9 cd9 ct9), sl9⟩) (c9 : PySem.W.codeIn K cd9 "_law_least" = true) (k9 : PySem.W.keepIn K (.ref f9) = true)
    (a10 : PySem.W.nsIn K mainGlobals "_law_hand_right" = some (some (.ref f10))) (l10 : K.lookup f10 = some ⟨oc10, od10, .func (PySem.W.fnOf "_law_hand_right" "_law_hand_right" (defArgs (top 12)) (defBody (top 12)) (defScope (top 12)) .none kV10 dc10 pm10 an10 cd10 ct10), sl10⟩) (c10 : PySem.W.codeIn K cd10 "_law_hand_right" = true) (k10 : PySem.W.keepIn K (.ref f10) = true)
    (a11 : PySem.W.nsIn K mainGlobals "_law_right" = some (some (.ref f11))) (l11 : K.lookup f11 = some ⟨oc11, od11, .func (PySem.W.fnOf "_law_right" "_law_right" (defArgs (top 13)) (defBody (top 13)) (defScope (top 13)) .none kV11 dc11 pm11 an11 cd11 ct11), sl11⟩) (c11 : PySem.W.codeIn K cd11 "_law_right" = true) (k11 : PySem.W.keepIn K (.ref f11) = true)
    (a12 : PySem.W.nsIn K mainGlobals "law" = some (some (.ref f12))) (l12 : K.lookup f12 = some ⟨oc12, od12, .func (PySem.W.fnOf "law" "law" (defArgs (top 14)) (defBody (top 14)) (defScope (top 14)) .none kV12 dc12 pm12 an12 cd12 ct12), sl12⟩) (c12 : PySem.W.codeIn K cd12 "law" = true) (k12 : PySem.W.keepIn K (.ref f12) = true)
    (z0 : PySem.W.nsIn K mainGlobals "len" = some none)
    (z1 : PySem.W.nsIn K mainGlobals "abs" = some none)
    (z2 : PySem.W.nsIn K mainGlobals "int" = some none)
    (z3 : PySem.W.nsIn K mainGlobals "str" = some none)
    (z4 : PySem.W.nsIn K mainGlobals "min" = some none)
    (z5 : PySem.W.nsIn K mainGlobals "max" = some none)
    (z6 : PySem.W.nsIn K mainGlobals "all" = some none)
    (z7 : PySem.W.nsIn K mainGlobals "any" = some none)
    (z8 : PySem.W.nsIn K mainGlobals "sum" = some none)
    (z9 : PySem.W.nsIn K mainGlobals "list" = some none)
    (z10 : PySem.W.nsIn K mainGlobals "tuple" = some none)
    (z11 : PySem.W.nsIn K mainGlobals "sorted" = some none)
    (z12 : PySem.W.nsIn K mainGlobals "range" = some none)
    (z13 : PySem.W.nsIn K mainGlobals "enumerate" = some none)
    (z14 : PySem.W.nsIn K mainGlobals "zip" = some none)
    (z15 : PySem.W.nsIn K mainGlobals "isinstance" = some none)
    (z16 : PySem.W.nsIn K mainGlobals "bool" = some none)
    (z17 : PySem.W.nsIn K mainGlobals "dict" = some none)
    (z18 : PySem.W.nsIn K mainGlobals "set" = some none) :
    ∃ fd : FuncData, (∀ (s : Shared) (v : Value), BindsTo s fd ⟨[v], []⟩ [("_law_script", v)]) ∧ ∀ base : Heap, K.In base → base.Ns mainGlobals mg → FnOk l.prog w K mg base (L2.CX l.prog w) 8 fa fd ["_law_script"] (spF K (callF fs 300 (pmT kws) 8) 12 1) := by
  have e := hfa.symm.trans (PySem.W.mg_of X G a12)
  cases e
  have hD : ∀ d ∈ dfs, DfAt K mg d := by
    intro d hd
    unfold dfs at hd
    simp only [List.mem_cons, List.not_mem_nil, or_false] at hd
    rcases hd with rfl | rfl | rfl | rfl | rfl | rfl | rfl | rfl | rfl | rfl | rfl | rfl | rfl
    · exact dfAt X G a0 l0 c0 k0 bd0
    · exact dfAt X G a1 l1 c1 k1 bd1
    · exact dfAt X G a2 l2 c2 k2 bd2
    · exact dfAt X G a3 l3 c3 k3 bd3
    · exact dfAt X G a4 l4 c4 k4 bd4
    · exact dfAt X G a5 l5 c5 k5 bd5
    · exact dfAt X G a6 l6 c6 k6 bd6
    · exact dfAt X G a7 l7 c7 k7 bd7
    · exact dfAt X G a8 l8 c8 k8 bd8
    · exact dfAt X G a9 l9 c9 k9 bd9
    · exact dfAt X G a10 l10 c10 k10 bd10
    · exact dfAt X G a11 l11 c11 k11 bd11
    · exact dfAt X G a12 l12 c12 k12 bd12
  have hb : ∀ x, bltOnes.contains x = true → mg x = none := fun x hx => by
    have hx : x ∈ bltOnes := by simpa using hx
    unfold bltOnes at hx
    simp only [List.mem_cons, List.not_mem_nil, or_false] at hx
    rcases hx with rfl | rfl | rfl | rfl | rfl | rfl | rfl | rfl | rfl | rfl | rfl | rfl | rfl | rfl | rfl | rfl | rfl | rfl | rfl
    · exact PySem.W.mg_none_of X G z0
    · exact PySem.W.mg_none_of X G z1
    · exact PySem.W.mg_none_of X G z2
    · exact PySem.W.mg_none_of X G z3
    · exact PySem.W.mg_none_of X G z4
    · exact PySem.W.mg_none_of X G z5
    · exact PySem.W.mg_none_of X G z6
    · exact PySem.W.mg_none_of X G z7
    · exact PySem.W.mg_none_of X G z8
    · exact PySem.W.mg_none_of X G z9
    · exact PySem.W.mg_none_of X G z10
    · exact PySem.W.mg_none_of X G z11
    · exact PySem.W.mg_none_of X G z12
    · exact PySem.W.mg_none_of X G z13
    · exact PySem.W.mg_none_of X G z14
    · exact PySem.W.mg_none_of X G z15
    · exact PySem.W.mg_none_of X G z16
    · exact PySem.W.mg_none_of X G z17
    · exact PySem.W.mg_none_of X G z18
  have hk : ∀ q ∈ kws, KwOk dfs q := fun q hq => by
    unfold kws at hq
    simp only [List.mem_cons, List.not_mem_nil, or_false] at hq
    rcases hq with rfl
    · exact ⟨⟨_, rfl, rfl, rfl, kw0⟩, by simp⟩
  refine ⟨PySem.W.fnOf "law" "law" (defArgs (top 14)) (defBody (top 14)) (defScope (top 14)) .none kV12 dc12 pm12 an12 cd12 ct12, fun s v => .of_eq rfl, fun base _ _ => ?_⟩
  exact all_ok (ds := dfs) (fun i d hi => hD d (List.mem_of_getElem? hi)) (ht_of tr_ok sc_ok) hk hb 8 12 _ rfl _ _ (PySem.W.mg_of X G a12) (fun_mk l12 c12 k12)
end Q58
open PySem PySem.W PyProof.Rows
set_option maxRecDepth 100000 in
set_option maxHeartbeats 0 in
theorem PySem.Challenge.cw_raisedlimits_k58_the_least_number_to_be_holds : PySem.Challenge.rw_raisedlimits_k58_the_least_number_to_be.Holds := by
  w_on; o_law; k_head; (case hw => w_witness2)
  k_fill
  refine Qq.walkQ (l := PySem.Challenge.rw_raisedlimits_k58_the_least_number_to_be) (fs := Q58.fs) (pm := Qq.pmT Q58.kws) (wf := 300) (n := 8) (f := 12) (x := "_law_script") rfl rfl ⟨rfl, by decide, by decide⟩ (fun w h Y => PySem.W.kIn_of Y) ?F Q58.law_true
  case F =>
    intro w mg fa h KX G hmg
    refine' Q58.mk KX G hmg ?a0 ?l0 ?c0 ?k0 ?a1 ?l1 ?c1 ?k1 ?a2 ?l2 ?c2 ?k2 ?a3 ?l3 ?c3 ?k3 ?a4 ?l4 ?c4 ?k4 ?a5 ?l5 ?c5 ?k5 ?a6 ?l6 ?c6 ?k6 ?a7 ?l7 ?c7 ?k7 ?a8 ?l8 ?c8 ?k8 ?a9 ?l9 ?c9 ?k9 ?a10 ?l10 ?c10 ?k10 ?a11 ?l11 ?c11 ?k11 ?a12 ?l12 ?c12 ?k12 ?z0 ?z1 ?z2 ?z3 ?z4 ?z5 ?z6 ?z7 ?z8 ?z9 ?z10 ?z11 ?z12 ?z13 ?z14 ?z15 ?z16 ?z17 ?z18
    (case a0 => k_is)
    (case l0 => k_is)
    (case c0 => k_is)
    (case k0 => k_is)
    (case a1 => k_is)
    (case l1 => k_is)
    (case c1 => k_is)
    (case k1 => k_is)
    (case a2 => k_is)
    (case l2 => k_is)
    (case c2 => k_is)
    (case k2 => k_is)
    (case a3 => k_is)
    (case l3 => k_is)
    (case c3 => k_is)
    (case k3 => k_is)
    (case a4 => k_is)
    (case l4 => k_is)
    (case c4 => k_is)
    (case k4 => k_is)
    (case a5 => k_is)
    (case l5 => k_is)
    (case c5 => k_is)
    (case k5 => k_is)
    (case a6 => k_is)
    (case l6 => k_is)
    (case c6 => k_is)
    (case k6 => k_is)
    (case a7 => k_is)
    (case l7 => k_is)
    (case c7 => k_is)
    (case k7 => k_is)
    (case a8 => k_is)
    (case l8 => k_is)
    (case c8 => k_is)
    (case k8 => k_is)
    (case a9 => k_is)
    (case l9 => k_is)
    (case c9 => k_is)
    (case k9 => k_is)
    (case a10 => k_is)
    (case l10 => k_is)
    (case c10 => k_is)
    (case k10 => k_is)
    (case a11 => k_is)
    (case l11 => k_is)
    (case c11 => k_is)
    (case k11 => k_is)
    (case a12 => k_is)
    (case l12 => k_is)
    (case c12 => k_is)
    (case k12 => k_is)
    (case z0 => k_is)
    (case z1 => k_is)
    (case z2 => k_is)
    (case z3 => k_is)
    (case z4 => k_is)
    (case z5 => k_is)
    (case z6 => k_is)
    (case z7 => k_is)
    (case z8 => k_is)
    (case z9 => k_is)
    (case z10 => k_is)
    (case z11 => k_is)
    (case z12 => k_is)
    (case z13 => k_is)
    (case z14 => k_is)
    (case z15 => k_is)
    (case z16 => k_is)
    (case z17 => k_is)
    (case z18 => k_is)
